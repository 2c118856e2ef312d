import PyProof.Rows.All
import Wide.All
import OpenK.AllK
import Wide.FinOn
import HandS.ForMost
import HandS.ForExc
import HandS.Property
import HandS.Defaults
import HandS.MakeKwOnly
import HandS.CallSlots
import HandS.OwnEq
import HandS.Deep
import HandS.Flow
import HandS.Conv
import HandS.IsInst
import HandS.Style
import HandS.StrMore
import HandS.Lambda
import PyProof.EqKinds
import KE.LtSeq
import KE.DataCmp
import PyProof.NeKinds
import HandS.TupAny
import HandS.TupLe
import HandS.Codes
import HandS.Wide
import HandS.ExcInit
import HandS.ExcSuper
import KE.KExcSuper
import KE.KSuper
import HandS.TryMany
import HandS.ExcField
import HandS.Text
import PyProof.ListStr
import PyProof.TupleOfStr
import PyProof.SliceStr2
import PyProof.Rows.StrRev
import PyProof.Rows.SortShellAny
import PyProof.CollectStr
import HandS.List
import HandS.Replace
import HandS.HeadNt
import HandS.Head0
import HandS.Head1
import HandS.Head2
import HandS.HeadEnd
import HandS.HeadHook1
import HandS.HeadHook2
import HandS.TupSets
import HandS.SetBool
import KE.KeyNested
import KE.SortData
import KE.KCallOwn
import KE.KOpsOwn
import HandS.HeadHook3
import HandS.WrittenGet
import OpenK.KMeth
import KE.SortKeyHeap
import HandS.Nested
import HandS.EndTab
import HandS.HeadWalk
import HandS.HeadHook4
import KE.KTupSum
import PySem.Challenge.RW_betweenlists_k06_pieces_say
set_option Elab.async false
set_option linter.all false
set_option maxRecDepth 100000
/-! DL1: deep values D over the hand layer: what is never written again is a plain value; what is written lies in the map M. -/
namespace DL
open PySem PySem.Spec L2

/-- a deep value: tuples, lists and instances that nobody writes any more are plain trees; ref: what is kept in M (or a def, a class) -/
inductive D where
  | non | bl (b : Bool) | int (i : Int) | str (x : Str) | ty (n : String) | ref (a : Addr)
  | tup (xs : List D) | lst (xs : List D) | ins (C : Addr) (ns : List Str) (xs : List D)
  /-- the script -/
  | scr (xs : List D)

mutual
def Rep (K : PySem.W.Frag) (F : Hp) : D → V → Prop
  | .non, v => v = .non
  | .bl b, v => v = .bl b
  | .int i, v => v = .int i
  | .str x, v => v = .str x
  | .ty n, v => v = .ty n
  | .ref a, v => v = .ref a
  | .tup xs, v => ∃ a vs, v = .ref a ∧ SqT K F a vs ∧ RepL K F xs vs
  | .lst xs, v => ∃ a vs, v = .ref a ∧ F a = some (.lst vs) ∧ RepL K F xs vs
  | .scr xs, v => ∃ a vs, v = .ref a ∧ SqL K F a vs ∧ RepL K F xs vs
  | .ins C ns xs, v => ∃ a dx vs, v = .ref a ∧ F a = some (.ins C dx (ns.zip vs)) ∧ ns.length = vs.length ∧ RepL K F xs vs
def RepL (K : PySem.W.Frag) (F : Hp) : List D → List V → Prop
  | [], vs => vs = []
  | x :: xs, vs => ∃ v r, vs = v :: r ∧ Rep K F x v ∧ RepL K F xs r
end

theorem SqT_mono {K : PySem.W.Frag} {F F' : Hp} {a : Addr} {vs : List V} (e : Same F F') (h : SqT K F a vs) : SqT K F' a vs := by
  rcases h with (h | ⟨o, h⟩) | h
  · exact .inl (.inl (e _ _ h))
  · exact .inl (.inr ⟨o, e _ _ h⟩)
  · exact .inr h
theorem SqL_mono {K : PySem.W.Frag} {F F' : Hp} {a : Addr} {vs : List V} (e : Same F F') (h : SqL K F a vs) : SqL K F' a vs := e.seq h

mutual
theorem Rep.mono {K : PySem.W.Frag} {F F' : Hp} (e : Same F F') : ∀ {d : D} {v : V}, Rep K F d v → Rep K F' d v
  | .non, _, h => h
  | .bl _, _, h => h
  | .int _, _, h => h
  | .str _, _, h => h
  | .ty _, _, h => h
  | .ref _, _, h => h
  | .tup xs, _, h => by
    unfold Rep at h ⊢
    obtain ⟨a, vs, h1, h2, h3⟩ := h
    exact ⟨a, vs, h1, SqT_mono e h2, RepL.mono e h3⟩
  | .lst xs, _, h => by
    unfold Rep at h ⊢
    obtain ⟨a, vs, h1, h2, h3⟩ := h
    exact ⟨a, vs, h1, e _ _ h2, RepL.mono e h3⟩
  | .scr xs, _, h => by
    unfold Rep at h ⊢
    obtain ⟨a, vs, h1, h2, h3⟩ := h
    exact ⟨a, vs, h1, SqL_mono e h2, RepL.mono e h3⟩
  | .ins C ns xs, _, h => by
    unfold Rep at h ⊢
    obtain ⟨a, dx, vs, h1, h2, h3, h4⟩ := h
    exact ⟨a, dx, vs, h1, e _ _ h2, h3, RepL.mono e h4⟩
theorem RepL.mono {K : PySem.W.Frag} {F F' : Hp} (e : Same F F') : ∀ {xs : List D} {vs : List V}, RepL K F xs vs → RepL K F' xs vs
  | [], _, h => h
  | x :: xs, _, h => by
    unfold RepL at h ⊢
    obtain ⟨v, r, h1, h2, h3⟩ := h
    exact ⟨v, r, h1, Rep.mono e h2, RepL.mono e h3⟩
end

section
variable {K : PySem.W.Frag} {F F' : Hp}
theorem RepL.nil : RepL K F [] [] := by unfold RepL; rfl
theorem RepL.cons {x : D} {xs : List D} {v : V} {vs : List V} (h : Rep K F x v) (t : RepL K F xs vs) : RepL K F (x :: xs) (v :: vs) := by
  unfold RepL; exact ⟨v, vs, rfl, h, t⟩
theorem RepL.length : ∀ {xs : List D} {vs : List V}, RepL K F xs vs → xs.length = vs.length
  | [], _, h => by unfold RepL at h; subst h; rfl
  | x :: xs, _, h => by
    unfold RepL at h
    obtain ⟨v, r, rfl, _, h3⟩ := h
    simp [RepL.length h3]
theorem RepL.get : ∀ {xs : List D} {vs : List V} {i : Nat} {x : D}, RepL K F xs vs → xs[i]? = some x → ∃ v, vs[i]? = some v ∧ Rep K F x v
  | [], _, _, _, _, e => by simp at e
  | y :: ys, _, 0, x, h, e => by
    unfold RepL at h
    obtain ⟨v, r, rfl, h2, _⟩ := h
    simp at e; subst e
    exact ⟨v, rfl, h2⟩
  | y :: ys, _, i + 1, x, h, e => by
    unfold RepL at h
    obtain ⟨v, r, rfl, _, h3⟩ := h
    obtain ⟨w, h4, h5⟩ := RepL.get (i := i) h3 (by simpa using e)
    exact ⟨w, by simpa using h4, h5⟩
theorem RepL.getV : ∀ {xs : List D} {vs : List V} {i : Nat} {v : V}, RepL K F xs vs → vs[i]? = some v → ∃ x, xs[i]? = some x ∧ Rep K F x v := fun {xs vs i v} h e => by
  have hi : i < vs.length := (List.getElem?_eq_some_iff.mp e).1
  have hx : i < xs.length := by rw [h.length]; exact hi
  obtain ⟨w, h1, h2⟩ := h.get (i := i) (x := xs[i]) (by simp [hx])
  rw [e] at h1; cases h1
  exact ⟨xs[i], by simp [hx], h2⟩
theorem RepL.append : ∀ {xs ys : List D} {vs ws : List V}, RepL K F xs vs → RepL K F ys ws → RepL K F (xs ++ ys) (vs ++ ws)
  | [], _, _, _, h, t => by unfold RepL at h; subst h; exact t
  | x :: xs, ys, _, ws, h, t => by
    unfold RepL at h
    obtain ⟨v, r, rfl, h2, h3⟩ := h
    exact RepL.cons h2 (h3.append t)
theorem RepL.take : ∀ {xs : List D} {vs : List V} (n : Nat), RepL K F xs vs → RepL K F (xs.take n) (vs.take n)
  | [], _, n, h => by unfold RepL at h; subst h; simp; exact RepL.nil
  | x :: xs, _, 0, h => by simp; exact RepL.nil
  | x :: xs, _, n + 1, h => by
    unfold RepL at h
    obtain ⟨v, r, rfl, h2, h3⟩ := h
    exact RepL.cons h2 (h3.take n)
theorem RepL.drop : ∀ {xs : List D} {vs : List V} (n : Nat), RepL K F xs vs → RepL K F (xs.drop n) (vs.drop n)
  | [], _, n, h => by unfold RepL at h; subst h; simp; exact RepL.nil
  | x :: xs, _, 0, h => by simpa using h
  | x :: xs, _, n + 1, h => by
    unfold RepL at h
    obtain ⟨v, r, rfl, h2, h3⟩ := h
    exact h3.drop n
theorem RepL.set {x : D} {v : V} (r : Rep K F x v) : ∀ {xs : List D} {vs : List V} (i : Nat), RepL K F xs vs → RepL K F (xs.set i x) (vs.set i v)
  | [], _, _, h => by unfold RepL at h; subst h; exact RepL.nil
  | y :: ys, _, 0, h => by
    unfold RepL at h
    obtain ⟨w, q, rfl, h2, h3⟩ := h
    exact RepL.cons r h3
  | y :: ys, _, i + 1, h => by
    unfold RepL at h
    obtain ⟨w, q, rfl, h2, h3⟩ := h
    exact RepL.cons h2 (RepL.set r i h3)
theorem RepL.reverse : ∀ {xs : List D} {vs : List V}, RepL K F xs vs → RepL K F xs.reverse vs.reverse
  | [], _, h => by unfold RepL at h; subst h; exact RepL.nil
  | x :: xs, _, h => by
    unfold RepL at h
    obtain ⟨v, r, rfl, h2, h3⟩ := h
    rw [List.reverse_cons, List.reverse_cons]
    exact (RepL.reverse h3).append (RepL.cons h2 RepL.nil)
theorem RepL.flat {xs : List D} {vs : List V} (h : RepL K F xs vs) : ∀ k : Nat, RepL K F (List.replicate k xs).flatten (List.replicate k vs).flatten
  | 0 => RepL.nil
  | k + 1 => by
    simp only [List.replicate_succ, List.flatten_cons]
    exact h.append (RepL.flat h k)
/-- from pairs of values -/
theorem RepL.nilV {vs : List V} (h : RepL K F [] vs) : vs = [] := by unfold RepL at h; exact h
theorem RepL.consV {x : D} {xs : List D} {vs : List V} (h : RepL K F (x :: xs) vs) : ∃ v r, vs = v :: r ∧ Rep K F x v ∧ RepL K F xs r := by unfold RepL at h; exact h
end

/-! ### fields -/
def RepF (K : PySem.W.Frag) (F : Hp) : List (Str × D) → List (Str × V) → Prop := Paired fun p q => p.1 = q.1 ∧ Rep K F p.2 q.2
theorem RepF.mono {K : PySem.W.Frag} {F F' : Hp} (e : Same F F') {fs : List (Str × D)} {vs : List (Str × V)} (h : RepF K F fs vs) : RepF K F' fs vs := Paired.mapP h fun _ _ z => ⟨z.1, z.2.mono e⟩
theorem lookup_hd {α : Type} (n : Str) (x : α) (r : List (Str × α)) (f : Str) : ((n, x) :: r).lookup f = if f = n then some x else r.lookup f := by
  by_cases h : f = n
  · subst h; simp [List.lookup]
  · have e : (f == n) = false := by simpa using h
    rw [if_neg h]; simp [List.lookup, e]
theorem RepF.look {K : PySem.W.Frag} {F : Hp} {f : Str} : ∀ {fs : List (Str × D)} {vs : List (Str × V)}, RepF K F fs vs → (∀ x, fs.lookup f = some x → ∃ v, vs.lookup f = some v ∧ Rep K F x v) ∧ (fs.lookup f = none → vs.lookup f = none)
  | _, _, .nil => ⟨fun _ h => by simp at h, fun _ => rfl⟩
  | (n, x) :: fs, (m, v) :: vs, .cons r t => by
    obtain ⟨e, r⟩ := r
    have e : n = m := e
    subst e
    have ih := RepF.look (f := f) (show RepF K F fs vs from t)
    rw [lookup_hd, lookup_hd]
    by_cases h : f = n
    · rw [if_pos h, if_pos h]
      exact ⟨fun y e => by cases e; exact ⟨v, rfl, r⟩, fun e => by cases e⟩
    · rw [if_neg h, if_neg h]; exact ih
def putD (f : Str) (x : D) : List (Str × D) → List (Str × D)
  | [] => [(f, x)]
  | (g, y) :: r => if g = f then (g, x) :: r else (g, y) :: putD f x r
theorem RepF.put {K : PySem.W.Frag} {F : Hp} {f : Str} {x : D} {v : V} (rx : Rep K F x v) : ∀ {fs : List (Str × D)} {vs : List (Str × V)}, RepF K F fs vs → RepF K F (putD f x fs) (putF f v vs)
  | _, _, .nil => .cons ⟨rfl, rx⟩ .nil
  | (n, y) :: fs, (m, w) :: vs, .cons r t => by
    obtain ⟨e, r⟩ := r
    have e : n = m := e
    subst e
    show RepF K F (if n = f then _ else _) (if n = f then _ else _)
    by_cases h : n = f
    · rw [if_pos h, if_pos h]; exact .cons ⟨rfl, rx⟩ t
    · rw [if_neg h, if_neg h]; exact .cons ⟨rfl, r⟩ (RepF.put rx t)
theorem RepF.length {K : PySem.W.Frag} {F : Hp} {fs : List (Str × D)} {vs : List (Str × V)} (h : RepF K F fs vs) : fs.length = vs.length := Paired.length h
theorem RepF.names {K : PySem.W.Frag} {F : Hp} : ∀ {fs : List (Str × D)} {vs : List (Str × V)}, RepF K F fs vs → vs = (fs.map (·.1)).zip (vs.map (·.2)) ∧ RepL K F (fs.map (·.2)) (vs.map (·.2))
  | _, _, .nil => ⟨rfl, RepL.nil⟩
  | (n, x) :: fs, (m, v) :: vs, .cons r t => by
    obtain ⟨e, r⟩ := r
    have e : n = m := e
    subst e
    obtain ⟨h1, h2⟩ := RepF.names (show RepF K F fs vs from t)
    refine ⟨?_, RepL.cons r h2⟩
    simp only [List.map_cons, List.zip_cons_cons, List.cons.injEq, true_and]
    exact h1
theorem RepF.zip {K : PySem.W.Frag} {F : Hp} : ∀ {ns : List Str} {xs : List D} {vs : List V}, ns.length = vs.length → RepL K F xs vs → RepF K F (ns.zip xs) (ns.zip vs)
  | [], xs, vs, _, h => by rw [List.zip_nil_left, List.zip_nil_left]; exact .nil
  | n :: ns, [], vs, hl, h => by
    have e := h.nilV
    subst e
    simp at hl
  | n :: ns, x :: xs, vs, hl, h => by
    obtain ⟨v, r, rfl, h2, h3⟩ := h.consV
    exact .cons ⟨rfl, h2⟩ (RepF.zip (by simpa using hl) h3)

/-! ### what is written -/
inductive MO where
  | lst (xs : List D)
  | ins (C : Addr) (fs : List (Str × D))
  | dK (kvs : List (Key × D))
  | dT (kvs : List (List Key × D))
  /-- the code objects that a def has made of its lambdas (all of the name q) -/
  | tab (q : Str)
def RepM (K : PySem.W.Frag) (F : Hp) : MO → HO → Prop
  | .lst xs, o => ∃ vs, o = .lst vs ∧ RepL K F xs vs
  | .ins C fs, o => ∃ dx vs, o = .ins C dx vs ∧ RepF K F fs vs
  | .dK kvs, o => ∃ vs, o = .dK vs ∧ Paired (fun (p : Key × D) (q : Key × V) => p.1 = q.1 ∧ Rep K F p.2 q.2) kvs vs
  | .dT kvs, o => ∃ vs, o = .dT vs ∧ Paired (fun (p : List Key × D) (q : List Key × V) => p.1 = q.1 ∧ Rep K F p.2 q.2) kvs vs
  | .tab q, o => ∃ ps : Array Value, o = .tbl ps ∧ PySem.TriplesOk ps.toList ∧ ∀ (pos : Pos) (cv : Value), codeAmong pos ps.toList = some cv → ∃ c, cv = .ref c ∧ F c = some (LamX.CodeO c q)
theorem RepM.mono {K : PySem.W.Frag} {F F' : Hp} (e : Same F F') : ∀ {m : MO} {o : HO}, RepM K F m o → RepM K F' m o
  | .lst _, _, ⟨vs, h, r⟩ => ⟨vs, h, r.mono e⟩
  | .ins _ _, _, ⟨dx, vs, h, r⟩ => ⟨dx, vs, h, r.mono e⟩
  | .dK _, _, ⟨vs, h, r⟩ => ⟨vs, h, Paired.mapP r fun _ _ z => ⟨z.1, z.2.mono e⟩⟩
  | .dT _, _, ⟨vs, h, r⟩ => ⟨vs, h, Paired.mapP r fun _ _ z => ⟨z.1, z.2.mono e⟩⟩
  | .tab _, _, ⟨ps, h, t, r⟩ => ⟨ps, h, t, fun pos cv hc => let ⟨c, h1, h2⟩ := r pos cv hc; ⟨c, h1, e _ _ h2⟩⟩
abbrev DM := Addr → Option MO
def put (M : DM) (a : Addr) (o : MO) : DM := fun b => if b = a then some o else M b
def drp (M : DM) (a : Addr) : DM := fun b => if b = a then none else M b
theorem put_same {M : DM} {a : Addr} {o : MO} : put M a o a = some o := if_pos rfl
theorem put_ne {M : DM} {a b : Addr} {o : MO} (h : b ≠ a) : put M a o b = M b := if_neg h
theorem put_put {M : DM} {a : Addr} {o o' : MO} : put (put M a o) a o' = put M a o' := by
  funext b; unfold put; split <;> rfl
theorem drp_put {M : DM} {a : Addr} {o : MO} (h : M a = none) : drp (put M a o) a = M := by
  funext b; unfold drp put
  by_cases e : b = a
  · rw [if_pos e, e, h]
  · rw [if_neg e, if_neg e]
structure Rel (K : PySem.W.Frag) (F : Hp) (M : DM) (H : Hp) : Prop where
  sub : Same F H
  mr : ∀ a m, M a = some m → F a = none ∧ ∃ o, H a = some o ∧ RepM K F m o
section
variable {K : PySem.W.Frag} {F F' H H' : Hp} {M M' : DM} {a p : Addr}
theorem Rel.free (r : Rel K F M H) (h : H p = none) : M p = none := by
  cases e : M p with
  | none => rfl
  | some m => obtain ⟨_, o, h2, _⟩ := r.mr p m e; rw [h] at h2; cases h2
theorem Rel.freeF (r : Rel K F M H) (h : H p = none) : F p = none := r.sub.free h
theorem Rel.less (r : Rel K F M H) (h : ∀ a m, M' a = some m → M a = some m) : Rel K F M' H := ⟨r.sub, fun a m e => r.mr a m (h a m e)⟩
theorem same_upd {F H : Hp} {p : Addr} {o : HO} (s : Same F H) (h : F p = none) : Same F (upd H p o) := fun b u e => by
  rw [upd_ne (ne_of_none e h)]; exact s b u e
theorem same_upd2 {F H : Hp} {p : Addr} {o : HO} (s : Same F H) : Same (upd F p o) (upd H p o) := fun b u e => by
  by_cases hb : b = p
  · subst hb; rw [upd_same] at e ⊢; exact e
  · rw [upd_ne hb] at e ⊢; exact s b u e
theorem same_add {F : Hp} {p : Addr} {o : HO} (h : F p = none) : Same F (upd F p o) := same_upd (Same.refl F) h
/-- a new object, written later -/
theorem Rel.new {o : HO} {m : MO} (r : Rel K F M H) (h : H p = none) (x : RepM K F m o) : Rel K F (put M p m) (upd H p o) := by
  have hF := r.freeF h
  refine ⟨same_upd r.sub hF, fun a n e => ?_⟩
  by_cases ha : a = p
  · subst ha; rw [put_same] at e; cases e
    exact ⟨hF, o, upd_same, x⟩
  · rw [put_ne ha] at e
    obtain ⟨h1, u, h2, h3⟩ := r.mr a n e
    exact ⟨h1, u, by rw [upd_ne ha]; exact h2, h3⟩
/-- a new object of which D does not speak -/
theorem Rel.junk {o : HO} (r : Rel K F M H) (h : H p = none) : Rel K F M (L2.upd H p o) := by
  have hF := r.freeF h
  refine ⟨same_upd r.sub hF, fun a n e => ?_⟩
  obtain ⟨h1, u, h2, h3⟩ := r.mr a n e
  exact ⟨h1, u, by rw [upd_ne (ne_of_none h2 h)]; exact h2, h3⟩
/-- an object written -/
theorem Rel.write {o : HO} {m m0 : MO} (r : Rel K F M H) (h : M p = some m0) (x : RepM K F m o) : Rel K F (put M p m) (upd H p o) := by
  have hF := (r.mr p m0 h).1
  refine ⟨same_upd r.sub hF, fun a n e => ?_⟩
  by_cases ha : a = p
  · subst ha; rw [put_same] at e; cases e
    exact ⟨hF, o, upd_same, x⟩
  · rw [put_ne ha] at e
    obtain ⟨h1, u, h2, h3⟩ := r.mr a n e
    exact ⟨h1, u, by rw [upd_ne ha]; exact h2, h3⟩
/-- a new object that is a plain value from its making on -/
theorem Rel.ice {o : HO} (r : Rel K F M H) (h : H p = none) : Rel K (upd F p o) M (upd H p o) := by
  have hF := r.freeF h
  refine ⟨same_upd2 r.sub, fun a n e => ?_⟩
  obtain ⟨h1, u, h2, h3⟩ := r.mr a n e
  have ha : a ≠ p := ne_of_none h2 h
  exact ⟨by rw [upd_ne ha]; exact h1, u, by rw [upd_ne ha]; exact h2, h3.mono (same_add hF)⟩
/-- an object of M becomes a plain value -/
theorem Rel.freeze {o : HO} {m : MO} (r : Rel K F M H) (h : M p = some m) (ho : H p = some o) : Rel K (upd F p o) (drp M p) H := by
  have hF := (r.mr p m h).1
  refine ⟨fun b u e => ?_, fun a n e => ?_⟩
  · by_cases hb : b = p
    · subst hb; rw [upd_same] at e; cases e; exact ho
    · rw [upd_ne hb] at e; exact r.sub b u e
  · unfold drp at e
    by_cases ha : a = p
    · rw [if_pos ha] at e; cases e
    · rw [if_neg ha] at e
      obtain ⟨h1, u, h2, h3⟩ := r.mr a n e
      exact ⟨by rw [upd_ne ha]; exact h1, u, h2, h3.mono (same_add hF)⟩
end

/-! ### slots -/
abbrev DSt := List (Option D)
def RepO (K : PySem.W.Frag) (F : Hp) : Option D → Option V → Prop
  | none, _ => True
  | some d, some v => Rep K F d v
  | some _, none => False
def Slots (K : PySem.W.Frag) (F : Hp) : DSt → St → Prop := Paired (RepO K F)
theorem RepO.mono {K : PySem.W.Frag} {F F' : Hp} (e : Same F F') : ∀ {d : Option D} {v : Option V}, RepO K F d v → RepO K F' d v
  | none, _, _ => True.intro
  | some _, some _, h => Rep.mono e h
  | some _, none, h => h
theorem Slots.mono {K : PySem.W.Frag} {F F' : Hp} (e : Same F F') {δ : DSt} {σ : St} (h : Slots K F δ σ) : Slots K F' δ σ := Paired.mapP h fun _ _ z => z.mono e
theorem Slots.get {K : PySem.W.Frag} {F : Hp} : ∀ {δ : DSt} {σ : St} {i : Nat} {d : D}, Slots K F δ σ → δ[i]? = some (some d) → ∃ v, σ[i]? = some (some v) ∧ Rep K F d v
  | _, _, _, _, .nil, e => by simp at e
  | _, _, 0, d, .cons (a := x) (b := y) r _, e => by
    simp at e; subst e
    cases y with
    | none => exact (show False from r).elim
    | some v => exact ⟨v, rfl, r⟩
  | _, _, i + 1, d, .cons _ t, e => by
    obtain ⟨v, h1, h2⟩ := Slots.get (i := i) t (by simpa using e)
    exact ⟨v, by simpa using h1, h2⟩
theorem Slots.set {K : PySem.W.Frag} {F : Hp} {d : Option D} {v : Option V} (r : RepO K F d v) : ∀ {δ : DSt} {σ : St} (i : Nat), Slots K F δ σ → Slots K F (δ.set i d) (σ.set i v)
  | _, _, _, .nil => .nil
  | _, _, 0, .cons _ t => .cons r t
  | _, _, i + 1, .cons q t => .cons q (Slots.set r i t)
theorem Slots.forget {K : PySem.W.Frag} {F : Hp} : ∀ {δ : DSt} {σ : St} (i : Nat), Slots K F δ σ → Slots K F (δ.set i none) σ
  | _, _, _, .nil => .nil
  | _, _, 0, .cons _ t => .cons True.intro t
  | _, _, i + 1, .cons q t => .cons q (Slots.forget i t)

/-! ### readings -/
abbrev DK := D → DM → Prop
abbrev DTE := DSt → DM → DK → Prop
abbrev DTT := DSt → DM → (Bool → DM → Prop) → Prop
abbrev DTA := DSt → DM → (List D → DM → Prop) → Prop
structure DEnds where
  nx : DSt → DM → Prop
  rt : DK
  bk : DSt → DM → Prop := fun _ _ => False
  ct : DSt → DM → Prop := fun _ _ => False
abbrev DTS := DEnds → DSt → DM → Prop
/-- what is wanted of an exception: its class, its fields, the slots, M -/
abbrev DW := Addr → List (Str × D) → DSt → DM → Prop
abbrev DXK := Addr → List (Str × D) → DM → Prop
/-- a def's promise -/
abbrev DSp := List D → DM → DK → DXK → Prop

/-- Q of the value behind is met by QD of the deep one -/
def Meets (K : PySem.W.Frag) (F : Hp) (QD : DK) (Q : VK) : Prop := ∀ d M F' H v, QD d M → Same F F' → Rel K F' M H → Rep K F' d v → Q v H
def liftE (K : PySem.W.Frag) (F0 : Hp) (t : DTE) : TE := fun σ H Q => ∃ F δ M QD, Same F0 F ∧ Rel K F M H ∧ Slots K F δ σ ∧ t δ M QD ∧ Meets K F QD Q
def liftT (K : PySem.W.Frag) (F0 : Hp) (t : DTT) : TT := fun σ H Q => ∃ F δ M QD, Same F0 F ∧ Rel K F M H ∧ Slots K F δ σ ∧ t δ M QD ∧ ∀ b M' F' H', QD b M' → Same F F' → Rel K F' M' H' → Q b H'
def liftA (K : PySem.W.Frag) (F0 : Hp) (t : DTA) : TA := fun σ H Q => ∃ F δ M QD, Same F0 F ∧ Rel K F M H ∧ Slots K F δ σ ∧ t δ M QD ∧ ∀ ds M' F' H' vs, QD ds M' → Same F F' → Rel K F' M' H' → RepL K F' ds vs → Q vs H'
structure MeetsS (K : PySem.W.Frag) (F : Hp) (DD : DEnds) (E : Ends) : Prop where
  nx : ∀ δ M F' σ H, DD.nx δ M → Same F F' → Rel K F' M H → Slots K F' δ σ → E.nx σ H
  rt : Meets K F DD.rt E.rt
  bk : ∀ δ M F' σ H, DD.bk δ M → Same F F' → Rel K F' M H → Slots K F' δ σ → E.bk σ H
  ct : ∀ δ M F' σ H, DD.ct δ M → Same F F' → Rel K F' M H → Slots K F' δ σ → E.ct σ H
def liftS (K : PySem.W.Frag) (F0 : Hp) (t : DTS) : TS := fun E σ H => ∃ F δ M DD, Same F0 F ∧ Rel K F M H ∧ Slots K F δ σ ∧ t DD δ M ∧ MeetsS K F DD E
/-- an exception of an own class with fields -/
def lowW (K : PySem.W.Frag) (F0 : Hp) (W : DW) : WX := fun cls d σ H => ∃ C fs δ M F dx vs, cls = .ref C ∧ d = some dx ∧ Same F0 F ∧ Rel K F M H ∧ Slots K F δ σ ∧ H dx = some (.xd vs) ∧ RepF K F fs vs ∧ W C fs δ M
def lowX (K : PySem.W.Frag) (F0 : Hp) (E : DXK) : XK := fun cls d H => ∃ C fs M F dx vs, cls = .ref C ∧ d = some dx ∧ Same F0 F ∧ Rel K F M H ∧ H dx = some (.xd vs) ∧ RepF K F fs vs ∧ E C fs M
def lowSp (K : PySem.W.Frag) (dsp : DSp) : Sp := fun vs H Q E => ∃ F M ds QD ED, Rel K F M H ∧ RepL K F ds vs ∧ dsp ds M QD ED ∧ Meets K F QD Q ∧ ∀ cls d H', lowX K F ED cls d H' → E cls d H'

theorem Meets.mono {K : PySem.W.Frag} {F F' : Hp} {QD : DK} {Q : VK} (h : Meets K F QD Q) (e : Same F F') : Meets K F' QD Q := fun d M F2 H v q s r x => h d M F2 H v q (e.trans s) r x
theorem MeetsS.mono {K : PySem.W.Frag} {F F' : Hp} {DD : DEnds} {E : Ends} (h : MeetsS K F DD E) (e : Same F F') : MeetsS K F' DD E :=
  ⟨fun δ M F2 σ H q s => h.nx δ M F2 σ H q (e.trans s), h.rt.mono e, fun δ M F2 σ H q s => h.bk δ M F2 σ H q (e.trans s), fun δ M F2 σ H q s => h.ct δ M F2 σ H q (e.trans s)⟩

abbrev DPE (X : Cx) (F0 : Hp) (e : Expr) (t : DTE) : Prop := PE X e (liftE X.K F0 t)
abbrev DPT (X : Cx) (F0 : Hp) (e : Expr) (t : DTT) : Prop := PT X e (liftT X.K F0 t)
abbrev DPA (X : Cx) (F0 : Hp) (es : List Expr) (t : DTA) : Prop := PA X es (liftA X.K F0 t)
abbrev DPS (X : Cx) (F0 : Hp) (st : Stmt) (t : DTS) : Prop := PS X st (liftS X.K F0 t)
abbrev DPSs (X : Cx) (F0 : Hp) (st : List Stmt) (t : DTS) : Prop := PSs X st (liftS X.K F0 t)

theorem PE.imp {X : Cx} {e : Expr} {t t' : TE} (h : PE X e t) (i : ∀ σ H Q, t' σ H Q → t σ H Q) : PE X e t' := ⟨fun pins s σ H Q I q => h.run pins s σ H Q I (i _ _ _ q)⟩
theorem PT.imp {X : Cx} {e : Expr} {t t' : TT} (h : PT X e t) (i : ∀ σ H Q, t' σ H Q → t σ H Q) : PT X e t' := ⟨fun pins s σ H Q I q => h.run pins s σ H Q I (i _ _ _ q)⟩
theorem PW.imp {X : Cx} {e : Expr} {t t' : TT} (h : PW X e t) (i : ∀ σ H Q, t' σ H Q → t σ H Q) : PW X e t' := ⟨fun wh pins s σ H Q I q => h.run wh pins s σ H Q I (i _ _ _ q)⟩
theorem PA.imp {X : Cx} {e : List Expr} {t t' : TA} (h : PA X e t) (i : ∀ σ H Q, t' σ H Q → t σ H Q) : PA X e t' := ⟨fun pos pins s σ H Q I q => h.run pos pins s σ H Q I (i _ _ _ q)⟩
theorem PS.imp {X : Cx} {e : Stmt} {t t' : TS} (h : PS X e t) (i : ∀ E σ H, t' E σ H → t E σ H) : PS X e t' := ⟨fun pins s σ H D I q => h.run pins s σ H D I (i _ _ _ q)⟩
theorem PSs.imp {X : Cx} {e : List Stmt} {t t' : TS} (h : PSs X e t) (i : ∀ E σ H, t' E σ H → t E σ H) : PSs X e t' := ⟨fun pins s σ H D I q => h.run pins s σ H D I (i _ _ _ q)⟩
end DL
set_option Elab.async false
set_option linter.all false
set_option maxRecDepth 100000
/-! DL2: expressions and statements by their shape -/
namespace DL
open PySem PySem.Spec L2
/-- where a body runs: W what is wanted of an exception -/
structure Ctx (X : Cx) (F0 : Hp) (W : DW) : Prop where
  calm : X.calm = true
  tk : Takes X (lowW X.K F0 W)
  own : PassesOwn (model X.prog X.w) X.A X.env X.xe
  nd : X.N.Nodup
def W0 : DW := fun _ _ _ _ => False

section
variable {X : Cx} {F0 : Hp} {pos : Pos} {a b c : Expr} {ta tb tc : DTE}
/-! ### names and constants -/
@[simp] def dVar (i : Nat) : DTE := fun δ M Q => match δ[i]? with
  | some (some d) => Q d M
  | _ => False
theorem dv (i : Nat) {x : Str} (hN : X.N[i]? = some x := by rfl) (hv : Vis X.env.scope x := by first | exact Or.inl rfl | exact Or.inr (Or.inl rfl) | exact Or.inr (Or.inr rfl)) (hd : (x == ("__debug__" : Str)) = false := by decide)
    (hcd : (x == ("__classdict__" : Str)) = false := by decide) : DPE X F0 (.Name x pos) (dVar i) :=
  PE.imp (pe_var hN hv hd hcd) fun σ H Q ⟨F, δ, M, QD, e0, r, s, h, m⟩ => by
    unfold dVar at h
    split at h
    · rename_i d e
      obtain ⟨v, h1, h2⟩ := s.get e
      exact ⟨v, h1, m d M F H v h (Same.refl F) r h2⟩
    · exact h.elim
@[simp] def dC (d : D) : DTE := fun _ M Q => Q d M
theorem dpe_con {e : Expr} {v : V} {d : D} (h : PE X e (tC v)) (r : ∀ F, Rep X.K F d v) : DPE X F0 e (dC d) :=
  PE.imp h fun σ H Q ⟨F, δ, M, QD, e0, rl, s, h, m⟩ => m d M F H v h (Same.refl F) rl (r F)
theorem dint {i j} : DPE X F0 (.Constant (.int i) j pos) (dC (.int i)) := dpe_con pe_int fun _ => by unfold Rep; rfl
theorem dbl {b j} : DPE X F0 (.Constant (.bool b) j pos) (dC (.bl b)) := dpe_con pe_bl fun _ => by unfold Rep; rfl
theorem dnon {j} : DPE X F0 (.Constant .none j pos) (dC .non) := dpe_con pe_non fun _ => by unfold Rep; rfl
theorem dstr {x j} : DPE X F0 (.Constant (.str x) j pos) (dC (.str x)) := dpe_con pe_str fun _ => by unfold Rep; rfl
/-- a module's constant, a class, a def -/
theorem dglob {x : Str} {v : V} {u : Value} {d : D} (hm : X.mg x = some u) (r : RelV v u) (rd : ∀ F, Rep X.K F d v) (hg : Gl X x := by rfl) (hd : (x == ("__debug__" : Str)) = false := by decide) : DPE X F0 (.Name x pos) (dC d) :=
  dpe_con (pe_glob hg hm r hd) rd
theorem dglobr {x : Str} {f : Addr} (hm : X.mg x = some (.ref f)) (hg : Gl X x := by rfl) (hd : (x == ("__debug__" : Str)) = false := by decide) : DPE X F0 (.Name x pos) (dC (.ref f)) :=
  dglob (v := .ref f) hm rfl (fun _ => by unfold Rep; rfl) hg hd
theorem dbltn {x : Str} {T : String} (hm : X.mg x = none) (hv : bootBuiltins x = some (.type T)) (hg : Gl X x := by rfl) (hn : x ≠ "__name__" := by decide) (hd : (x == ("__debug__" : Str)) = false := by decide) : DPE X F0 (.Name x pos) (dC (.ty T)) :=
  dpe_con (v := .ty T) (pe_bltn hg hm hv rfl hn hd) fun _ => by unfold Rep; rfl

/-! ### two-place operations -/
abbrev D2 := D → D → DM → DK → Prop
@[simp] def dOp (ρ : D2) (ta tb : DTE) : DTE := fun δ M Q => ta δ M fun x M1 => tb δ M1 fun y M2 => ρ x y M2 Q
def low2 (K : PySem.W.Frag) (F0 : Hp) (ρ : D2) : R2 := fun x y H Q => ∃ F M dx dy QD, Same F0 F ∧ Rel K F M H ∧ Rep K F dx x ∧ Rep K F dy y ∧ ρ dx dy M QD ∧ Meets K F QD Q
theorem op_lift {ρ : D2} {σ : St} {H : Hp} {Q : VK} (h : liftE X.K F0 (dOp ρ ta tb) σ H Q) : tOp (low2 X.K F0 ρ) (liftE X.K F0 ta) (liftE X.K F0 tb) σ H Q := by
  obtain ⟨F, δ, M, QD, e0, r, s, h, m⟩ := h
  exact ⟨F, δ, M, _, e0, r, s, h, fun dx M1 F1 H1 x q1 e1 r1 rx => ⟨F1, δ, M1, _, e0.trans e1, r1, s.mono e1, q1, fun dy M2 F2 H2 y q2 e2 r2 ry =>
    ⟨F2, M2, dx, dy, QD, e0.trans (e1.trans e2), r2, rx.mono e2, ry, q2, m.mono (e1.trans e2)⟩⟩⟩
abbrev DOp (X : Cx) (F0 : Hp) (f : Value → Value → Sem Value) (ρ : D2) : Prop := OpR X f (low2 X.K F0 ρ)
theorem dpe_op {op : Operator} {ρ : D2} (ho : DOp X F0 (binaryOp op) ρ) (ha : DPE X F0 a ta) (hb : DPE X F0 b tb) : DPE X F0 (.BinOp a op b pos) (dOp ρ ta tb) :=
  PE.imp (pe_op ho ha hb) fun _ _ _ h => op_lift h
theorem dpe_cmp {op : CmpOp} {ρ : D2} (ho : DOp X F0 (compareOp op) ρ) (ha : DPE X F0 a ta) (hb : DPE X F0 b tb) (hm : behindInMarks op b = false := by first | exact nomark _ | rfl | with_unfolding_all rfl) : DPE X F0 (.Compare a [op] [b] pos) (dOp ρ ta tb) :=
  PE.imp (pe_cmpR ho ha hb hm) fun _ _ _ h => op_lift h
/-- a value that is a bool, as a test -/
@[simp] def dB (t : DTE) : DTT := fun δ M Q => t δ M fun d M1 => match d with
  | .bl k => Q k M1
  | _ => False
theorem dB_lift {t : DTE} {σ : St} {H : Hp} {Q : Bool → Hp → Prop} (h : liftT X.K F0 (dB t) σ H Q) : liftE X.K F0 t σ H (fun x H' => ∃ k, x = .bl k ∧ Q k H') := by
  obtain ⟨F, δ, M, QD, e0, r, s, h, m⟩ := h
  refine ⟨F, δ, M, _, e0, r, s, h, fun d M1 F1 H1 v q e1 r1 rv => ?_⟩
  split at q
  · rename_i k
    unfold Rep at rv
    exact ⟨k, rv, m k M1 F1 H1 q e1 r1⟩
  · exact q.elim
theorem dpt_cmp {op : CmpOp} {ρ : D2} (ho : DOp X F0 (compareOp op) ρ) (ha : DPE X F0 a ta) (hb : DPE X F0 b tb) (hm : behindInMarks op b = false := by first | exact nomark _ | rfl | with_unfolding_all rfl) : DPT X F0 (.Compare a [op] [b] pos) (dB (dOp ρ ta tb)) :=
  PT.imp (pt_cmpR ho ha hb hm) fun σ H Q h => op_lift (by
    obtain ⟨F, δ, M, QD, e0, r, s, h, m⟩ := h
    refine ⟨F, δ, M, _, e0, r, s, h, fun d M1 F1 H1 v q e1 r1 rv => ?_⟩
    split at q
    · rename_i k
      unfold Rep at rv
      exact ⟨k, rv, m k M1 F1 H1 q e1 r1⟩
    · exact q.elim)
/-- any expression whose value is a bool, as a test -/
theorem dpt_val {e : Expr} {t : DTE} (h : DPE X F0 e t) (he : ∀ whole, isTrue e X.env whole = (do let v ← whole; standAt e.pos; holding [v] (truthy v)) := by intro _; rfl) : DPT X F0 e (dB t) :=
  PT.imp (pt_val h he) fun _ _ _ h => dB_lift h
/-- a op b op' c -/
@[simp] def dChain (ρ ρ' : D2) (ta tb tc : DTE) : DTE := fun δ M Q => ta δ M fun x M1 => tb δ M1 fun y M2 => ρ x y M2 fun z M3 => match z with
  | .bl k => if k = true then tc δ M3 fun w M4 => ρ' y w M4 Q else Q (.bl false) M3
  | _ => False
theorem chain_lift {ρ ρ' : D2} {σ : St} {H : Hp} {Q : VK} (h : liftE X.K F0 (dChain ρ ρ' ta tb tc) σ H Q) :
    tChain (low2 X.K F0 ρ) (low2 X.K F0 ρ') (liftE X.K F0 ta) (liftE X.K F0 tb) (liftE X.K F0 tc) σ H Q := by
  obtain ⟨F, δ, M, QD, e0, r, s, h, m⟩ := h
  refine ⟨F, δ, M, _, e0, r, s, h, fun dx M1 F1 H1 x q1 e1 r1 rx => ⟨F1, δ, M1, _, e0.trans e1, r1, s.mono e1, q1, fun dy M2 F2 H2 y q2 e2 r2 ry =>
    ⟨F2, M2, dx, dy, _, e0.trans (e1.trans e2), r2, rx.mono e2, ry, q2, fun dz M3 F3 H3 z q3 e3 r3 rz => ?_⟩⟩⟩
  split at q3
  · rename_i k
    unfold Rep at rz
    refine ⟨k, rz, ?_⟩
    cases k with
    | true =>
      rw [if_pos rfl] at q3 ⊢
      exact ⟨F3, δ, M3, _, e0.trans (e1.trans (e2.trans e3)), r3, s.mono (e1.trans (e2.trans e3)), q3, fun dw M4 F4 H4 w q4 e4 r4 rw' =>
        ⟨F4, M4, dy, dw, QD, e0.trans (e1.trans (e2.trans (e3.trans e4))), r4, ry.mono (e3.trans e4), rw', q4, m.mono (e1.trans (e2.trans (e3.trans e4)))⟩⟩
    | false =>
      rw [if_neg Bool.false_ne_true] at q3 ⊢
      exact m (.bl false) M3 F3 H3 _ q3 (e1.trans (e2.trans e3)) r3 (by unfold Rep; rfl)
  · exact q3.elim
theorem dpe_chain {op op' : CmpOp} {ρ ρ' : D2} (ho : DOp X F0 (compareOp op) ρ) (ho' : DOp X F0 (compareOp op') ρ') (ha : DPE X F0 a ta) (hb : DPE X F0 b tb) (hc : DPE X F0 c tc)
    (hm : lastMarks [op, op'] [b, c] = false := by with_unfolding_all rfl) : DPE X F0 (.Compare a [op, op'] [b, c] pos) (dChain ρ ρ' ta tb tc) :=
  PE.imp (pe_chain ho ho' ha hb hc hm) fun _ _ _ h => chain_lift h
theorem dpt_chain {op op' : CmpOp} {ρ ρ' : D2} (ho : DOp X F0 (compareOp op) ρ) (ho' : DOp X F0 (compareOp op') ρ') (ha : DPE X F0 a ta) (hb : DPE X F0 b tb) (hc : DPE X F0 c tc)
    (hm : lastMarks [op, op'] [b, c] = false := by with_unfolding_all rfl) : DPT X F0 (.Compare a [op, op'] [b, c] pos) (dB (dChain ρ ρ' ta tb tc)) :=
  PT.imp (pt_chain ho ho' ha hb hc hm) fun σ H Q h => chain_lift (by
    obtain ⟨F, δ, M, QD, e0, r, s, h, m⟩ := h
    refine ⟨F, δ, M, _, e0, r, s, h, fun d M1 F1 H1 v q e1 r1 rv => ?_⟩
    split at q
    · rename_i k
      unfold Rep at rv
      exact ⟨k, rv, m k M1 F1 H1 q e1 r1⟩
    · exact q.elim)

/-! ### one-place operations -/
@[simp] def dUn (ρ : D → DM → DK → Prop) (ta : DTE) : DTE := fun δ M Q => ta δ M fun x M1 => ρ x M1 Q
def low1 (K : PySem.W.Frag) (F0 : Hp) (ρ : D → DM → DK → Prop) : V → Hp → VK → Prop := fun x H Q => ∃ F M dx QD, Same F0 F ∧ Rel K F M H ∧ Rep K F dx x ∧ ρ dx M QD ∧ Meets K F QD Q
theorem un_lift {ρ : D → DM → DK → Prop} {σ : St} {H : Hp} {Q : VK} (h : liftE X.K F0 (dUn ρ ta) σ H Q) : liftE X.K F0 ta σ H (fun x H1 => low1 X.K F0 ρ x H1 Q) := by
  obtain ⟨F, δ, M, QD, e0, r, s, h, m⟩ := h
  exact ⟨F, δ, M, _, e0, r, s, h, fun dx M1 F1 H1 x q1 e1 r1 rx => ⟨F1, M1, dx, QD, e0.trans e1, r1, rx, q1, m.mono e1⟩⟩
theorem dpe_un {op : UnaryOp} {ρ : D → DM → DK → Prop} (ho : UnR X (unaryOp op) (low1 X.K F0 ρ)) (ha : DPE X F0 a ta) : DPE X F0 (.UnaryOp op a pos) (dUn ρ ta) :=
  PE.imp (pe_un ho ha) fun _ _ _ h => un_lift h
/-- -5 -/
theorem dneg : UnR X (unaryOp .USub) (low1 X.K F0 fun x M Q => match x with | .int i => Q (.int (-i)) M | _ => False) := by
  intro pins s σ H x v Q I rx h
  obtain ⟨F, M, dx, QD, e0, r, rd, q, m⟩ := h
  split at q
  · rename_i i
    unfold Rep at rd
    subst rd
    exact un_neg pins s σ H _ v Q I rx ⟨i, rfl, m _ M F H _ q (Same.refl F) r (by unfold Rep; rfl)⟩
  · exact q.elim

/-! ### and, or, not -/
variable {tA tB tC' : DTT} {rest : List Expr}
@[simp] def dAnd (t u : DTT) : DTT := fun δ M Q => t δ M fun k M1 => if k = true then u δ M1 Q else Q false M1
@[simp] def dOr (t u : DTT) : DTT := fun δ M Q => t δ M fun k M1 => if k = true then Q true M1 else u δ M1 Q
@[simp] def dNot (t : DTT) : DTT := fun δ M Q => t δ M fun k M1 => Q (!k) M1
abbrev DPW (X : Cx) (F0 : Hp) (e : Expr) (t : DTT) : Prop := PW X e (liftT X.K F0 t)
theorem dpw_and1 (ha : DPT X F0 a tA) : DPW X F0 (.BoolOp .And [a] pos) tA := pw_and1 ha
theorem dpw_or1 (ha : DPT X F0 a tA) : DPW X F0 (.BoolOp .Or [a] pos) tA := pw_or1 ha
theorem dpw_and (ha : DPT X F0 a tA) (hb : DPW X F0 (.BoolOp .And (b :: rest) pos) tB) : DPW X F0 (.BoolOp .And (a :: b :: rest) pos) (dAnd tA tB) :=
  PW.imp (pw_and ha hb) fun σ H Q ⟨F, δ, M, QD, e0, r, s, h, m⟩ => ⟨F, δ, M, _, e0, r, s, h, fun k M1 F1 H1 q e1 r1 => by
    cases k with
    | true =>
      rw [if_pos rfl] at q ⊢
      exact ⟨F1, δ, M1, QD, e0.trans e1, r1, s.mono e1, q, fun k' M2 F2 H2 q2 e2 r2 => m k' M2 F2 H2 q2 (e1.trans e2) r2⟩
    | false =>
      rw [if_neg Bool.false_ne_true] at q ⊢
      exact m false M1 F1 H1 q e1 r1⟩
theorem dpw_or (ha : DPT X F0 a tA) (hb : DPW X F0 (.BoolOp .Or (b :: rest) pos) tB) : DPW X F0 (.BoolOp .Or (a :: b :: rest) pos) (dOr tA tB) :=
  PW.imp (pw_or ha hb) fun σ H Q ⟨F, δ, M, QD, e0, r, s, h, m⟩ => ⟨F, δ, M, _, e0, r, s, h, fun k M1 F1 H1 q e1 r1 => by
    cases k with
    | true =>
      rw [if_pos rfl] at q ⊢
      exact m true M1 F1 H1 q e1 r1
    | false =>
      rw [if_neg Bool.false_ne_true] at q ⊢
      exact ⟨F1, δ, M1, QD, e0.trans e1, r1, s.mono e1, q, fun k' M2 F2 H2 q2 e2 r2 => m k' M2 F2 H2 q2 (e1.trans e2) r2⟩⟩
theorem dpw {e : Expr} (h : DPW X F0 e tA) : DPT X F0 e tA := PW.pt h
theorem dpt_not (ha : DPT X F0 a tA) : DPT X F0 (.UnaryOp .Not a pos) (dNot tA) :=
  PT.imp (pt_not ha) fun σ H Q ⟨F, δ, M, QD, e0, r, s, h, m⟩ => ⟨F, δ, M, _, e0, r, s, h, fun k M1 F1 H1 q e1 r1 => m (!k) M1 F1 H1 q e1 r1⟩
/-- .. as values (bools) -/
@[simp] def dAndV (ta tb : DTE) : DTE := fun δ M Q => ta δ M fun x M1 => match x with
  | .bl k => if k = true then tb δ M1 Q else Q (.bl false) M1
  | _ => False
@[simp] def dOrV (ta tb : DTE) : DTE := fun δ M Q => ta δ M fun x M1 => match x with
  | .bl k => if k = true then Q (.bl true) M1 else tb δ M1 Q
  | _ => False
def dNotV (t : DTT) : DTE := fun δ M Q => t δ M fun k M1 => Q (.bl (!k)) M1
theorem dpe_one {op} {t : DTE} (h : DPE X F0 a t) : DPE X F0 (.BoolOp op [a] pos) t := pe_one h
theorem dpe_and (ha : DPE X F0 a ta) (hb : DPE X F0 (.BoolOp .And (b :: rest) pos) tb) : DPE X F0 (.BoolOp .And (a :: b :: rest) pos) (dAndV ta tb) :=
  PE.imp (pe_and ha hb) fun σ H Q ⟨F, δ, M, QD, e0, r, s, h, m⟩ => ⟨F, δ, M, _, e0, r, s, h, fun d M1 F1 H1 v q e1 r1 rv => by
    split at q
    · rename_i k
      unfold Rep at rv
      refine ⟨k, rv, ?_⟩
      cases k with
      | true =>
        rw [if_pos rfl] at q ⊢
        exact ⟨F1, δ, M1, QD, e0.trans e1, r1, s.mono e1, q, m.mono e1⟩
      | false =>
        rw [if_neg Bool.false_ne_true] at q ⊢
        exact m _ M1 F1 H1 _ q e1 r1 (by unfold Rep; rfl)
    · exact q.elim⟩
theorem dpe_or (ha : DPE X F0 a ta) (hb : DPE X F0 (.BoolOp .Or (b :: rest) pos) tb) : DPE X F0 (.BoolOp .Or (a :: b :: rest) pos) (dOrV ta tb) :=
  PE.imp (pe_or ha hb) fun σ H Q ⟨F, δ, M, QD, e0, r, s, h, m⟩ => ⟨F, δ, M, _, e0, r, s, h, fun d M1 F1 H1 v q e1 r1 rv => by
    split at q
    · rename_i k
      unfold Rep at rv
      refine ⟨k, rv, ?_⟩
      cases k with
      | true =>
        rw [if_pos rfl] at q ⊢
        exact m _ M1 F1 H1 _ q e1 r1 (by unfold Rep; rfl)
      | false =>
        rw [if_neg Bool.false_ne_true] at q ⊢
        exact ⟨F1, δ, M1, QD, e0.trans e1, r1, s.mono e1, q, m.mono e1⟩
    · exact q.elim⟩
@[simp] def dNotE (ta : DTE) : DTE := fun δ M Q => ta δ M fun x M1 => match x with
  | .bl k => Q (.bl (!k)) M1
  | _ => False
theorem dpe_not (ha : DPE X F0 a ta) : DPE X F0 (.UnaryOp .Not a pos) (dNotE ta) :=
  PE.imp (pe_not ha) fun σ H Q ⟨F, δ, M, QD, e0, r, s, h, m⟩ => ⟨F, δ, M, _, e0, r, s, h, fun d M1 F1 H1 v q e1 r1 rv => by
    split at q
    · rename_i k
      unfold Rep at rv
      exact ⟨k, rv, m _ M1 F1 H1 _ q e1 r1 (by unfold Rep; rfl)⟩
    · exact q.elim⟩
@[simp] def dIf (t : DTT) (ta tb : DTE) : DTE := fun δ M Q => t δ M fun k M1 => if k = true then ta δ M1 Q else tb δ M1 Q
theorem dpe_if (hc : DPT X F0 c tA) (ha : DPE X F0 a ta) (hb : DPE X F0 b tb) : DPE X F0 (.IfExp c a b pos) (dIf tA ta tb) :=
  PE.imp (pe_ifExp hc ha hb) fun σ H Q ⟨F, δ, M, QD, e0, r, s, h, m⟩ => ⟨F, δ, M, _, e0, r, s, h, fun k M1 F1 H1 q e1 r1 => by
    cases k with
    | true =>
      rw [if_pos rfl] at q ⊢
      exact ⟨F1, δ, M1, QD, e0.trans e1, r1, s.mono e1, q, m.mono e1⟩
    | false =>
      rw [if_neg Bool.false_ne_true] at q ⊢
      exact ⟨F1, δ, M1, QD, e0.trans e1, r1, s.mono e1, q, m.mono e1⟩⟩
end

/-! ### argument lists, displays -/
section
variable {X : Cx} {F0 : Hp} {pos : Pos} {e : Expr} {es : List Expr} {te : DTE} {t : DTA}
@[simp] def dNil : DTA := fun _ M Q => Q [] M
@[simp] def dCons (te : DTE) (t : DTA) : DTA := fun δ M Q => te δ M fun x M1 => t δ M1 fun xs M2 => Q (x :: xs) M2
theorem da_nil : DPA X F0 [] dNil := PA.imp pa_nil fun σ H Q ⟨F, δ, M, QD, e0, r, s, h, m⟩ => m [] M F H [] h (Same.refl F) r RepL.nil
theorem da_cons (ha : DPE X F0 e te) (hr : DPA X F0 es t) (hs : starEach (e :: es) X.env = (false, eval e X.env) :: starEach es X.env := by rfl) : DPA X F0 (e :: es) (dCons te t) :=
  PA.imp (pa_cons ha hr hs) fun σ H Q ⟨F, δ, M, QD, e0, r, s, h, m⟩ => ⟨F, δ, M, _, e0, r, s, h, fun d M1 F1 H1 v q e1 r1 rv =>
    ⟨F1, δ, M1, _, e0.trans e1, r1, s.mono e1, q, fun ds M2 F2 H2 vs q2 e2 r2 rs => m (d :: ds) M2 F2 H2 (v :: vs) q2 (e1.trans e2) r2 (RepL.cons (rv.mono e2) rs)⟩⟩
@[simp] def dTup (t : DTA) : DTE := fun δ M Q => t δ M fun xs M1 => xs.length ≤ sizeLine ∧ Q (.tup xs) M1
/-- a list that is never written -/
@[simp] def dLst (t : DTA) : DTE := fun δ M Q => t δ M fun xs M1 => xs.length ≤ sizeLine ∧ Q (.lst xs) M1
/-- a list that is written later -/
@[simp] def dLstM (t : DTA) : DTE := fun δ M Q => t δ M fun xs M1 => xs.length ≤ sizeLine ∧ ∀ p, M1 p = none → Q (.ref p) (put M1 p (.lst xs))
theorem ice_tup {K : PySem.W.Frag} {F H : Hp} {M : DM} {p : Addr} {xs : List D} {vs : List V} (r : Rel K F M H) (h : H p = none) (rs : RepL K F xs vs) :
    Same F (upd F p (.tup vs)) ∧ Rel K (upd F p (.tup vs)) M (upd H p (.tup vs)) ∧ Rep K (upd F p (.tup vs)) (.tup xs) (.ref p) := by
  have hF := r.freeF h
  refine ⟨same_add hF, r.ice h, ?_⟩
  unfold Rep
  exact ⟨p, vs, rfl, SqT.of upd_same, rs.mono (same_add hF)⟩
theorem ice_lst {K : PySem.W.Frag} {F H : Hp} {M : DM} {p : Addr} {xs : List D} {vs : List V} (r : Rel K F M H) (h : H p = none) (rs : RepL K F xs vs) :
    Same F (upd F p (.lst vs)) ∧ Rel K (upd F p (.lst vs)) M (upd H p (.lst vs)) ∧ Rep K (upd F p (.lst vs)) (.lst xs) (.ref p) := by
  have hF := r.freeF h
  refine ⟨same_add hF, r.ice h, ?_⟩
  unfold Rep
  exact ⟨p, vs, rfl, upd_same, rs.mono (same_add hF)⟩
theorem dpe_tup {x1} (h : DPA X F0 es t) : DPE X F0 (.Tuple es x1 pos) (dTup t) :=
  PE.imp (pe_tup h) fun σ H Q ⟨F, δ, M, QD, e0, r, s, h, m⟩ => ⟨F, δ, M, _, e0, r, s, h, fun ds M1 F1 H1 vs ⟨hz, q⟩ e1 r1 rs => ⟨by rw [← rs.length]; exact hz, fun p hp => by
    obtain ⟨s1, s2, s3⟩ := ice_tup r1 hp rs
    exact m _ M1 _ _ _ q (e1.trans s1) s2 s3⟩⟩
theorem dpe_lst (h : DPA X F0 es t) : DPE X F0 (.List es pos) (dLst t) :=
  PE.imp (pe_lst h) fun σ H Q ⟨F, δ, M, QD, e0, r, s, h, m⟩ => ⟨F, δ, M, _, e0, r, s, h, fun ds M1 F1 H1 vs ⟨hz, q⟩ e1 r1 rs => ⟨by rw [← rs.length]; exact hz, fun p hp => by
    obtain ⟨s1, s2, s3⟩ := ice_lst r1 hp rs
    exact m _ M1 _ _ _ q (e1.trans s1) s2 s3⟩⟩
theorem dpe_lstM (h : DPA X F0 es t) : DPE X F0 (.List es pos) (dLstM t) :=
  PE.imp (pe_lst h) fun σ H Q ⟨F, δ, M, QD, e0, r, s, h, m⟩ => ⟨F, δ, M, _, e0, r, s, h, fun ds M1 F1 H1 vs ⟨hz, q⟩ e1 r1 rs => ⟨by rw [← rs.length]; exact hz, fun p hp =>
    m _ _ F1 _ _ (q p (r1.free hp)) e1 (r1.new hp ⟨vs, rfl, rs⟩) (by unfold Rep; rfl)⟩⟩
end

/-! ### statements -/
section
variable {X : Cx} {F0 : Hp} {pos : Pos} {st : Stmt} {rest : List Stmt} {t u : DTS} {e c : Expr} {te : DTE} {tc : DTT}
@[simp] def dNext : DTS := fun D δ M => D.nx δ M
@[simp] def dSeq (t u : DTS) : DTS := fun D δ M => t { D with nx := u D } δ M
theorem dss_nil : DPSs X F0 [] dNext := PSs.imp pss_nil fun E σ H ⟨F, δ, M, DD, e0, r, s, h, m⟩ => m.nx δ M F σ H h (Same.refl F) r s
theorem dss_cons (h1 : DPS X F0 st t) (h2 : DPSs X F0 rest u) : DPSs X F0 (st :: rest) (dSeq t u) :=
  PSs.imp (pss_cons h1 h2) fun E σ H ⟨F, δ, M, DD, e0, r, s, h, m⟩ => ⟨F, δ, M, _, e0, r, s, h,
    ⟨fun δ1 M1 F1 σ1 H1 q e1 r1 s1 => ⟨F1, δ1, M1, DD, e0.trans e1, r1, s1, q, m.mono e1⟩, m.rt, m.bk, m.ct⟩⟩
theorem dss_one (h1 : DPS X F0 st t) : DPSs X F0 [st] t := pss_one h1
theorem ds_pass : DPS X F0 (.Pass pos) dNext := PS.imp ps_pass fun E σ H ⟨F, δ, M, DD, e0, r, s, h, m⟩ => m.nx δ M F σ H h (Same.refl F) r s
@[simp] def dBreak : DTS := fun D δ M => D.bk δ M
@[simp] def dCont : DTS := fun D δ M => D.ct δ M
theorem ds_break : DPS X F0 (.Break pos) dBreak := PS.imp ps_break fun E σ H ⟨F, δ, M, DD, e0, r, s, h, m⟩ => m.bk δ M F σ H h (Same.refl F) r s
theorem ds_continue : DPS X F0 (.Continue pos) dCont := PS.imp ps_continue fun E σ H ⟨F, δ, M, DD, e0, r, s, h, m⟩ => m.ct δ M F σ H h (Same.refl F) r s
@[simp] def dDrop (te : DTE) : DTS := fun D δ M => te δ M fun _ M1 => D.nx δ M1
theorem ds_expr (he : DPE X F0 e te) (hs : swapsWith e none pos.line X.env = pure false := by rfl) : DPS X F0 (.Expr e pos) (dDrop te) :=
  PS.imp (ps_expr he hs) fun E σ H ⟨F, δ, M, DD, e0, r, s, h, m⟩ => ⟨F, δ, M, _, e0, r, s, h, fun d M1 F1 H1 v q e1 r1 rv => m.nx δ M1 F1 σ H1 q e1 r1 (s.mono e1)⟩
@[simp] def dRet (te : DTE) : DTS := fun D δ M => te δ M D.rt
theorem ds_ret (he : DPE X F0 e te) : DPS X F0 (.Return (some e) pos) (dRet te) :=
  PS.imp (ps_ret he) fun E σ H ⟨F, δ, M, DD, e0, r, s, h, m⟩ => ⟨F, δ, M, _, e0, r, s, h, m.rt⟩
@[simp] def dRetN : DTS := fun D δ M => D.rt .non M
theorem ds_retN : DPS X F0 (.Return none pos) dRetN := PS.imp ps_retN fun E σ H ⟨F, δ, M, DD, e0, r, s, h, m⟩ => m.rt _ M F H _ h (Same.refl F) r (by unfold Rep; rfl)
@[simp] def dIfS (c : DTT) (t u : DTS) : DTS := fun D δ M => c δ M fun k M1 => if k = true then t D δ M1 else u D δ M1
theorem ds_if {a b : List Stmt} (hc : DPT X F0 c tc) (ha : DPSs X F0 a t) (hb : DPSs X F0 b u) : DPS X F0 (.If c a b pos) (dIfS tc t u) :=
  PS.imp (ps_if hc ha hb) fun E σ H ⟨F, δ, M, DD, e0, r, s, h, m⟩ => ⟨F, δ, M, _, e0, r, s, h, fun k M1 F1 H1 q e1 r1 => by
    cases k with
    | true =>
      rw [if_pos rfl] at q ⊢
      exact ⟨F1, δ, M1, DD, e0.trans e1, r1, s.mono e1, q, m.mono e1⟩
    | false =>
      rw [if_neg Bool.false_ne_true] at q ⊢
      exact ⟨F1, δ, M1, DD, e0.trans e1, r1, s.mono e1, q, m.mono e1⟩⟩
/-- code that is never come to -/
def dNever : DTS := fun _ _ _ => False
theorem ds_never : DPS X F0 st dNever := PS.imp ps_never fun E σ H ⟨F, δ, M, DD, e0, r, s, h, m⟩ => h.elim
theorem dss_never {sts : List Stmt} : DPSs X F0 sts dNever := PSs.imp pss_never fun E σ H ⟨F, δ, M, DD, e0, r, s, h, m⟩ => h.elim

/-! ### targets -/
abbrev DTG := D → DSt → DM → (DSt → DM → Prop) → Prop
abbrev DTGs := List D → DSt → DM → (DSt → DM → Prop) → Prop
def liftG (K : PySem.W.Frag) (F0 : Hp) (t : DTG) : TG := fun v σ H Q => ∃ F d δ M QD, Same F0 F ∧ Rel K F M H ∧ Slots K F δ σ ∧ Rep K F d v ∧ t d δ M QD ∧ ∀ δ' M' F' σ' H', QD δ' M' → Same F F' → Rel K F' M' H' → Slots K F' δ' σ' → Q σ' H'
def liftGs (K : PySem.W.Frag) (F0 : Hp) (t : DTGs) : TGs := fun vs σ H Q => ∃ F ds δ M QD, Same F0 F ∧ Rel K F M H ∧ Slots K F δ σ ∧ RepL K F ds vs ∧ t ds δ M QD ∧ ∀ δ' M' F' σ' H', QD δ' M' → Same F F' → Rel K F' M' H' → Slots K F' δ' σ' → Q σ' H'
abbrev DPG (X : Cx) (F0 : Hp) (tg : Expr) (t : DTG) : Prop := PG X tg (liftG X.K F0 t)
abbrev DPGs (X : Cx) (F0 : Hp) (tg : List Expr) (t : DTGs) : Prop := PGs X tg (liftGs X.K F0 t)
theorem PG.imp {X : Cx} {e : Expr} {t t' : TG} (h : PG X e t) (i : ∀ v σ H Q, t' v σ H Q → t v σ H Q) : PG X e t' := ⟨fun pins s σ H v u Q I r q => h.run pins s σ H v u Q I r (i _ _ _ _ q)⟩
theorem PGs.imp {X : Cx} {e : List Expr} {t t' : TGs} (h : PGs X e t) (i : ∀ v σ H Q, t' v σ H Q → t v σ H Q) : PGs X e t' := ⟨fun pins s σ H v u Q I r q => h.run pins s σ H v u Q I r (i _ _ _ _ q)⟩
@[simp] def dgN (i : Nat) : DTG := fun d δ M Q => Q (δ.set i (some d)) M
theorem dg_name {x : Str} (i : Nat) (hN : X.N.Nodup) (hi : X.N[i]? = some x := by rfl) (hx : Loc X.env.scope x := by first | exact Or.inl rfl | exact Or.inr rfl)
    (hf : X.fn x = true ∨ X.env.scope.names.lookup x = some .local := by first | exact .inl rfl | exact .inr rfl | assumption) : DPG X F0 (.Name x pos) (dgN i) :=
  PG.imp (pg_name (i := i) hN hi hx hf) fun v σ H Q ⟨F, d, δ, M, QD, e0, r, s, rd, h, m⟩ => m _ M F _ H h (Same.refl F) r (s.set (d := some d) (v := some v) rd i)
@[simp] def dgNil : DTGs := fun ds δ M Q => match ds with
  | [] => Q δ M
  | _ => False
@[simp] def dgCons (t : DTG) (u : DTGs) : DTGs := fun ds δ M Q => match ds with
  | d :: r => t d δ M fun δ' M' => u r δ' M' Q
  | [] => False
theorem dgs_nil : DPGs X F0 [] dgNil := PGs.imp pgs_nil fun vs σ H Q ⟨F, ds, δ, M, QD, e0, r, s, rd, h, m⟩ => by
  cases ds with
  | nil => exact ⟨rd.nilV, m δ M F σ H h (Same.refl F) r s⟩
  | cons d ds => exact (show False from h).elim
theorem dgs_cons {tg : Expr} {tgs : List Expr} {t : DTG} {u : DTGs} (h1 : DPG X F0 tg t) (h2 : DPGs X F0 tgs u)
    (hs : (assignEach (tg :: tgs) X.env).map (·.2) = assign tg X.env :: (assignEach tgs X.env).map (·.2) := by rfl) : DPGs X F0 (tg :: tgs) (dgCons t u) :=
  PGs.imp (pgs_cons h1 h2 hs) fun vs σ H Q ⟨F, ds, δ, M, QD, e0, r, s, rd, h, m⟩ => by
    cases ds with
    | nil => exact (show False from h).elim
    | cons d ds =>
      obtain ⟨v, vr, rfl, r1, r2⟩ := rd.consV
      exact ⟨v, vr, rfl, F, d, δ, M, _, e0, r, s, r1, h, fun δ1 M1 F1 σ1 H1 q e1 rl1 s1 => ⟨F1, ds, δ1, M1, QD, e0.trans e1, rl1, s1, r2.mono e1, q, fun δ2 M2 F2 σ2 H2 q2 e2 => m δ2 M2 F2 σ2 H2 q2 (e1.trans e2)⟩⟩
/-- (a, b, ..) = a tuple -/
@[simp] def dgTup (n : Nat) (t : DTGs) : DTG := fun d δ M Q => match d with
  | .tup xs => xs.length = n ∧ t xs δ M Q
  | _ => False
theorem dg_tup {es : List Expr} {k : Nat} {t : DTGs} {n : Nat} (hc : X.calm = true) (h : DPGs X F0 es t) (hn : (assignEach es X.env).length = n := by rfl) (hst : (assignEach es X.env).findIdx? (·.1) = none := by rfl) :
    DPG X F0 (.Tuple es k pos) (dgTup n t) :=
  PG.imp (pg_tup hc h hn hst) fun v σ H Q ⟨F, d, δ, M, QD, e0, r, s, rd, h, m⟩ => by
    unfold dgTup at h
    split at h
    · rename_i xs
      unfold Rep at rd
      obtain ⟨a, vs, rfl, hs, rs⟩ := rd
      exact ⟨a, vs, rfl, SqT_mono r.sub hs, by rw [← rs.length]; exact h.1, F, xs, δ, M, QD, e0, r, s, rs, h.2, m⟩
    · exact h.elim
@[simp] def dAsg (te : DTE) (g : DTG) : DTS := fun D δ M => te δ M fun d M1 => g d δ M1 D.nx
theorem ds_asg {tg : Expr} {g : DTG} (he : DPE X F0 e te) (hg : DPG X F0 tg g) (hs : swapsWithSole [tg] e pos.line X.env = pure false := by rfl) (hw : swappedStores [tg] e X.env = pure none := by rfl)
    (h1 : (assignEach [tg] X.env).map (·.2) = [assign tg X.env] := by rfl) : DPS X F0 (.Assign [tg] e pos) (dAsg te g) :=
  PS.imp (ps_asg he hg hs hw h1) fun E σ H ⟨F, δ, M, DD, e0, r, s, h, m⟩ => ⟨F, δ, M, _, e0, r, s, h, fun d M1 F1 H1 v q e1 r1 rv =>
    ⟨F1, d, δ, M1, DD.nx, e0.trans e1, r1, s.mono e1, rv, q, fun δ2 M2 F2 σ2 H2 q2 e2 => m.nx δ2 M2 F2 σ2 H2 q2 (e1.trans e2)⟩⟩
@[simp] def dSet (i : Nat) (te : DTE) : DTS := fun D δ M => te δ M fun d M1 => D.nx (δ.set i (some d)) M1
theorem ds_set {x : Str} {pos' : Pos} (i : Nat) (hN : X.N.Nodup) (he : DPE X F0 e te) (hi : X.N[i]? = some x := by rfl) (hx : Loc X.env.scope x := by first | exact Or.inl rfl | exact Or.inr rfl)
    (hs : swapsWith e (some (.Name x pos')) pos.line X.env = pure false := by rfl) (hf : X.fn x = true ∨ X.env.scope.names.lookup x = some .local := by first | exact .inl rfl | exact .inr rfl | assumption) :
    DPS X F0 (.Assign [.Name x pos'] e pos) (dSet i te) :=
  PS.imp (ps_set (i := i) hN hi hx he hs hf) fun E σ H ⟨F, δ, M, DD, e0, r, s, h, m⟩ => ⟨F, δ, M, _, e0, r, s, h, fun d M1 F1 H1 v q e1 r1 rv =>
    m.nx _ M1 F1 _ H1 q e1 r1 ((s.mono e1).set (d := some d) (v := some v) rv i)⟩
/-- a, b = x, y -/
@[simp] def dPar (i j : Nat) (t : DTA) : DTS := fun D δ M => t δ M fun ds M1 => match ds with
  | [d, d'] => D.nx ((δ.set i (some d)).set j (some d')) M1
  | _ => False
theorem ds_par {x y : Str} {a b : Expr} {t : DTA} {px py pt : Pos} {kt k2 pt2} (i j : Nat) (hc : X.calm = true) (hN : X.N.Nodup) (ha : DPA X F0 [a, b] t) (hi : X.N[i]? = some x := by rfl) (hj : X.N[j]? = some y := by rfl) (hij : i ≠ j := by decide)
    (hx : X.env.scope.names.lookup x = some .local := by rfl) (hy : X.env.scope.names.lookup y = some .local := by rfl)
    (hw : swappedStores [.Tuple [.Name x px, .Name y py] kt pt] (.Tuple [a, b] k2 pt2) X.env = pure (some [x, y]) := by rfl)
    (hs : swapsWithSole [.Tuple [.Name x px, .Name y py] kt pt] (.Tuple [a, b] k2 pt2) pos.line X.env = pure false := by rfl) :
    DPS X F0 (.Assign [.Tuple [.Name x px, .Name y py] kt pt] (.Tuple [a, b] k2 pt2) pos) (dPar i j t) :=
  PS.imp (ps_par (i := i) (j := j) hc hN hi hj hij hx hy ha hw hs) fun E σ H ⟨F, δ, M, DD, e0, r, s, h, m⟩ => ⟨F, δ, M, _, e0, r, s, h, fun ds M1 F1 H1 vs q e1 r1 rs => by
    match ds, q with
    | [d, d'], q =>
      obtain ⟨v, vr, rfl, h1, rs⟩ := rs.consV
      obtain ⟨w, vr, rfl, h2, rs⟩ := rs.consV
      have := rs.nilV
      subst this
      exact ⟨v, w, rfl, m.nx _ M1 F1 _ H1 q e1 r1 (((s.mono e1).set (d := some d) (v := some v) h1 i).set (d := some d') (v := some w) h2 j)⟩⟩

/-! ### while -/
def whR (c : DTT) (tb : DTS) (D : DEnds) : Nat → DSt → DM → Prop
  | 0, _, _ => False
  | n + 1, δ, M => c δ M fun k M1 => if k = true then tb { D with nx := whR c tb D n, ct := whR c tb D n, bk := D.nx } δ M1 else D.nx δ M1
def dWhile (c : DTT) (tb : DTS) : DTS := fun D δ M => ∃ n, whR c tb D n δ M
theorem ds_while {body : List Stmt} {tb : DTS} (hp : PassesOwn (model X.prog X.w) X.A X.env X.xe) (hc : DPT X F0 c tc) (hb : DPSs X F0 body tb) : DPS X F0 (.While c body [] pos) (dWhile tc tb) :=
  PS.imp (ps_while hp hc hb) fun E σ H ⟨F, δ, M, DD, e0, r, s, ⟨n, h⟩, m⟩ => by
    refine ⟨fun n σ1 H1 => ∃ F1 δ1 M1, Same F F1 ∧ Rel X.K F1 M1 H1 ∧ Slots X.K F1 δ1 σ1 ∧ whR tc tb DD n δ1 M1, ⟨n, F, δ, M, Same.refl F, r, s, h⟩, ?_⟩
    rintro n σ1 H1 ⟨F1, δ1, M1, e1, r1, s1, h1⟩
    cases n with
    | zero => exact h1.elim
    | succ n =>
      refine ⟨F1, δ1, M1, _, e0.trans e1, r1, s1, h1, fun k M2 F2 H2 q e2 r2 => ?_⟩
      cases k with
      | true =>
        rw [if_pos rfl] at q ⊢
        refine ⟨_, fun σ3 H3 (n3 : ∃ F3 δ3 M3, Same F F3 ∧ Rel X.K F3 M3 H3 ∧ Slots X.K F3 δ3 σ3 ∧ whR tc tb DD n δ3 M3) => ⟨n, Nat.lt_succ_self n, n3⟩, F2, δ1, M2, _, e0.trans (e1.trans e2), r2, s1.mono e2, q, ?_⟩
        exact ⟨fun δ3 M3 F3 σ3 H3 q3 e3 r3 s3 => ⟨F3, δ3, M3, e1.trans (e2.trans e3), r3, s3, q3⟩, m.rt.mono (e1.trans e2), fun δ3 M3 F3 σ3 H3 q3 e3 r3 s3 => m.nx δ3 M3 F3 σ3 H3 q3 (e1.trans (e2.trans e3)) r3 s3,
          fun δ3 M3 F3 σ3 H3 q3 e3 r3 s3 => ⟨F3, δ3, M3, e1.trans (e2.trans e3), r3, s3, q3⟩⟩
      | false =>
        rw [if_neg Bool.false_ne_true] at q ⊢
        exact m.nx δ1 M2 F2 σ1 H2 q (e1.trans e2) r2 (s1.mono e2)

/-! ### what a for walks -/
/-- the items, as long as keep holds -/
abbrev DTI := DSt → DM → (List D → (DM → Prop) → DM → Prop) → Prop
def ItOk (K : PySem.W.Frag) (F : Hp) (J : It) (xs : List D) (keep : DM → Prop) : Prop := ∀ (i : Nat) (F1 : Hp) (M : DM) (H : Hp), Same F F1 → Rel K F1 M H → keep M →
  (∀ x, xs[i]? = some x → J.go i H ∧ ∀ v H', J.yld i H v H' → ∃ F2, Same F1 F2 ∧ Rel K F2 M H' ∧ Rep K F2 x v) ∧ (xs.length ≤ i → J.stop i H)
def liftI (K : PySem.W.Frag) (F0 : Hp) (t : DTI) : TI := fun σ H R => ∃ F δ M RD, Same F0 F ∧ Rel K F M H ∧ Slots K F δ σ ∧ t δ M RD ∧ ∀ xs keep M' F' H' J, RD xs keep M' → Same F F' → Rel K F' M' H' → ItOk K F' J xs keep → R J H'
abbrev DPI (X : Cx) (F0 : Hp) (tg iter : Expr) (t : DTI) : Prop := PI X tg iter (liftI X.K F0 t)
theorem PI.imp {X : Cx} {tg e : Expr} {t t' : TI} (h : PI X tg e t) (i : ∀ σ H Q, t' σ H Q → t σ H Q) : PI X tg e t' := ⟨fun pins s σ H Q I q => h.run pins s σ H Q I (i _ _ _ q)⟩
def forR (g : DTG) (tb : DTS) (keep : DM → Prop) (E : DEnds) : List D → DSt → DM → Prop
  | [], δ, M => keep M ∧ E.nx δ M
  | x :: r, δ, M => keep M ∧ g x δ M fun δ1 M1 => tb { E with nx := forR g tb keep E r, ct := forR g tb keep E r, bk := E.nx } δ1 M1
@[simp] def dFor (ti : DTI) (g : DTG) (tb : DTS) : DTS := fun D δ M => ti δ M fun xs keep M1 => forR g tb keep D xs δ M1
theorem ds_for {tg iter : Expr} {body : List Stmt} {ti : DTI} {g : DTG} {tb : DTS} (hp : PassesOwn (model X.prog X.w) X.A X.env X.xe) (hc : X.calm = true) (hi : DPI X F0 tg iter ti) (hg : DPG X F0 tg g) (hb : DPSs X F0 body tb)
    (hs : ∀ x, foldedSetIterable iter X.env x = pure x := by intro _; rfl) : DPS X F0 (.For tg iter body [] pos) (dFor ti g tb) :=
  PS.imp (ps_for hp hc hi hg hb hs) fun E σ H ⟨F, δ, M, DD, e0, r, s, h, m⟩ => by
    refine ⟨F, δ, M, _, e0, r, s, h, fun xs keep M1 F1 H1 J q e1 r1 ok => ?_⟩
    refine ⟨fun i n σ2 H2 => n + i = xs.length ∧ ∃ F2 δ2 M2, Same F1 F2 ∧ Rel X.K F2 M2 H2 ∧ Slots X.K F2 δ2 σ2 ∧ forR g tb keep DD (xs.drop i) δ2 M2, ⟨xs.length, rfl, F1, δ, M1, Same.refl F1, r1, s.mono e1, by simpa using q⟩, ?_⟩
    rintro i n σ2 H2 ⟨hn, F2, δ2, M2, e2, r2, s2, h2⟩
    by_cases hi : i < xs.length
    · have hx : xs[i]? = some xs[i] := by simp [hi]
      rw [List.drop_eq_getElem_cons hi] at h2
      obtain ⟨k2, h2⟩ := h2
      obtain ⟨go, yl⟩ := (ok i F2 M2 H2 e2 r2 k2).1 _ hx
      refine .inr ⟨go, fun σ' H' => ∃ F2 δ2 M2, Same F1 F2 ∧ Rel X.K F2 M2 H' ∧ Slots X.K F2 δ2 σ' ∧ forR g tb keep DD (xs.drop (i + 1)) δ2 M2, fun σ' H' z => ⟨n - 1, by omega, by omega, z⟩, fun v H' y => ?_⟩
      obtain ⟨F3, e3, r3, rv⟩ := yl v H' y
      refine ⟨F3, _, δ2, M2, _, e0.trans (e1.trans (e2.trans e3)), r3, s2.mono e3, rv, h2, fun δ4 M4 F4 σ4 H4 q4 e4 r4 s4 => ?_⟩
      refine ⟨F4, δ4, M4, _, e0.trans (e1.trans (e2.trans (e3.trans e4))), r4, s4, q4, ⟨fun δ5 M5 F5 σ5 H5 q5 e5 r5 s5 => ⟨F5, δ5, M5, e2.trans (e3.trans (e4.trans e5)), r5, s5, q5⟩, m.rt.mono (e1.trans (e2.trans (e3.trans e4))),
        fun δ5 M5 F5 σ5 H5 q5 e5 r5 s5 => m.nx δ5 M5 F5 σ5 H5 q5 (e1.trans (e2.trans (e3.trans (e4.trans e5)))) r5 s5, fun δ5 M5 F5 σ5 H5 q5 e5 r5 s5 => ⟨F5, δ5, M5, e2.trans (e3.trans (e4.trans e5)), r5, s5, q5⟩⟩⟩
    · have hd : xs.drop i = [] := List.drop_eq_nil_of_le (by omega)
      rw [hd] at h2
      obtain ⟨k2, h2⟩ := h2
      exact .inl ⟨(ok i F2 M2 H2 e2 r2 k2).2 (by omega), m.nx δ2 M2 F2 σ2 H2 h2 (e1.trans e2) r2 s2⟩
end
end DL
set_option Elab.async false
set_option linter.all false
set_option maxRecDepth 100000
/-! DL3: data: equality and order -/
namespace DL
open PySem PySem.Spec L2
open PySem.SeqAt (EqAt RcAt RcLt)
mutual
def eqD : D → D → Bool
  | .non, .non => true
  | .bl a, .bl b => a == b
  | .bl a, .int j => (if a then 1 else 0) == j
  | .int i, .bl b => i == (if b then 1 else 0)
  | .int i, .int j => i == j
  | .str x, .str y => x == y
  | .lst xs, .lst ys => eqL xs ys
  | .tup xs, .tup ys => eqL xs ys
  | _, _ => false
def eqL : List D → List D → Bool
  | [], [] => true
  | x :: xs, y :: ys => eqD x y && eqL xs ys
  | _, _ => false
end
/-- data, at most n deep -/
def lay : Nat → D → Bool
  | _, .non => true
  | _, .bl _ => true
  | _, .int _ => true
  | _, .str _ => true
  | n + 1, .lst xs => xs.all (lay n)
  | n + 1, .tup xs => xs.all (lay n)
  | _, _ => false
/-! what stands in the heap -/
mutual
def At (h : Heap) : D → Value → Prop
  | .non, u => u = .none
  | .bl b, u => u = .bool b
  | .int i, u => ∃ t, u = .int i t
  | .str x, u => ∃ t, u = .str x t
  | .lst xs, u => ∃ p its, u = .ref p ∧ h.IsList p its ∧ AtL h xs its.toList
  | .tup xs, u => ∃ p its, u = .ref p ∧ h.IsTuple p its ∧ AtL h xs its.toList
  | _, _ => False
def AtL (h : Heap) : List D → List Value → Prop
  | [], us => us = []
  | x :: xs, us => ∃ u r, us = u :: r ∧ At h x u ∧ AtL h xs r
end
theorem AtL.length {h : Heap} : ∀ {xs : List D} {us : List Value}, AtL h xs us → xs.length = us.length
  | [], _, e => by unfold AtL at e; subst e; rfl
  | _ :: xs, _, e => by
    unfold AtL at e
    obtain ⟨u, r, rfl, _, e⟩ := e
    simp [AtL.length e]
theorem AtL.get {h : Heap} : ∀ {xs : List D} {us : List Value} (j : Nat) (h1 : j < xs.length) (h2 : j < us.length), AtL h xs us → At h xs[j] us[j]
  | x :: xs, us, 0, _, h2, e => by
    unfold AtL at e
    obtain ⟨u, r, rfl, e, _⟩ := e
    exact e
  | x :: xs, us, j + 1, h1, h2, e => by
    unfold AtL at e
    obtain ⟨u, r, rfl, _, e⟩ := e
    exact AtL.get j (by simpa using h1) (by simpa using h2) e
mutual
theorem at_of {X : Cx} {pins : List (Addr × Obj)} {σ : St} {H : Hp} {s : Shared} (I : Inv X pins σ H s) : ∀ {d : D} {n : Nat} {v : V} {u : Value}, lay n d = true → Rep X.K H d v → RelV v u → At s.heap d u
  | .non, _, _, _, _, r, q => by unfold Rep at r; subst r; exact q
  | .bl _, _, _, _, _, r, q => by unfold Rep at r; subst r; exact q
  | .int _, _, _, _, _, r, q => by unfold Rep at r; subst r; exact q
  | .str _, _, _, _, _, r, q => by unfold Rep at r; subst r; exact q
  | .lst xs, n + 1, _, _, l, r, q => by
    unfold Rep at r
    obtain ⟨a, vs, rfl, h2, h3⟩ := r
    obtain ⟨its, rv, pl, _⟩ := I.list (SqL.of h2)
    unfold At
    exact ⟨a, its.toArray, q, pl.isList, by simpa using atL_of I (by simpa [lay] using l) h3 rv⟩
  | .tup xs, n + 1, _, _, l, r, q => by
    unfold Rep at r
    obtain ⟨a, vs, rfl, h2, h3⟩ := r
    obtain ⟨its, rv, pl, _⟩ := I.tuple h2
    unfold At
    exact ⟨a, its.toArray, q, pl, by simpa using atL_of I (by simpa [lay] using l) h3 rv⟩
  | .lst _, 0, _, _, l, _, _ => by simp [lay] at l
  | .tup _, 0, _, _, l, _, _ => by simp [lay] at l
  | .ty _, n, _, _, l, _, _ => by cases n <;> simp [lay] at l
  | .ref _, n, _, _, l, _, _ => by cases n <;> simp [lay] at l
  | .ins _ _ _, n, _, _, l, _, _ => by cases n <;> simp [lay] at l
  | .scr _, n, _, _, l, _, _ => by cases n <;> simp [lay] at l
theorem atL_of {X : Cx} {pins : List (Addr × Obj)} {σ : St} {H : Hp} {s : Shared} (I : Inv X pins σ H s) : ∀ {xs : List D} {n : Nat} {vs : List V} {us : List Value}, (∀ x ∈ xs, lay n x = true) → RepL X.K H xs vs → Vals vs us → AtL s.heap xs us
  | [], _, _, _, _, r, q => by
    have := r.nilV
    subst this
    cases q
    unfold AtL; rfl
  | x :: xs, n, _, _, l, r, q => by
    obtain ⟨v, vr, rfl, r1, r2⟩ := r.consV
    cases q with
    | cons q1 q2 =>
      unfold AtL
      exact ⟨_, _, rfl, at_of I (l x (by simp)) r1 q1, atL_of I (fun y hy => l y (by simp [hy])) r2 q2⟩
end
mutual
theorem At.one {h : Heap} : ∀ {d e : D} {u : Value}, At h d u → At h e u → eqD d e = true
  | .non, e, u, a, b => by unfold At at a; subst a; cases e <;> simp [At, eqD] at b ⊢
  | .bl _, e, u, a, b => by unfold At at a; subst a; cases e <;> simp [At, eqD] at b ⊢; exact b
  | .int _, e, u, a, b => by unfold At at a; obtain ⟨t, rfl⟩ := a; cases e <;> simp [At, eqD] at b ⊢; exact b
  | .str _, e, u, a, b => by unfold At at a; obtain ⟨t, rfl⟩ := a; cases e <;> simp [At, eqD] at b ⊢; exact b
  | .lst xs, e, u, a, b => by
    unfold At at a
    obtain ⟨p, its, rfl, ⟨o, ho, hc, n, hd⟩, a⟩ := a
    cases e
    case lst ys =>
      unfold At at b
      obtain ⟨q, its2, e0, ⟨o2, ho2, hc2, n2, hd2⟩, b⟩ := b
      cases e0
      rw [ho] at ho2; cases ho2
      rw [hd] at hd2
      injection hd2 with e1 _
      subst e1
      rw [eqD]
      exact AtL.one a b
    case tup ys =>
      unfold At at b
      obtain ⟨q, its2, e0, ⟨o2, ho2, hc2, n2, hd2⟩, b⟩ := b
      cases e0
      rw [ho] at ho2; cases ho2
      rw [hc] at hc2; simp at hc2
    all_goals (exfalso; unfold At at b; first | exact b | (obtain ⟨_, b⟩ := b; cases b; done) | (cases b; done))
  | .tup xs, e, u, a, b => by
    unfold At at a
    obtain ⟨p, its, rfl, ⟨o, ho, hc, n, hd⟩, a⟩ := a
    cases e
    case tup ys =>
      unfold At at b
      obtain ⟨q, its2, e0, ⟨o2, ho2, hc2, n2, hd2⟩, b⟩ := b
      cases e0
      rw [ho] at ho2; cases ho2
      rw [hd] at hd2
      injection hd2 with e1 _
      subst e1
      rw [eqD]
      exact AtL.one a b
    case lst ys =>
      unfold At at b
      obtain ⟨q, its2, e0, ⟨o2, ho2, hc2, n2, hd2⟩, b⟩ := b
      cases e0
      rw [ho] at ho2; cases ho2
      rw [hc] at hc2; simp at hc2
    all_goals (exfalso; unfold At at b; first | exact b | (obtain ⟨_, b⟩ := b; cases b; done) | (cases b; done))
  | .ty _, e, u, a, b => by unfold At at a; exact a.elim
  | .ref _, e, u, a, b => by unfold At at a; exact a.elim
  | .ins _ _ _, e, u, a, b => by unfold At at a; exact a.elim
  | .scr _, e, u, a, b => by unfold At at a; exact a.elim
theorem AtL.one {h : Heap} : ∀ {xs ys : List D} {us : List Value}, AtL h xs us → AtL h ys us → eqL xs ys = true
  | [], ys, _, a, b => by
    unfold AtL at a; subst a
    cases ys with
    | nil => simp [eqL]
    | cons y ys => unfold AtL at b; obtain ⟨_, _, e, _⟩ := b; cases e
  | x :: xs, ys, _, a, b => by
    unfold AtL at a
    obtain ⟨u, r, rfl, a1, a2⟩ := a
    cases ys with
    | nil => unfold AtL at b; cases b
    | cons y ys =>
      unfold AtL at b
      obtain ⟨_, _, e, b1, b2⟩ := b
      cases e
      simp [eqL, At.one a1 b1, AtL.one a2 b2]
end
theorem eqL_len : ∀ {xs ys : List D}, eqL xs ys = true → xs.length = ys.length
  | [], [], _ => rfl
  | x :: xs, y :: ys, h => by
    simp only [eqL, Bool.and_eq_true] at h
    simp [eqL_len h.2]
  | [], _ :: _, h => by simp [eqL] at h
  | _ :: _, [], h => by simp [eqL] at h
theorem eqL_all : ∀ (xs ys : List D), ((List.range (min xs.length ys.length)).all (fun j => eqD (xs.getD j .non) (ys.getD j .non)) && xs.length == ys.length) = eqL xs ys
  | [], [] => rfl
  | [], _ :: _ => by simp [eqL]
  | _ :: _, [] => by simp [eqL]
  | x :: xs, y :: ys => by
    have ih := eqL_all xs ys
    have m : min (x :: xs).length (y :: ys).length = min xs.length ys.length + 1 := by simp only [List.length_cons]; omega
    rw [m, List.range_succ_eq_map, List.all_cons, List.all_map, eqL, ← ih]
    simp only [List.getD_cons_zero, List.length_cons, Function.comp_def, List.getD_cons_succ, Bool.and_assoc]
    congr 2
    simp
mutual
theorem eq_at : ∀ {d e : D} {n : Nat} {A : Around} {s : Shared} {u w : Value}, At s.heap d u → At s.heap e w → lay n d = true → lay n e = true → A.units + n < cLine → RcAt A s u w (eqD d e) ∧ EqAt A s u w (eqD d e)
  | .non, e, n, A, s, u, w, a, b, ld, le, hu => by
    unfold At at a; subst a
    cases e <;> unfold At at b
    case non => subst b; exact ⟨.none_none, .same _⟩
    case bl => subst b; exact ⟨.none_bool _, .none_bool _⟩
    case int => obtain ⟨t, rfl⟩ := b; exact ⟨.none_int _ _, .none_int _ _⟩
    case str => obtain ⟨t, rfl⟩ := b; exact ⟨.none_str _ _, .none_str _ _⟩
    case lst => obtain ⟨p, its, rfl, hl, _⟩ := b; exact ⟨.none_list hl (by omega), .none_list hl (by omega)⟩
    case tup => obtain ⟨p, its, rfl, hl, _⟩ := b; exact ⟨.none_tuple hl (by omega), .none_tuple hl (by omega)⟩
    all_goals exact b.elim
  | .bl k, e, n, A, s, u, w, a, b, ld, le, hu => by
    unfold At at a; subst a
    cases e <;> unfold At at b
    case non => subst b; exact ⟨.bool_none _, .bool_none _⟩
    case bl => subst b; exact ⟨.bool_bool _ _, .bool_bool _ _⟩
    case int => obtain ⟨t, rfl⟩ := b; exact ⟨.bool_int _ _ _, .bool_int _ _ _⟩
    case str => obtain ⟨t, rfl⟩ := b; exact ⟨.bool_str _ _ _, .bool_str _ _ _⟩
    case lst => obtain ⟨p, its, rfl, hl, _⟩ := b; exact ⟨.bool_list _ hl (by omega), .bool_list _ hl (by omega)⟩
    case tup => obtain ⟨p, its, rfl, hl, _⟩ := b; exact ⟨.bool_tuple _ hl (by omega), .bool_tuple _ hl (by omega)⟩
    all_goals exact b.elim
  | .int k, e, n, A, s, u, w, a, b, ld, le, hu => by
    unfold At at a; obtain ⟨t0, rfl⟩ := a
    cases e <;> unfold At at b
    case non => subst b; exact ⟨.int_none _ _, .int_none _ _⟩
    case bl => subst b; exact ⟨.int_bool _ _ _, .int_bool _ _ _⟩
    case int => obtain ⟨t, rfl⟩ := b; exact ⟨.int_int _ _ _ _, .int_int _ _ _ _⟩
    case str => obtain ⟨t, rfl⟩ := b; exact ⟨.int_str _ _ _ _, .int_str _ _ _ _⟩
    case lst => obtain ⟨p, its, rfl, hl, _⟩ := b; exact ⟨.int_list _ _ hl (by omega), .int_list _ _ hl (by omega)⟩
    case tup => obtain ⟨p, its, rfl, hl, _⟩ := b; exact ⟨.int_tuple _ _ hl (by omega), .int_tuple _ _ hl (by omega)⟩
    all_goals exact b.elim
  | .str k, e, n, A, s, u, w, a, b, ld, le, hu => by
    unfold At at a; obtain ⟨t0, rfl⟩ := a
    cases e <;> unfold At at b
    case non => subst b; exact ⟨.str_none _ _, .str_none _ _⟩
    case bl => subst b; exact ⟨.str_bool _ _ _, .str_bool _ _ _⟩
    case int => obtain ⟨t, rfl⟩ := b; exact ⟨.str_int _ _ _ _, .str_int _ _ _ _⟩
    case str => obtain ⟨t, rfl⟩ := b; exact ⟨.str_str _ _ _ _, .str_str _ _ _ _⟩
    case lst => obtain ⟨p, its, rfl, hl, _⟩ := b; exact ⟨.str_list _ _ hl (by omega), .str_list _ _ hl (by omega)⟩
    case tup => obtain ⟨p, its, rfl, hl, _⟩ := b; exact ⟨.str_tuple _ _ hl (by omega), .str_tuple _ _ hl (by omega)⟩
    all_goals exact b.elim
  | .lst xs, e, 0, A, s, u, w, a, b, ld, le, hu => by simp [lay] at ld
  | .lst xs, e, n + 1, A, s, u, w, a, b, ld, le, hu => by
    have a0 := a
    unfold At at a; obtain ⟨p0, its0, rfl, hl0, a⟩ := a
    cases e
    case non => unfold At at b; subst b; exact ⟨.list_none hl0 (by omega), .list_none hl0 (by omega)⟩
    case bl => unfold At at b; subst b; exact ⟨.list_bool _ hl0 (by omega), .list_bool _ hl0 (by omega)⟩
    case int => unfold At at b; obtain ⟨t, rfl⟩ := b; exact ⟨.list_int _ _ hl0 (by omega), .list_int _ _ hl0 (by omega)⟩
    case str => unfold At at b; obtain ⟨t, rfl⟩ := b; exact ⟨.list_str _ _ hl0 (by omega), .list_str _ _ hl0 (by omega)⟩
    case tup => unfold At at b; obtain ⟨p, its, rfl, hl, _⟩ := b; exact ⟨.list_tuple hl0 hl (by omega), .list_tuple hl0 hl (by omega)⟩
    case lst ys =>
      have b0 := b
      unfold At at b; obtain ⟨p, its, rfl, hl, b⟩ := b
      have n1 := a.length
      have n2 := b.length
      simp only [Array.length_toList] at n1 n2
      have rc : RcAt A s (.ref p0) (.ref p) (eqD (.lst xs) (.lst ys)) := by
        rw [eqD, ← eqL_all xs ys]
        by_cases hz : its0.size = its.size
        · have ee : (xs.length == ys.length) = true := by simp; omega
          have em : min xs.length ys.length = its0.size := by omega
          rw [ee, Bool.and_true, em]
          refine RcAt.lists hl0 hl hz (by omega) fun j h1 h2 => ?_
          exact eq_atL a b (by simpa [lay] using ld) (by simpa [lay] using le) (show A.in1.units + n < cLine by show A.units + 1 + n < cLine; omega) j (by simpa using h1) (by simpa using h2)
        · have ee : (xs.length == ys.length) = false := by simp; omega
          rw [ee, Bool.and_false]
          exact RcAt.lists_lengths hl0 hl (by simpa using hz) (by omega)
      refine ⟨rc, ?_⟩
      by_cases hp : p0 = p
      · subst hp
        rw [At.one a0 b0]
        exact .same _
      · exact .of_refs hp rc
    all_goals (unfold At at b; exact b.elim)
  | .tup xs, e, 0, A, s, u, w, a, b, ld, le, hu => by simp [lay] at ld
  | .tup xs, e, n + 1, A, s, u, w, a, b, ld, le, hu => by
    have a0 := a
    unfold At at a; obtain ⟨p0, its0, rfl, hl0, a⟩ := a
    cases e
    case non => unfold At at b; subst b; exact ⟨.tuple_none hl0 (by omega), .tuple_none hl0 (by omega)⟩
    case bl => unfold At at b; subst b; exact ⟨.tuple_bool _ hl0 (by omega), .tuple_bool _ hl0 (by omega)⟩
    case int => unfold At at b; obtain ⟨t, rfl⟩ := b; exact ⟨.tuple_int _ _ hl0 (by omega), .tuple_int _ _ hl0 (by omega)⟩
    case str => unfold At at b; obtain ⟨t, rfl⟩ := b; exact ⟨.tuple_str _ _ hl0 (by omega), .tuple_str _ _ hl0 (by omega)⟩
    case lst => unfold At at b; obtain ⟨p, its, rfl, hl, _⟩ := b; exact ⟨.tuple_list hl0 hl (by omega), .tuple_list hl0 hl (by omega)⟩
    case tup ys =>
      have b0 := b
      unfold At at b; obtain ⟨p, its, rfl, hl, b⟩ := b
      have n1 := a.length
      have n2 := b.length
      simp only [Array.length_toList] at n1 n2
      have rc : RcAt A s (.ref p0) (.ref p) (eqD (.tup xs) (.tup ys)) := by
        rw [eqD, ← eqL_all xs ys, n1, n2]
        refine RcAt.tuples hl0 hl (by omega) fun j h1 h2 => ?_
        exact eq_atL a b (by simpa [lay] using ld) (by simpa [lay] using le) (show A.in1.units + n < cLine by show A.units + 1 + n < cLine; omega) j (by simpa using h1) (by simpa using h2)
      refine ⟨rc, ?_⟩
      by_cases hp : p0 = p
      · subst hp
        rw [At.one a0 b0]
        exact .same _
      · exact .of_refs hp rc
    all_goals (unfold At at b; exact b.elim)
  | .ty _, e, _, _, _, u, _, a, b, _, _, _ => by unfold At at a; exact a.elim
  | .ref _, e, _, _, _, u, _, a, b, _, _, _ => by unfold At at a; exact a.elim
  | .ins _ _ _, e, _, _, _, u, _, a, b, _, _, _ => by unfold At at a; exact a.elim
  | .scr _, e, _, _, _, u, _, a, b, _, _, _ => by unfold At at a; exact a.elim
theorem eq_atL : ∀ {xs ys : List D} {n : Nat} {A : Around} {s : Shared} {us ws : List Value}, AtL s.heap xs us → AtL s.heap ys ws → (∀ x ∈ xs, lay n x = true) → (∀ y ∈ ys, lay n y = true) → A.units + n < cLine →
    ∀ j (h1 : j < us.length) (h2 : j < ws.length), EqAt A s us[j] ws[j] (eqD (xs.getD j .non) (ys.getD j .non))
  | [], ys, n, A, s, us, ws, a, b, la, lb, hu, j, h1, h2 => by unfold AtL at a; subst a; simp at h1
  | x :: xs, [], n, A, s, us, ws, a, b, la, lb, hu, j, h1, h2 => by unfold AtL at b; subst b; simp at h2
  | x :: xs, y :: ys, n, A, s, us, ws, a, b, la, lb, hu, j, h1, h2 => by
    unfold AtL at a b
    obtain ⟨u, r, rfl, a1, a2⟩ := a
    obtain ⟨w, q, rfl, b1, b2⟩ := b
    cases j with
    | zero => exact (eq_at a1 b1 (la x (by simp)) (lb y (by simp)) hu).2
    | succ j =>
      have := eq_atL a2 b2 (fun z hz => la z (by simp [hz])) (fun z hz => lb z (by simp [hz])) hu j (by simpa using h1) (by simpa using h2)
      simpa using this
end
end DL
set_option Elab.async false
set_option linter.all false
set_option maxRecDepth 100000
/-! DL4: order of data; the operators -/
namespace DL
open PySem PySem.Spec L2
open PySem.SeqAt (EqAt RcAt RcLt RcOp firstLt)
mutual
theorem eqD_comm : ∀ (x y : D), eqD x y = eqD y x
  | .non, y => by cases y <;> simp [eqD]
  | .bl a, y => by cases y <;> simp [eqD, Bool.beq_comm, eq_comm]
  | .int a, y => by cases y <;> simp only [eqD] <;> exact BEq.comm
  | .str a, y => by cases y <;> simp only [eqD] <;> exact BEq.comm
  | .lst xs, y => by
    cases y <;> simp [eqD]
    exact eqL_comm xs _
  | .tup xs, y => by
    cases y <;> simp [eqD]
    exact eqL_comm xs _
  | .ty _, y => by cases y <;> simp [eqD]
  | .ref _, y => by cases y <;> simp [eqD]
  | .ins _ _ _, y => by cases y <;> simp [eqD]
  | .scr _, y => by cases y <;> simp [eqD]
theorem eqL_comm : ∀ (xs ys : List D), eqL xs ys = eqL ys xs
  | [], [] => rfl
  | [], _ :: _ => by simp [eqL]
  | _ :: _, [] => by simp [eqL]
  | x :: xs, y :: ys => by simp [eqL, eqD_comm x y, eqL_comm xs ys]
end
mutual
def ltD : D → D → Bool
  | .int i, .int j => decide (i < j)
  | .bl a, .bl b => !a && b
  | .str x, .str y => decide (x.cps.toList < y.cps.toList)
  | .lst xs, .lst ys => ltL xs ys
  | .tup xs, .tup ys => ltL xs ys
  | _, _ => false
def ltL : List D → List D → Bool
  | [], [] => false
  | [], _ :: _ => true
  | _ :: _, [] => false
  | x :: xs, y :: ys => if eqD x y then ltL xs ys else ltD x y
end
/-! two values that can be compared by their order, place by place -/
mutual
def like : D → D → Bool
  | .int _, .int _ => true
  | .bl _, .bl _ => true
  | .str _, .str _ => true
  | .tup xs, .tup ys => likeL xs ys
  | .lst xs, .lst ys => likeL xs ys
  | _, _ => false
def likeL : List D → List D → Bool
  | x :: xs, y :: ys => like x y && likeL xs ys
  | _, _ => true
end
def cmpD : CmpOp → D → D → Bool
  | .Lt, x, y => ltD x y
  | .Gt, x, y => ltD y x
  | .LtE, x, y => !ltD y x
  | .GtE, x, y => !ltD x y
  | _, _, _ => false
def ordOp : CmpOp → Bool
  | .Lt => true | .Gt => true | .LtE => true | .GtE => true | _ => false
def cmpN : CmpOp → Nat → Nat → Bool
  | .Lt, n, m => decide (n < m)
  | .Gt, n, m => decide (n > m)
  | .LtE, n, m => decide (n ≤ m)
  | .GtE, n, m => decide (n ≥ m)
  | _, _, _ => false
theorem first_cmp (op : CmpOp) (ho : ordOp op = true) : ∀ (xs ys : List D) (k : Nat) (X Y : List D), X.drop k = xs → Y.drop k = ys → k ≤ X.length → k ≤ Y.length →
    firstLt (fun j => eqD (X.getD j .non) (Y.getD j .non)) (fun j => cmpD op (X.getD j .non) (Y.getD j .non)) (cmpN op X.length Y.length) ((List.range (min xs.length ys.length)).map (· + k)) = cmpD op (.tup xs) (.tup ys)
  | x :: xs, y :: ys, k, X, Y, hx, hy, k1, k2 => by
    have m : min (x :: xs).length (y :: ys).length = min xs.length ys.length + 1 := by simp only [List.length_cons]; omega
    have lx : k < X.length := by
      rcases Nat.lt_or_ge k X.length with h | h
      · exact h
      · rw [List.drop_eq_nil_of_le h] at hx; cases hx
    have ly : k < Y.length := by
      rcases Nat.lt_or_ge k Y.length with h | h
      · exact h
      · rw [List.drop_eq_nil_of_le h] at hy; cases hy
    have gx : X.getD k .non = x := by
      rw [List.drop_eq_getElem_cons lx] at hx
      simp only [List.cons.injEq] at hx
      simp [List.getD, lx, hx.1]
    have gy : Y.getD k .non = y := by
      rw [List.drop_eq_getElem_cons ly] at hy
      simp only [List.cons.injEq] at hy
      simp [List.getD, ly, hy.1]
    have dx : X.drop (k + 1) = xs := by rw [← List.drop_drop, hx]; rfl
    have dy : Y.drop (k + 1) = ys := by rw [← List.drop_drop, hy]; rfl
    have ih := first_cmp op ho xs ys (k + 1) X Y dx dy lx ly
    have er : (List.range (min (x :: xs).length (y :: ys).length)).map (· + k) = k :: (List.range (min xs.length ys.length)).map (· + (k + 1)) := by
      rw [m, List.range_succ_eq_map, List.map_cons, List.map_map]
      simp only [Nat.zero_add, List.cons.injEq, true_and]
      apply List.map_congr_left
      intro j _
      simp only [Function.comp_def, Nat.succ_eq_add_one]
      omega
    rw [er, firstLt, gx, gy]
    by_cases e : eqD x y = true
    · rw [if_pos e, ih]
      have e' : eqD y x = true := by rw [eqD_comm]; exact e
      cases op <;> simp [cmpD, ltD, ltL, e, e'] at ho ⊢
    · have e1 : eqD x y = false := by simpa using e
      have e2 : eqD y x = false := by rw [eqD_comm]; exact e1
      rw [if_neg e]
      cases op <;> simp [cmpD, ltD, ltL, e1, e2] at ho ⊢
  | [], [], k, X, Y, hx, hy, k1, k2 => by
    have l1 := congrArg List.length hx
    have l2 := congrArg List.length hy
    simp at l1 l2
    have e : X.length = Y.length := by omega
    cases op <;> simp [firstLt, cmpD, cmpN, ltD, ltL, e, ordOp] at ho ⊢
  | [], y :: ys, k, X, Y, hx, hy, k1, k2 => by
    have l1 := congrArg List.length hx
    have l2 := congrArg List.length hy
    simp at l1 l2
    cases op <;> simp [firstLt, cmpD, cmpN, ltD, ltL, ordOp] at ho ⊢ <;> omega
  | x :: xs, [], k, X, Y, hx, hy, k1, k2 => by
    have l1 := congrArg List.length hx
    have l2 := congrArg List.length hy
    simp at l1 l2
    cases op <;> simp [firstLt, cmpD, cmpN, ltD, ltL, ordOp] at ho ⊢ <;> omega
theorem first_cmp0 (op : CmpOp) (ho : ordOp op = true) (xs ys : List D) :
    firstLt (fun j => eqD (xs.getD j .non) (ys.getD j .non)) (fun j => cmpD op (xs.getD j .non) (ys.getD j .non)) (cmpN op xs.length ys.length) (List.range (min xs.length ys.length)) = cmpD op (.tup xs) (.tup ys) := by
  have := first_cmp op ho xs ys 0 xs ys rfl rfl (Nat.zero_le _) (Nat.zero_le _)
  simpa using this
theorem cmpD_lst (op : CmpOp) (xs ys : List D) : cmpD op (.lst xs) (.lst ys) = cmpD op (.tup xs) (.tup ys) := by
  cases op <;> simp [cmpD, ltD]
mutual
theorem cmp_at (op : CmpOp) (ho : ordOp op = true) : ∀ {d e : D} {n : Nat} {A : Around} {s : Shared} {u w : Value}, At s.heap d u → At s.heap e w → lay n d = true → lay n e = true → like d e = true → A.units + n < cLine → RcOp op A s u w (cmpD op d e)
  | .int i, e, n, A, s, u, w, a, b, ld, le, lk, hu => by
    cases e <;> simp [like] at lk
    rename_i j
    unfold At at a b
    obtain ⟨t, rfl⟩ := a
    obtain ⟨t', rfl⟩ := b
    intro prog w E Q h
    cases op <;> simp [ordOp] at ho
    · exact PyProof.Rows.lt_int h
    · refine PyProof.Rows.le_int ?_
      rw [show decide (i ≤ j) = !decide (j < i) from by rw [← decide_not, decide_eq_decide]; omega]
      exact h
    · exact PyProof.Rows.gt_int h
    · refine PyProof.Rows.ge_int ?_
      rw [show decide (j ≤ i) = !decide (i < j) from by rw [← decide_not, decide_eq_decide]; omega]
      exact h
  | .bl i, e, n, A, s, u, w, a, b, ld, le, lk, hu => by
    cases e <;> simp [like] at lk
    rename_i j
    unfold At at a b
    subst a b
    intro prog w E Q h
    cases op <;> simp [ordOp] at ho
    · exact PyProof.Rows.lt_bool (by cases i <;> cases j <;> exact h)
    · exact PyProof.Rows.le_bool (by cases i <;> cases j <;> exact h)
    · exact PyProof.Rows.gt_bool (by cases i <;> cases j <;> exact h)
    · exact PyProof.Rows.ge_bool (by cases i <;> cases j <;> exact h)
  | .str i, e, n, A, s, u, w, a, b, ld, le, lk, hu => by
    cases e <;> simp [like] at lk
    unfold At at a b
    obtain ⟨t, rfl⟩ := a
    obtain ⟨t', rfl⟩ := b
    intro prog w E Q h
    cases op <;> simp [ordOp] at ho
    · exact PyProof.Rows.lt_str h
    · exact PySem.P.le_str h
    · exact PySem.P.gt_str h
    · exact PySem.P.ge_str h
  | .tup xs, e, 0, A, s, u, w, a, b, ld, le, lk, hu => by simp [lay] at ld
  | .tup xs, e, n + 1, A, s, u, w, a, b, ld, le, lk, hu => by
    cases e <;> simp [like] at lk
    rename_i ys
    unfold At at a b
    obtain ⟨p0, its0, rfl, hl0, a⟩ := a
    obtain ⟨p, its, rfl, hl, b⟩ := b
    have n1 := a.length
    have n2 := b.length
    simp only [Array.length_toList] at n1 n2
    have hu' : A.in1.units + n < cLine := by show A.units + 1 + n < cLine; omega
    have hq : ∀ j (h1 : j < its0.size) (h2 : j < its.size), EqAt A.in1 s its0[j] its[j] (eqD (xs.getD j .non) (ys.getD j .non)) := fun j h1 h2 =>
      eq_atL a b (by simpa [lay] using ld) (by simpa [lay] using le) hu' j (by simpa using h1) (by simpa using h2)
    have hr : ∀ j (h1 : j < its0.size) (h2 : j < its.size), RcOp op A.in1 s its0[j] its[j] (cmpD op (xs.getD j .non) (ys.getD j .non)) := fun j h1 h2 =>
      cmp_atL op ho a b (by simpa [lay] using ld) (by simpa [lay] using le) lk hu' j (by simpa using h1) (by simpa using h2)
    rw [← first_cmp0 op ho, n1, n2]
    cases op <;> simp [ordOp] at ho
    · exact PySem.SeqAt.RcLt.tuples hl0 hl (by omega) hq fun j h1 h2 _ => hr j h1 h2
    · exact PySem.SeqAt.RcOp.tuples_le hl0 hl (by omega) hq fun j h1 h2 _ => hr j h1 h2
    · exact PySem.SeqAt.RcOp.tuples_gt hl0 hl (by omega) hq fun j h1 h2 _ => hr j h1 h2
    · exact PySem.SeqAt.RcOp.tuples_ge hl0 hl (by omega) hq fun j h1 h2 _ => hr j h1 h2
  | .lst xs, e, 0, A, s, u, w, a, b, ld, le, lk, hu => by simp [lay] at ld
  | .lst xs, e, n + 1, A, s, u, w, a, b, ld, le, lk, hu => by
    cases e <;> simp [like] at lk
    rename_i ys
    unfold At at a b
    obtain ⟨p0, its0, rfl, hl0, a⟩ := a
    obtain ⟨p, its, rfl, hl, b⟩ := b
    have n1 := a.length
    have n2 := b.length
    simp only [Array.length_toList] at n1 n2
    have hu' : A.in1.units + n < cLine := by show A.units + 1 + n < cLine; omega
    have hq : ∀ j (h1 : j < its0.size) (h2 : j < its.size), EqAt A.in1 s its0[j] its[j] (eqD (xs.getD j .non) (ys.getD j .non)) := fun j h1 h2 =>
      eq_atL a b (by simpa [lay] using ld) (by simpa [lay] using le) hu' j (by simpa using h1) (by simpa using h2)
    have hr : ∀ j (h1 : j < its0.size) (h2 : j < its.size), RcOp op A.in1 s its0[j] its[j] (cmpD op (xs.getD j .non) (ys.getD j .non)) := fun j h1 h2 =>
      cmp_atL op ho a b (by simpa [lay] using ld) (by simpa [lay] using le) lk hu' j (by simpa using h1) (by simpa using h2)
    rw [cmpD_lst, ← first_cmp0 op ho, n1, n2]
    cases op <;> simp [ordOp] at ho
    · exact PySem.SeqAt.RcLt.lists hl0 hl (by omega) hq fun j h1 h2 _ => hr j h1 h2
    · exact PySem.SeqAt.RcOp.lists_le hl0 hl (by omega) hq fun j h1 h2 _ => hr j h1 h2
    · exact PySem.SeqAt.RcOp.lists_gt hl0 hl (by omega) hq fun j h1 h2 _ => hr j h1 h2
    · exact PySem.SeqAt.RcOp.lists_ge hl0 hl (by omega) hq fun j h1 h2 _ => hr j h1 h2
  | .non, e, _, _, _, _, _, a, b, _, _, lk, _ => by cases e <;> simp [like] at lk
  | .ty _, e, _, _, _, _, _, a, b, _, _, lk, _ => by cases e <;> simp [like] at lk
  | .ref _, e, _, _, _, _, _, a, b, _, _, lk, _ => by cases e <;> simp [like] at lk
  | .ins _ _ _, e, _, _, _, _, _, a, b, _, _, lk, _ => by cases e <;> simp [like] at lk
  | .scr _, e, _, _, _, _, _, a, b, _, _, lk, _ => by cases e <;> simp [like] at lk
theorem cmp_atL (op : CmpOp) (ho : ordOp op = true) : ∀ {xs ys : List D} {n : Nat} {A : Around} {s : Shared} {us ws : List Value}, AtL s.heap xs us → AtL s.heap ys ws → (∀ x ∈ xs, lay n x = true) → (∀ y ∈ ys, lay n y = true) → likeL xs ys = true → A.units + n < cLine →
    ∀ j (h1 : j < us.length) (h2 : j < ws.length), RcOp op A s us[j] ws[j] (cmpD op (xs.getD j .non) (ys.getD j .non))
  | [], ys, n, A, s, us, ws, a, b, la, lb, lk, hu, j, h1, h2 => by unfold AtL at a; subst a; simp at h1
  | x :: xs, [], n, A, s, us, ws, a, b, la, lb, lk, hu, j, h1, h2 => by unfold AtL at b; subst b; simp at h2
  | x :: xs, y :: ys, n, A, s, us, ws, a, b, la, lb, lk, hu, j, h1, h2 => by
    unfold AtL at a b
    obtain ⟨u, r, rfl, a1, a2⟩ := a
    obtain ⟨w, q, rfl, b1, b2⟩ := b
    simp only [likeL, Bool.and_eq_true] at lk
    cases j with
    | zero => exact cmp_at op ho a1 b1 (la x (by simp)) (lb y (by simp)) lk.1 hu
    | succ j =>
      have := cmp_atL op ho a2 b2 (fun z hz => la z (by simp [hz])) (fun z hz => lb z (by simp [hz])) lk.2 hu j (by simpa using h1) (by simpa using h2)
      simpa using this
end
end DL
set_option Elab.async false
set_option linter.all false
set_option maxRecDepth 100000
/-! DL5: the operators -/
namespace DL
open PySem PySem.Spec L2
open PySem.SeqAt (EqAt RcAt RcLt RcOp RcNeAt firstLt)
theorem ne_at : ∀ {d e : D} {n : Nat} {A : Around} {s : Shared} {u w : Value}, At s.heap d u → At s.heap e w → lay n d = true → lay n e = true → A.units + n < cLine → RcNeAt A s u w (!eqD d e) := by
  intro d e n A s u w a b ld le hu
  cases d
  case non =>
    unfold At at a; subst a
    cases e
    case non => unfold At at b; subst b; exact RcNeAt.none_none
    case bl => unfold At at b; subst b; exact RcNeAt.none_bool _
    case int => unfold At at b; obtain ⟨tb, rfl⟩ := b; exact RcNeAt.none_int _ _
    case str => unfold At at b; obtain ⟨tb, rfl⟩ := b; exact RcNeAt.none_str _ _
    case lst => have b0 := b; unfold At at b; obtain ⟨pb, ib, rfl, hb, b⟩ := b; exact RcNeAt.none_list hb (by omega)
    case tup => have b0 := b; unfold At at b; obtain ⟨pb, ib, rfl, hb, b⟩ := b; exact RcNeAt.none_tuple hb (by omega)
    all_goals (unfold At at b; exact b.elim)
  case bl =>
    unfold At at a; subst a
    cases e
    case non => unfold At at b; subst b; exact RcNeAt.bool_none _
    case bl => unfold At at b; subst b; exact RcNeAt.bool_bool _ _
    case int => unfold At at b; obtain ⟨tb, rfl⟩ := b; exact RcNeAt.bool_int _ _ _
    case str => unfold At at b; obtain ⟨tb, rfl⟩ := b; exact RcNeAt.bool_str _ _ _
    case lst => have b0 := b; unfold At at b; obtain ⟨pb, ib, rfl, hb, b⟩ := b; exact RcNeAt.bool_list _ hb (by omega)
    case tup => have b0 := b; unfold At at b; obtain ⟨pb, ib, rfl, hb, b⟩ := b; exact RcNeAt.bool_tuple _ hb (by omega)
    all_goals (unfold At at b; exact b.elim)
  case int =>
    unfold At at a; obtain ⟨ta, rfl⟩ := a
    cases e
    case non => unfold At at b; subst b; exact RcNeAt.int_none _ _
    case bl => unfold At at b; subst b; exact RcNeAt.int_bool _ _ _
    case int => unfold At at b; obtain ⟨tb, rfl⟩ := b; exact RcNeAt.int_int _ _ _ _
    case str => unfold At at b; obtain ⟨tb, rfl⟩ := b; exact RcNeAt.int_str _ _ _ _
    case lst => have b0 := b; unfold At at b; obtain ⟨pb, ib, rfl, hb, b⟩ := b; exact RcNeAt.int_list _ _ hb (by omega)
    case tup => have b0 := b; unfold At at b; obtain ⟨pb, ib, rfl, hb, b⟩ := b; exact RcNeAt.int_tuple _ _ hb (by omega)
    all_goals (unfold At at b; exact b.elim)
  case str =>
    unfold At at a; obtain ⟨ta, rfl⟩ := a
    cases e
    case non => unfold At at b; subst b; exact RcNeAt.str_none _ _
    case bl => unfold At at b; subst b; exact RcNeAt.str_bool _ _ _
    case int => unfold At at b; obtain ⟨tb, rfl⟩ := b; exact RcNeAt.str_int _ _ _ _
    case str => unfold At at b; obtain ⟨tb, rfl⟩ := b; exact RcNeAt.str_str _ _ _ _
    case lst => have b0 := b; unfold At at b; obtain ⟨pb, ib, rfl, hb, b⟩ := b; exact RcNeAt.str_list _ _ hb (by omega)
    case tup => have b0 := b; unfold At at b; obtain ⟨pb, ib, rfl, hb, b⟩ := b; exact RcNeAt.str_tuple _ _ hb (by omega)
    all_goals (unfold At at b; exact b.elim)
  case lst =>
    have a0 := a; unfold At at a; obtain ⟨pa, ia, rfl, ha, a⟩ := a
    cases e
    case non => unfold At at b; subst b; exact RcNeAt.list_none ha (by omega)
    case bl => unfold At at b; subst b; exact RcNeAt.list_bool _ ha (by omega)
    case int => unfold At at b; obtain ⟨tb, rfl⟩ := b; exact RcNeAt.list_int _ _ ha (by omega)
    case str => unfold At at b; obtain ⟨tb, rfl⟩ := b; exact RcNeAt.list_str _ _ ha (by omega)
    case lst =>
      rename_i xs ys
      have b0 := b; unfold At at b; obtain ⟨pb, ib, rfl, hb, b⟩ := b
      cases n with
      | zero => simp [lay] at ld
      | succ n =>
      have n1 := a.length
      have n2 := b.length
      simp only [Array.length_toList] at n1 n2
      rw [eqD, ← eqL_all xs ys]
      by_cases hz : ia.size = ib.size
      · have ee : (xs.length == ys.length) = true := by simp; omega
        have em : min xs.length ys.length = ia.size := by omega
        rw [ee, Bool.and_true, em]
        refine RcNeAt.lists ha hb hz (by omega) fun j h1 h2 => ?_
        exact eq_atL a b (by simpa [lay] using ld) (by simpa [lay] using le) (show A.in1.units + n < cLine by show A.units + 1 + n < cLine; omega) j (by simpa using h1) (by simpa using h2)
      · have ee : (xs.length == ys.length) = false := by simp; omega
        rw [ee, Bool.and_false]
        exact RcNeAt.lists_lengths ha hb (by simpa using hz) (by omega)
    case tup => have b0 := b; unfold At at b; obtain ⟨pb, ib, rfl, hb, b⟩ := b; exact RcNeAt.list_tuple ha hb (by omega)
    all_goals (unfold At at b; exact b.elim)
  case tup =>
    have a0 := a; unfold At at a; obtain ⟨pa, ia, rfl, ha, a⟩ := a
    cases e
    case non => unfold At at b; subst b; exact RcNeAt.tuple_none ha (by omega)
    case bl => unfold At at b; subst b; exact RcNeAt.tuple_bool _ ha (by omega)
    case int => unfold At at b; obtain ⟨tb, rfl⟩ := b; exact RcNeAt.tuple_int _ _ ha (by omega)
    case str => unfold At at b; obtain ⟨tb, rfl⟩ := b; exact RcNeAt.tuple_str _ _ ha (by omega)
    case lst => have b0 := b; unfold At at b; obtain ⟨pb, ib, rfl, hb, b⟩ := b; exact RcNeAt.tuple_list ha hb (by omega)
    case tup =>
      rename_i xs ys
      have b0 := b; unfold At at b; obtain ⟨pb, ib, rfl, hb, b⟩ := b
      cases n with
      | zero => simp [lay] at ld
      | succ n =>
      have n1 := a.length
      have n2 := b.length
      simp only [Array.length_toList] at n1 n2
      rw [eqD, ← eqL_all xs ys, n1, n2]
      refine RcNeAt.tuples ha hb (by omega) fun j h1 h2 => ?_
      exact eq_atL a b (by simpa [lay] using ld) (by simpa [lay] using le) (show A.in1.units + n < cLine by show A.units + 1 + n < cLine; omega) j (by simpa using h1) (by simpa using h2)
    all_goals (unfold At at b; exact b.elim)
  all_goals (unfold At at a; exact a.elim)

/-! ### a list that is written, as a plain one -/
def res (M : DM) : D → D
  | .ref p => match M p with
    | some (.lst xs) => .lst xs
    | _ => .ref p
  | d => d
theorem res_rep {K : PySem.W.Frag} {F H : Hp} {M : DM} {d : D} {v : V} (r : Rel K F M H) (h : Rep K F d v) : Rep K H (res M d) v := by
  cases d with
  | ref p =>
    unfold res
    dsimp only
    split
    · rename_i xs e
      obtain ⟨_, o, ho, vs, rfl, rs⟩ := r.mr p _ e
      unfold Rep at h ⊢
      exact ⟨p, vs, h, ho, rs.mono r.sub⟩
    · exact h.mono r.sub
  | _ => exact h.mono r.sub
section
variable {X : Cx} {F0 : Hp}
theorem fin2 {pins : List (Addr × Obj)} {σ : St} {H F : Hp} {M : DM} {s : Shared} {QD : DK} {Q : VK} {d : D} {v : V} {u : Value} (I : Inv X pins σ H s) (r : Rel X.K F M H) (m : Meets X.K F QD Q) (q : QD d M) (hd : Rep X.K F d v) (ru : RelV v u) : EP X pins σ Q u s :=
  ⟨v, H, I, ru, m d M F H v q (Same.refl F) r hd⟩
theorem rep_bl {K : PySem.W.Frag} {F : Hp} {b : Bool} : Rep K F (.bl b) (.bl b) := by unfold Rep; rfl
theorem rep_int {K : PySem.W.Frag} {F : Hp} {i : Int} : Rep K F (.int i) (.int i) := by unfold Rep; rfl
theorem rep_str {K : PySem.W.Frag} {F : Hp} {x : Str} : Rep K F (.str x) (.str x) := by unfold Rep; rfl
theorem rep_non {K : PySem.W.Frag} {F : Hp} : Rep K F .non .non := by unfold Rep; rfl
theorem rep_ref {K : PySem.W.Frag} {F : Hp} {a : Addr} : Rep K F (.ref a) (.ref a) := by unfold Rep; rfl
/-! ### == and != -/
def dEq : D2 := fun x y M Q => (lay 60 (res M x) && lay 60 (res M y)) = true ∧ Q (.bl (eqD (res M x) (res M y))) M
def dNe : D2 := fun x y M Q => (lay 60 (res M x) && lay 60 (res M y)) = true ∧ Q (.bl (!eqD (res M x) (res M y))) M
theorem op_deq (hu : X.A.units + 64 < cLine) : DOp X F0 (compareOp .Eq) dEq := by
  intro pins s σ H x y v u Q I rx ry h
  obtain ⟨F, M, dx, dy, QD, e0, r, r1, r2, ⟨l, q⟩, m⟩ := h
  simp only [Bool.and_eq_true] at l
  have a := at_of I l.1 (res_rep r r1) rx
  have b := at_of I l.2 (res_rep r r2) ry
  exact (eq_at a b l.1 l.2 (by omega)).1 X.prog X.w X.xe _ (fin2 I r m q rep_bl rfl)
theorem op_dne (hu : X.A.units + 64 < cLine) : DOp X F0 (compareOp .NotEq) dNe := by
  intro pins s σ H x y v u Q I rx ry h
  obtain ⟨F, M, dx, dy, QD, e0, r, r1, r2, ⟨l, q⟩, m⟩ := h
  simp only [Bool.and_eq_true] at l
  have a := at_of I l.1 (res_rep r r1) rx
  have b := at_of I l.2 (res_rep r r2) ry
  exact ne_at a b l.1 l.2 (by omega) X.prog X.w X.xe _ (fin2 I r m q rep_bl rfl)
/-! ### < <= > >= -/
def dCmp (op : CmpOp) : D2 := fun x y M Q => (lay 60 (res M x) && lay 60 (res M y) && like (res M x) (res M y)) = true ∧ Q (.bl (cmpD op (res M x) (res M y))) M
theorem op_dcmp {op : CmpOp} (hu : X.A.units + 64 < cLine) (ho : ordOp op = true := by rfl) : DOp X F0 (compareOp op) (dCmp op) := by
  intro pins s σ H x y v u Q I rx ry h
  obtain ⟨F, M, dx, dy, QD, e0, r, r1, r2, ⟨l, q⟩, m⟩ := h
  simp only [Bool.and_eq_true] at l
  have a := at_of I l.1.1 (res_rep r r1) rx
  have b := at_of I l.1.2 (res_rep r r2) ry
  have c := cmp_at op ho (A := X.A) a b l.1.1 l.1.2 l.2 (by omega) X.prog X.w X.xe _ (fin2 I r m q rep_bl rfl)
  cases op <;> first | exact c | (simp [ordOp] at ho)
/-! ### is -/
def isNon : D → Bool
  | .non => true
  | _ => false
def isD : D → D → Option Bool
  | x, .non => some (isNon x)
  | .bl a, .bl b => some (a == b)
  | .non, .bl _ => some false
  | _, _ => none
def dIs : D2 := fun x y M Q => match isD x y with
  | some b => Q (.bl b) M
  | none => False
def dIsNot : D2 := fun x y M Q => match isD x y with
  | some b => Q (.bl (!b)) M
  | none => False
theorem rel_non {K : PySem.W.Frag} {F : Hp} {d : D} {v : V} (h : Rep K F d v) : decide (v = .non) = isNon d := by
  cases d <;> unfold Rep at h
  case tup => obtain ⟨a, vs, rfl, _⟩ := h; rfl
  case lst => obtain ⟨a, vs, rfl, _⟩ := h; rfl
  case scr => obtain ⟨a, vs, rfl, _⟩ := h; rfl
  case ins => obtain ⟨a, dx, vs, rfl, _⟩ := h; rfl
  all_goals (subst h; rfl)
theorem op_dis : DOp X F0 (compareOp .Is) dIs := by
  intro pins s σ H x y v u Q I rx ry h
  obtain ⟨F, M, dx, dy, QD, e0, r, r1, r2, q, m⟩ := h
  unfold dIs isD at q
  split at q
  · rename_i b e
    split at e
    · cases e
      unfold Rep at r2; subst r2
      exact op_isN pins s σ H x _ v u Q I rx ry ⟨rfl, by rw [rel_non r1]; exact m _ M F H _ q (Same.refl F) r rep_bl⟩
    · cases e
      unfold Rep at r1 r2; subst r1 r2
      exact op_is_bl pins s σ H _ _ v u Q I rx ry ⟨_, _, rfl, rfl, by rw [← Bool.beq_eq_decide_eq]; exact m _ M F H _ q (Same.refl F) r rep_bl⟩
    · cases e
      unfold Rep at r1 r2; subst r1 r2
      cases rx; cases ry
      exact wpAny_is_other rfl (fun z => nomatch z) (fin2 I r m q rep_bl rfl)
    · cases e
  · exact q.elim
theorem op_disnot : DOp X F0 (compareOp .IsNot) dIsNot := by
  intro pins s σ H x y v u Q I rx ry h
  obtain ⟨F, M, dx, dy, QD, e0, r, r1, r2, q, m⟩ := h
  unfold dIsNot isD at q
  split at q
  · rename_i b e
    split at e
    · cases e
      unfold Rep at r2; subst r2
      exact op_notN pins s σ H x _ v u Q I rx ry ⟨rfl, by rw [rel_non r1]; exact m _ M F H _ q (Same.refl F) r rep_bl⟩
    · cases e
      unfold Rep at r1 r2; subst r1 r2
      exact op_isnot_bl pins s σ H _ _ v u Q I rx ry ⟨_, _, rfl, rfl, by rw [← Bool.beq_eq_decide_eq]; exact m _ M F H _ q (Same.refl F) r rep_bl⟩
    · cases e
      unfold Rep at r1 r2; subst r1 r2
      cases rx; cases ry
      exact wpAny_isNot_other rfl (fun z => nomatch z) (fin2 I r m q rep_bl rfl)
    · cases e
  · exact q.elim
end
end DL
set_option Elab.async false
set_option linter.all false
set_option maxRecDepth 100000
/-! DL6: arithmetic, sequences -/
namespace DL
open PySem PySem.Spec L2
open PySem.SeqAt (EqAt RcAt RcLt RcOp RcNeAt firstLt)
def asL (M : DM) (d : D) : Option (List D) := match res M d with
  | .lst xs => some xs
  | _ => none
/-- what can be read as a list -/
def asR (M : DM) (d : D) : Option (List D) := match res M d with
  | .lst xs => some xs
  | .scr xs => some xs
  | _ => none
theorem asL_lst {M : DM} {xs : List D} : asL M (.lst xs) = some xs := rfl
theorem res_at {K : PySem.W.Frag} {F H : Hp} {M : DM} {d : D} {v : V} {xs : List D} (r : Rel K F M H) (h : Rep K F d v) (e : res M d = .lst xs) : ∃ a vs, v = .ref a ∧ H a = some (.lst vs) ∧ RepL K F xs vs := by
  cases d with
  | ref p =>
    unfold res at e
    dsimp only at e
    split at e
    · rename_i ys q
      cases e
      obtain ⟨_, o, ho, vs, rfl, rs⟩ := r.mr p _ q
      unfold Rep at h
      exact ⟨p, vs, h, ho, rs⟩
    · cases e
  | lst ys =>
    cases e
    unfold Rep at h
    obtain ⟨a, vs, h1, h2, h3⟩ := h
    exact ⟨a, vs, h1, r.sub _ _ h2, h3⟩
  | _ => cases e
theorem asL_at {K : PySem.W.Frag} {F H : Hp} {M : DM} {d : D} {v : V} {xs : List D} (r : Rel K F M H) (h : Rep K F d v) (e : asL M d = some xs) : ∃ a vs, v = .ref a ∧ H a = some (.lst vs) ∧ RepL K F xs vs := by
  unfold asL at e
  split at e
  · rename_i ys q
    cases e
    exact res_at r h q
  · cases e
theorem asR_at {K : PySem.W.Frag} {F H : Hp} {M : DM} {d : D} {v : V} {xs : List D} (r : Rel K F M H) (h : Rep K F d v) (e : asR M d = some xs) : ∃ a vs, v = .ref a ∧ SqL K H a vs ∧ RepL K F xs vs := by
  unfold asR at e
  split at e
  · rename_i ys q
    cases e
    obtain ⟨a, vs, h1, h2, h3⟩ := res_at r h q
    exact ⟨a, vs, h1, SqL.of h2, h3⟩
  · rename_i ys q
    cases e
    cases d with
    | ref p =>
      unfold res at q
      dsimp only at q
      split at q <;> cases q
    | scr zs =>
      cases q
      unfold Rep at h
      obtain ⟨a, vs, h1, h2, h3⟩ := h
      exact ⟨a, vs, h1, SqL_mono r.sub h2, h3⟩
    | _ => cases q
  · cases e
section
variable {X : Cx} {F0 : Hp} {pos : Pos}
/-! ### + - * // % ** -/
def dAdd : D2 := fun x y M Q => match x with
  | .int i => (match y with | .int j => Q (.int (i + j)) M | _ => False)
  | .str i => (match y with | .str j => i.length + j.length ≤ sizeLine ∧ Q (.str (i ++ j)) M | _ => False)
  | .tup xs => (match y with | .tup ys => xs.length + ys.length ≤ sizeLine ∧ Q (.tup (xs ++ ys)) M | _ => False)
  | x => (match asL M x, asL M y with | some xs, some ys => xs.length + ys.length ≤ sizeLine ∧ Q (.lst (xs ++ ys)) M | _, _ => False)
def dAddM : D2 := fun x y M Q => match asL M x, asL M y with
  | some xs, some ys => xs.length + ys.length ≤ sizeLine ∧ ∀ p, M p = none → Q (.ref p) (put M p (.lst (xs ++ ys)))
  | _, _ => False
theorem op_daddM : DOp X F0 (binaryOp .Add) dAddM := by
  intro pins s σ H x y v u Q I rx ry h
  obtain ⟨F, M, dx, dy, QD, e0, r, r1, r2, q, m⟩ := h
  unfold dAddM at q
  split at q
  · rename_i xs ys ex ey
    obtain ⟨hz, q⟩ := q
    obtain ⟨a, vs, rfl, ha, rs⟩ := asL_at r r1 ex
    obtain ⟨b, ws, rfl, hb, rt⟩ := asL_at r r2 ey
    exact op_cat pins s σ H _ _ v u Q I rx ry ⟨a, b, vs, ws, rfl, rfl, ha, hb, by rw [← rs.length, ← rt.length]; exact hz, fun p hp =>
      m _ _ F _ _ (q p (r.free hp)) (Same.refl F) (r.new hp ⟨_, rfl, rs.append rt⟩) rep_ref⟩
  · exact q.elim
theorem op_dadd : DOp X F0 (binaryOp .Add) dAdd := by
  intro pins s σ H x y v u Q I rx ry h
  obtain ⟨F, M, dx, dy, QD, e0, r, r1, r2, q, m⟩ := h
  unfold dAdd at q
  split at q
  · split at q
    · unfold Rep at r1 r2; subst r1 r2
      exact op_add pins s σ H _ _ v u Q I rx ry ⟨_, _, rfl, rfl, m _ M F H _ q (Same.refl F) r rep_int⟩
    · exact q.elim
  · split at q
    · unfold Rep at r1 r2; subst r1 r2
      exact op_add_str pins s σ H _ _ v u Q I rx ry ⟨_, _, rfl, rfl, q.1, m _ M F H _ q.2 (Same.refl F) r rep_str⟩
    · exact q.elim
  · split at q
    · rename_i xs _ ys
      unfold Rep at r1 r2
      obtain ⟨a, vs, rfl, ha, rs⟩ := r1
      obtain ⟨b, ws, rfl, hb, rt⟩ := r2
      obtain ⟨hz, q⟩ := q
      refine op_catA pins s σ H _ _ v u Q I rx ry ⟨a, b, vs, ws, rfl, rfl, SqT_mono r.sub ha, SqT_mono r.sub hb, by rw [← rs.length, ← rt.length]; exact hz, fun z => ?_, fun _ z => ?_, fun _ _ p hp => ?_⟩
      · subst z
        have : xs = [] := List.eq_nil_of_length_eq_zero (by rw [rs.length]; rfl)
        subst this
        exact m _ M F H _ q (Same.refl F) r (by unfold Rep; exact ⟨b, ws, rfl, hb, rt⟩)
      · subst z
        have : ys = [] := List.eq_nil_of_length_eq_zero (by rw [rt.length]; rfl)
        subst this
        rw [List.append_nil] at q
        exact m _ M F H _ q (Same.refl F) r (by unfold Rep; exact ⟨a, vs, rfl, ha, rs⟩)
      · obtain ⟨s1, s2, s3⟩ := ice_tup r hp (rs.append rt)
        exact m _ M _ _ _ q s1 s2 s3
    · exact q.elim
  · split at q
    · rename_i xs ys ex ey
      obtain ⟨hz, q⟩ := q
      obtain ⟨a, vs, rfl, ha, rs⟩ := asL_at r r1 ex
      obtain ⟨b, ws, rfl, hb, rt⟩ := asL_at r r2 ey
      exact op_cat pins s σ H _ _ v u Q I rx ry ⟨a, b, vs, ws, rfl, rfl, ha, hb, by rw [← rs.length, ← rt.length]; exact hz, fun p hp => by
        obtain ⟨s1, s2, s3⟩ := ice_lst r hp (rs.append rt)
        exact m _ M _ _ _ q s1 s2 s3⟩
    · exact q.elim
def dII (C : Int → Int → Prop) (g : Int → Int → Int) : D2 := fun x y M Q => match x, y with
  | .int i, .int j => C i j ∧ Q (.int (g i j)) M
  | _, _ => False
theorem op_dII {f : Value → Value → Sem Value} {C : Int → Int → Prop} {g : Int → Int → Int} (o : OpR X f (rI C fun i j => .int (g i j))) : DOp X F0 f (dII C g) := by
  intro pins s σ H x y v u Q I rx ry h
  obtain ⟨F, M, dx, dy, QD, e0, r, r1, r2, q, m⟩ := h
  unfold dII at q
  split at q
  · unfold Rep at r1 r2; subst r1 r2
    exact o pins s σ H _ _ v u Q I rx ry ⟨_, _, rfl, rfl, q.1, m _ M F H _ q.2 (Same.refl F) r rep_int⟩
  · exact q.elim
def dSub : D2 := dII (fun _ _ => True) fun i j => i - j
theorem op_dsub : DOp X F0 (binaryOp .Sub) dSub := op_dII (opI fun _ _ _ _ _ _ _ _ q => PyProof.Rows.sub_int q)
def dFdiv : D2 := dII CDiv fun i j => i / j
theorem op_dfdiv : DOp X F0 (binaryOp .FloorDiv) dFdiv := op_dII op_fdiv
def dMod : D2 := dII (fun _ j => 0 < j) fun i j => i % j
theorem op_dmod : DOp X F0 (binaryOp .Mod) dMod := op_dII op_mod
def CPowB (i j : Int) : Prop := 0 ≤ j ∧ (Builtin.Int.intBits i : Int) * j ≤ 2 ^ 27
def dPow : D2 := dII CPowB fun i j => i ^ j.toNat
theorem op_dpow : DOp X F0 (binaryOp .Pow) dPow := op_dII (opI fun _ _ _ _ _ _ _ hc q => PyProof.Rows.pow_int hc.1 hc.2 q)
def dMul : D2 := fun x y M Q => match x with
  | .int i => (match y with | .int j => CMul i j ∧ Q (.int (i * j)) M | _ => False)
  | x => (match asL M x, y with | some xs, .int k => -(2 ^ 63) ≤ k ∧ k < 2 ^ 63 ∧ xs.length * k.toNat ≤ sizeLine ∧ Q (.lst (List.replicate k.toNat xs).flatten) M | _, _ => False)
theorem op_dmul : DOp X F0 (binaryOp .Mult) dMul := by
  intro pins s σ H x y v u Q I rx ry h
  obtain ⟨F, M, dx, dy, QD, e0, r, r1, r2, q, m⟩ := h
  unfold dMul at q
  split at q
  · split at q
    · unfold Rep at r1 r2; subst r1 r2
      exact op_mul pins s σ H _ _ v u Q I rx ry ⟨_, _, rfl, rfl, q.1, m _ M F H _ q.2 (Same.refl F) r rep_int⟩
    · exact q.elim
  · split at q
    · rename_i xs k ex
      obtain ⟨h1, h2, hz, q⟩ := q
      obtain ⟨a, vs, rfl, ha, rs⟩ := asL_at r r1 ex
      unfold Rep at r2; subst r2
      exact op_rep pins s σ H _ _ v u Q I rx ry ⟨a, k, vs, rfl, rfl, ha, h1, h2, by rw [← rs.length]; exact hz, fun p hp => by
        obtain ⟨s1, s2, s3⟩ := ice_lst r hp (rs.flat k.toNat)
        exact m _ M _ _ _ q s1 s2 s3⟩
    · exact q.elim
/-! ### o[i] -/
/-- a sequence's items: list, tuple, text -/
def items (M : DM) (d : D) : Option (List D) := match res M d with
  | .lst xs => some xs
  | .scr xs => some xs
  | .tup xs => some xs
  | _ => none
def dIx : D2 := fun x y M Q => match y with
  | .int i => (match x with
    | .str z => z.length ≤ sizeLine ∧ (match atI z.cps.toList i with | some c => Q (.str ⟨#[c]⟩) M | none => False)
    | .tup xs => (match atI xs i with | some d => Q d M | none => False)
    | x => (match asR M x with | some xs => (match atI xs i with | some d => Q d M | none => False) | none => False))
  | _ => False
theorem atI_rep {K : PySem.W.Frag} {F : Hp} {xs : List D} {vs : List V} {i : Int} {d : D} (rs : RepL K F xs vs) (h : atI xs i = some d) : ∃ v, atI vs i = some v ∧ Rep K F d v := by
  unfold atI at h ⊢
  rw [← rs.length]
  cases e : ixN xs.length i with
  | none => rw [e] at h; cases h
  | some j =>
    rw [e] at h
    exact rs.get h
theorem ix_dix : IxR X (low2 X.K F0 dIx) := by
  intro value slice pins s σ H x y v u Q I rx ry h hs
  obtain ⟨F, M, dx, dy, QD, e0, r, r1, r2, q, m⟩ := h
  unfold dIx at q
  split at q
  · rename_i i
    unfold Rep at r2; subst r2
    split at q
    · rename_i z
      unfold Rep at r1; subst r1
      obtain ⟨hz, q⟩ := q
      split at q
      · rename_i c hc
        exact ix_str value slice pins s σ H _ _ v u Q I rx ry ⟨z, i, c, rfl, rfl, hz, hc, m _ M F H _ q (Same.refl F) r rep_str⟩ hs
      · exact q.elim
    · rename_i xs
      unfold Rep at r1
      obtain ⟨a, vs, rfl, ha, rs⟩ := r1
      split at q
      · rename_i d hd
        obtain ⟨w, hw, rw'⟩ := atI_rep rs hd
        exact ix_tup value slice pins s σ H _ _ v u Q I rx ry ⟨a, vs, i, w, rfl, rfl, SqT_mono r.sub ha, hw, m _ M F H _ q (Same.refl F) r rw'⟩ hs
      · exact q.elim
    · split at q
      · rename_i xs ex
        obtain ⟨a, vs, rfl, ha, rs⟩ := asR_at r r1 ex
        split at q
        · rename_i d hd
          obtain ⟨w, hw, rw'⟩ := atI_rep rs hd
          exact ix_list value slice pins s σ H _ _ v u Q I rx ry ⟨a, vs, i, w, rfl, rfl, ha, hw, m _ M F H _ q (Same.refl F) r rw'⟩ hs
        · exact q.elim
      · exact q.elim
  · exact q.elim
theorem dpe_ix {a b : Expr} {ta tb : DTE} (ha : DPE X F0 a ta) (hb : DPE X F0 b tb) (hs : PlainIx b := by exact fun _ _ => rfl) : DPE X F0 (.Subscript a b pos) (dOp dIx ta tb) :=
  PE.imp (pe_ix ix_dix ha hb hs) fun _ _ _ h => op_lift h
/-! ### o[a:b] -/
abbrev DTO := DSt → DM → (Option Int → DM → Prop) → Prop
def liftO (K : PySem.W.Frag) (F0 : Hp) (t : DTO) : TO := fun σ H Q => ∃ F δ M QD, Same F0 F ∧ Rel K F M H ∧ Slots K F δ σ ∧ t δ M QD ∧ ∀ o M' F' H', QD o M' → Same F F' → Rel K F' M' H' → Q o H'
abbrev DPO (X : Cx) (F0 : Hp) (e : Option Expr) (t : DTO) : Prop := PO X e (liftO X.K F0 t)
theorem PO.imp {X : Cx} {e : Option Expr} {t t' : TO} (h : PO X e t) (i : ∀ σ H Q, t' σ H Q → t σ H Q) : PO X e t' := ⟨fun pins s σ H Q I q => h.run pins s σ H Q I (i _ _ _ q)⟩
@[simp] def dNoP : DTO := fun _ M Q => Q none M
@[simp] def dPart (t : DTE) : DTO := fun δ M Q => t δ M fun d M1 => match d with
  | .int i => Q (some i) M1
  | _ => False
theorem dpo_none : DPO X F0 none dNoP := PO.imp po_none fun σ H Q ⟨F, δ, M, QD, e0, r, s, h, m⟩ => m none M F H h (Same.refl F) r
theorem dpo_some {e : Expr} {t : DTE} (h : DPE X F0 e t) : DPO X F0 (some e) (dPart t) := PO.imp (po_some h) fun σ H Q ⟨F, δ, M, QD, e0, r, s, h, m⟩ => ⟨F, δ, M, _, e0, r, s, h, fun d M1 F1 H1 v q e1 r1 rv => by
  split at q
  · rename_i i
    unfold Rep at rv
    exact ⟨i, rv, m (some i) M1 F1 H1 q e1 r1⟩
  · exact q.elim⟩
def cut {α : Type} (xs : List α) (lo hi : Option Int) : List α := (xs.drop (HT.sIx xs.length 0 lo)).take (HT.sIx xs.length xs.length hi - HT.sIx xs.length 0 lo)
theorem cut_rep {K : PySem.W.Frag} {F : Hp} {xs : List D} {vs : List V} (rs : RepL K F xs vs) (lo hi : Option Int) : RepL K F (cut xs lo hi) (cutV vs lo hi) := by
  unfold cut cutV
  rw [rs.length]
  exact (rs.drop _).take _
def dSl (x : D) (lo hi : Option Int) (M : DM) (Q : DK) : Prop := match x with
  | .str z => z.length ≤ sizeLine ∧ Q (.str (cutS z lo hi)) M
  | .tup xs => Q (.tup (cut xs lo hi)) M
  | x => (match asR M x with | some xs => Q (.lst (cut xs lo hi)) M | none => False)
def lowS (K : PySem.W.Frag) (F0 : Hp) (ρ : D → Option Int → Option Int → DM → DK → Prop) : V → Option Int → Option Int → Hp → VK → Prop := fun x lo hi H Q => ∃ F M dx QD, Same F0 F ∧ Rel K F M H ∧ Rep K F dx x ∧ ρ dx lo hi M QD ∧ Meets K F QD Q
theorem sl_dsl : SlR X (lowS X.K F0 dSl) := by
  intro pins s σ H x v vl vu lo hi sl Q I rx hs pl pu h
  obtain ⟨F, M, dx, QD, e0, r, r1, q, m⟩ := h
  unfold dSl at q
  split at q
  · rename_i z
    unfold Rep at r1; subst r1
    exact sl_str pins s σ H _ v vl vu lo hi sl Q I rx hs pl pu ⟨z, rfl, q.1, m _ M F H _ q.2 (Same.refl F) r rep_str⟩
  · rename_i xs
    unfold Rep at r1
    obtain ⟨a, vs, rfl, ha, rs⟩ := r1
    refine sl_tupA pins s σ H _ v vl vu lo hi sl Q I rx hs pl pu ⟨a, vs, rfl, SqT_mono r.sub ha, fun z => ?_, fun _ p hp => ?_⟩
    · refine m _ M F H _ q (Same.refl F) r ?_
      have e : cut xs lo hi = xs := by
        unfold cut
        rw [rs.length, z.1, z.2, List.drop_zero, Nat.sub_zero, ← rs.length, List.take_length]
      rw [e]
      unfold Rep
      exact ⟨a, vs, rfl, ha, rs⟩
    · obtain ⟨s1, s2, s3⟩ := ice_tup r hp (cut_rep rs lo hi)
      exact m _ M _ _ _ q s1 s2 s3
  · split at q
    · rename_i xs ex
      obtain ⟨a, vs, rfl, ha, rs⟩ := asR_at r r1 ex
      refine sl_list pins s σ H _ v vl vu lo hi sl Q I rx hs pl pu ⟨a, vs, rfl, ha, fun p hp => ?_⟩
      obtain ⟨s1, s2, s3⟩ := ice_lst r hp (cut_rep rs lo hi)
      exact m _ M _ _ _ q s1 s2 s3
    · exact q.elim
@[simp] def dSlice (te : DTE) (tl th : DTO) : DTE := fun δ M Q => te δ M fun x M1 => tl δ M1 fun l M2 => th δ M2 fun u M3 => dSl x l u M3 Q
theorem dpe_slice {e : Expr} {lo hi : Option Expr} {te : DTE} {tl th : DTO} {p2 : Pos} (he : DPE X F0 e te) (hl : DPO X F0 lo tl) (hu : DPO X F0 hi th) : DPE X F0 (.Subscript e (.Slice lo hi none p2) pos) (dSlice te tl th) :=
  PE.imp (pe_slice sl_dsl he hl hu) fun σ H Q ⟨F, δ, M, QD, e0, r, s, h, m⟩ => ⟨F, δ, M, _, e0, r, s, h, fun d M1 F1 H1 v q e1 r1 rv => ⟨F1, δ, M1, _, e0.trans e1, r1, s.mono e1, q, fun l M2 F2 H2 q2 e2 r2 =>
    ⟨F2, δ, M2, _, e0.trans (e1.trans e2), r2, s.mono (e1.trans e2), q2, fun u M3 F3 H3 q3 e3 r3 => ⟨F3, M3, d, QD, e0.trans (e1.trans (e2.trans e3)), r3, rv.mono (e2.trans e3), q3, m.mono (e1.trans (e2.trans e3))⟩⟩⟩⟩
/-- xs[::-1] of a list -/
def dRev (te : DTE) : DTE := fun δ M Q => te δ M fun x M1 => match asR M1 x with
  | some xs => Q (.lst xs.reverse) M1
  | none => False
theorem dpe_rev {e : Expr} {te : DTE} {k : Nat} {p1 p2 p3 : Pos} (he : DPE X F0 e te) : DPE X F0 (.Subscript e (.Slice none none (some (.UnaryOp .USub (.Constant (.int 1) k p1) p2)) p3) pos) (dRev te) :=
  PE.imp (pe_revL he) fun σ H Q ⟨F, δ, M, QD, e0, r, s, h, m⟩ => ⟨F, δ, M, _, e0, r, s, h, fun d M1 F1 H1 v q e1 r1 rv => by
    split at q
    · rename_i xs ex
      obtain ⟨a, vs, rfl, ha, rs⟩ := asR_at r1 rv ex
      refine ⟨a, vs, rfl, ha, fun p hp => ?_⟩
      obtain ⟨s1, s2, s3⟩ := ice_lst r1 hp rs.reverse
      exact m _ M1 _ _ _ q (e1.trans s1) s2 s3
    · exact q.elim⟩
end
end DL
set_option Elab.async false
set_option linter.all false
set_option maxRecDepth 100000
/-! DL7: built-in functions; what a for walks; comprehensions -/
namespace DL
open PySem PySem.Spec L2
section
variable {X : Cx} {F0 : Hp} {pos p : Pos}
/-! ### built-in functions -/
abbrev DN := List D → DM → DK → Prop
def lowN (K : PySem.W.Frag) (F0 : Hp) (ρ : DN) : List V → Hp → VK → Prop := fun vs H Q => ∃ F M ds QD, Same F0 F ∧ Rel K F M H ∧ RepL K F ds vs ∧ ρ ds M QD ∧ Meets K F QD Q
@[simp] def dCB (ρ : DN) (t : DTA) : DTE := fun δ M Q => t δ M fun ds M1 => ρ ds M1 Q
theorem cb_lift {ρ : DN} {t : DTA} {σ : St} {H : Hp} {Q : VK} (h : liftE X.K F0 (dCB ρ t) σ H Q) : tCB (lowN X.K F0 ρ) (liftA X.K F0 t) σ H Q := by
  obtain ⟨F, δ, M, QD, e0, r, s, h, m⟩ := h
  exact ⟨F, δ, M, _, e0, r, s, h, fun ds M1 F1 H1 vs q e1 r1 rs => ⟨F1, M1, ds, QD, e0.trans e1, r1, rs, q, m.mono e1⟩⟩
theorem dpe_callB {x : Str} {id : String} {ρ : DN} {e : Expr} {es : List Expr} {t : DTA} (hc : CallR X (.builtin id) (lowN X.K F0 ρ)) (hm : X.mg x = none) (ha : DPA X F0 (e :: es) t) (hv : bootBuiltins x = some (.builtin id) := by decide +kernel) (hg : Gl X x := by rfl) (hn : x ≠ "__name__" := by decide) (hdb : (x == ("__debug__" : Str)) = false := by decide)
    (he : starEach (e :: es) X.env = (false, eval e X.env) :: starEach es X.env := by rfl) (hpl : (backTo pos (starEach es X.env)).any (·.1) = false := by rfl) : DPE X F0 (.Call (.Name x p) (e :: es) [] pos) (dCB ρ t) :=
  PE.imp (pe_callB hc hg hm hv ha hn hdb he hpl) fun _ _ _ h => cb_lift h
theorem dpe_callTy {x : Str} {T : String} {ρ : DN} {e : Expr} {es : List Expr} {t : DTA} (hc : CallR X (.type T) (lowN X.K F0 ρ)) (hm : X.mg x = none) (ha : DPA X F0 (e :: es) t) (hv : bootBuiltins x = some (.type T) := by decide +kernel) (hg : Gl X x := by rfl) (hn : x ≠ "__name__" := by decide) (hdb : (x == ("__debug__" : Str)) = false := by decide)
    (he : starEach (e :: es) X.env = (false, eval e X.env) :: starEach es X.env := by rfl) (hpl : (backTo pos (starEach es X.env)).any (·.1) = false := by rfl) : DPE X F0 (.Call (.Name x p) (e :: es) [] pos) (dCB ρ t) :=
  PE.imp (pe_callTy hc hg hm hv ha hn hdb he hpl) fun _ _ _ h => cb_lift h
/-- len -/
def dLen : DN := fun ds M Q => match ds with
  | [.str z] => z.length ≤ sizeLine ∧ Q (.int z.length) M
  | [.tup xs] => Q (.int xs.length) M
  | [x] => (match asR M x with | some xs => Q (.int xs.length) M | none => False)
  | _ => False
theorem rep1 {K : PySem.W.Frag} {F : Hp} {x : D} {vs : List V} (h : RepL K F [x] vs) : ∃ v, vs = [v] ∧ Rep K F x v := by
  obtain ⟨v, r, rfl, h1, h2⟩ := h.consV
  have := h2.nilV
  subst this
  exact ⟨v, rfl, h1⟩
theorem rep2 {K : PySem.W.Frag} {F : Hp} {x y : D} {vs : List V} (h : RepL K F [x, y] vs) : ∃ v w, vs = [v, w] ∧ Rep K F x v ∧ Rep K F y w := by
  obtain ⟨v, r, rfl, h1, h2⟩ := h.consV
  obtain ⟨w, rfl, h3⟩ := rep1 h2
  exact ⟨v, w, rfl, h1, h3⟩
theorem cr_dlen : CallR X (.builtin "len") (lowN X.K F0 dLen) := by
  intro pins s σ H xs us Q I rv h
  obtain ⟨F, M, ds, QD, e0, r, rs, q, m⟩ := h
  unfold dLen at q
  split at q
  · obtain ⟨v, rfl, h1⟩ := rep1 rs
    unfold Rep at h1; subst h1
    exact call_len_str pins s σ H _ us Q I rv ⟨_, rfl, q.1, m _ M F H _ q.2 (Same.refl F) r rep_int⟩
  · obtain ⟨v, rfl, h1⟩ := rep1 rs
    unfold Rep at h1
    obtain ⟨a, vs, rfl, ha, rl⟩ := h1
    exact call_len_seq pins s σ H _ us Q I rv ⟨a, vs, rfl, .inr (SqT_mono r.sub ha), m _ M F H _ (by rw [← rl.length]; exact q) (Same.refl F) r rep_int⟩
  · obtain ⟨v, rfl, h1⟩ := rep1 rs
    split at q
    · rename_i zs ez
      obtain ⟨a, vs, rfl, ha, rl⟩ := asR_at r h1 ez
      exact call_len_seq pins s σ H _ us Q I rv ⟨a, vs, rfl, .inl ha, m _ M F H _ (by rw [← rl.length]; exact q) (Same.refl F) r rep_int⟩
    · exact q.elim
  · exact q.elim
/-- int -/
def dInt : DN := fun ds M Q => match ds with
  | [.int i] => Q (.int i) M
  | [.bl k] => Q (.int (if k then 1 else 0)) M
  | _ => False
theorem cr_dint : CallR X (.type "int") (lowN X.K F0 dInt) := by
  intro pins s σ H xs us Q I rv h
  obtain ⟨F, M, ds, QD, e0, r, rs, q, m⟩ := h
  unfold dInt at q
  split at q
  · obtain ⟨v, rfl, h1⟩ := rep1 rs
    unfold Rep at h1; subst h1
    exact call_int1 pins s σ H _ us Q I rv (.inl ⟨_, rfl, m _ M F H _ q (Same.refl F) r rep_int⟩)
  · obtain ⟨v, rfl, h1⟩ := rep1 rs
    unfold Rep at h1; subst h1
    exact call_int1 pins s σ H _ us Q I rv (.inr ⟨_, rfl, m _ M F H _ q (Same.refl F) r rep_int⟩)
  · exact q.elim
def dBool : DN := fun ds M Q => match ds with
  | [.int i] => Q (.bl (i != 0)) M
  | [.bl k] => Q (.bl k) M
  | _ => False
theorem cr_dbool : CallR X (.type "bool") (lowN X.K F0 dBool) := by
  intro pins s σ H xs us Q I rv h
  obtain ⟨F, M, ds, QD, e0, r, rs, q, m⟩ := h
  unfold dBool at q
  split at q
  · obtain ⟨v, rfl, h1⟩ := rep1 rs
    unfold Rep at h1; subst h1
    exact call_bool1 pins s σ H _ us Q I rv (.inl ⟨_, rfl, m _ M F H _ q (Same.refl F) r rep_bl⟩)
  · obtain ⟨v, rfl, h1⟩ := rep1 rs
    unfold Rep at h1; subst h1
    exact call_bool1 pins s σ H _ us Q I rv (.inr ⟨_, rfl, m _ M F H _ q (Same.refl F) r rep_bl⟩)
  · exact q.elim
/-- ints of a list -/
def intsD : List D → Option (List Int)
  | [] => some []
  | .int i :: r => (intsD r).map (i :: ·)
  | _ :: _ => none
theorem ints_rep {K : PySem.W.Frag} {F : Hp} : ∀ {xs : List D} {vs : List V} {ns : List Int}, RepL K F xs vs → intsD xs = some ns → vs = ns.map V.int
  | [], _, _, h, e => by
    have := h.nilV
    subst this
    cases e; rfl
  | x :: xs, _, ns, h, e => by
    obtain ⟨v, r, rfl, h1, h2⟩ := h.consV
    cases x <;> simp [intsD] at e
    obtain ⟨ms, e1, rfl⟩ := e
    unfold Rep at h1; subst h1
    rw [ints_rep h2 e1]; rfl
def dSum : DN := fun ds M Q => match ds with
  | [x] => (match asR M x with | some xs => (match intsD xs with | some ns => Q (.int ns.sum) M | none => False) | none => False)
  | _ => False
theorem cr_dsum (hc : X.calm = true) : CallR X (.builtin "sum") (lowN X.K F0 dSum) := by
  intro pins s σ H xs us Q I rv h
  obtain ⟨F, M, ds, QD, e0, r, rs, q, m⟩ := h
  unfold dSum at q
  split at q
  · obtain ⟨v, rfl, h1⟩ := rep1 rs
    split at q
    · rename_i zs ez
      split at q
      · rename_i ns en
        obtain ⟨a, vs, rfl, ha, rl⟩ := asR_at r h1 ez
        rw [ints_rep rl en] at ha
        exact cr_sum hc pins s σ H _ us Q I rv ⟨a, ns, rfl, ha, m _ M F H _ q (Same.refl F) r rep_int⟩
      · exact q.elim
    · exact q.elim
  · exact q.elim
/-- list(x), tuple(x) of a list, a tuple -/
def seqOf (M : DM) (d : D) : Option (List D) := match d with
  | .tup xs => some xs
  | d => asR M d
def dList : DN := fun ds M Q => match ds with
  | [x] => (match seqOf M x with | some xs => Q (.lst xs) M | none => False)
  | _ => False
def dListM : DN := fun ds M Q => match ds with
  | [x] => (match seqOf M x with | some xs => ∀ p, M p = none → Q (.ref p) (put M p (.lst xs)) | none => False)
  | _ => False
def dTuple : DN := fun ds M Q => match ds with
  | [x] => (match seqOf M x with | some xs => Q (.tup xs) M | none => False)
  | _ => False
theorem seqOf_at {K : PySem.W.Frag} {F H : Hp} {M : DM} {d : D} {v : V} {xs : List D} (r : Rel K F M H) (h : Rep K F d v) (e : seqOf M d = some xs) : ∃ a vs, v = .ref a ∧ (SqL K H a vs ∨ SqT K H a vs) ∧ RepL K F xs vs := by
  unfold seqOf at e
  split at e
  · cases e
    unfold Rep at h
    obtain ⟨a, vs, h1, h2, h3⟩ := h
    exact ⟨a, vs, h1, .inr (SqT_mono r.sub h2), h3⟩
  · obtain ⟨a, vs, h1, h2, h3⟩ := asR_at r h e
    exact ⟨a, vs, h1, .inl h2, h3⟩
theorem cr_dlist : CallR X (.type "list") (lowN X.K F0 dList) := by
  intro pins s σ H xs us Q I rv h
  obtain ⟨F, M, ds, QD, e0, r, rs, q, m⟩ := h
  unfold dList at q
  split at q
  · obtain ⟨v, rfl, h1⟩ := rep1 rs
    split at q
    · rename_i zs ez
      obtain ⟨a, vs, rfl, ha, rl⟩ := seqOf_at r h1 ez
      refine call_list_of pins s σ H _ us Q I rv ⟨a, vs, rfl, ha, fun p hp => ?_⟩
      obtain ⟨s1, s2, s3⟩ := ice_lst r hp rl
      exact m _ M _ _ _ q s1 s2 s3
    · exact q.elim
  · exact q.elim
theorem cr_dlistM : CallR X (.type "list") (lowN X.K F0 dListM) := by
  intro pins s σ H xs us Q I rv h
  obtain ⟨F, M, ds, QD, e0, r, rs, q, m⟩ := h
  unfold dListM at q
  split at q
  · obtain ⟨v, rfl, h1⟩ := rep1 rs
    split at q
    · rename_i zs ez
      obtain ⟨a, vs, rfl, ha, rl⟩ := seqOf_at r h1 ez
      exact call_list_of pins s σ H _ us Q I rv ⟨a, vs, rfl, ha, fun p hp => m _ _ F _ _ (q p (r.free hp)) (Same.refl F) (r.new hp ⟨vs, rfl, rl⟩) rep_ref⟩
    · exact q.elim
  · exact q.elim
theorem cr_dtuple : CallR X (.type "tuple") (lowN X.K F0 dTuple) := by
  intro pins s σ H xs us Q I rv h
  obtain ⟨F, M, ds, QD, e0, r, rs, q, m⟩ := h
  unfold dTuple at q
  split at q
  · obtain ⟨v, rfl, h1⟩ := rep1 rs
    split at q
    · rename_i x zs ez
      unfold seqOf at ez
      split at ez
      · cases ez
        unfold Rep at h1
        obtain ⟨a, vs, rfl, ha, rl⟩ := h1
        exact call_tuple_of pins s σ H _ us Q I rv ⟨a, vs, rfl, .inr ⟨SqT_mono r.sub ha, m _ M F H _ q (Same.refl F) r (by unfold Rep; exact ⟨a, vs, rfl, ha, rl⟩)⟩⟩
      · obtain ⟨a, vs, rfl, ha, rl⟩ := asR_at r h1 ez
        refine call_tuple_of pins s σ H _ us Q I rv ⟨a, vs, rfl, .inl ⟨ha, fun p hp => ?_⟩⟩
        obtain ⟨s1, s2, s3⟩ := ice_tup r hp rl
        exact m _ M _ _ _ q s1 s2 s3
    · exact q.elim
  · exact q.elim
/-- max, min of two intsD, of a list of intsD -/
def dMax : DN := fun ds M Q => match ds with
  | [.int i, .int j] => Q (.int (max i j)) M
  | [x] => (match asR M x with | some xs => (match intsD xs with | some ns => ns ≠ [] ∧ ∀ k, k ∈ ns → (∀ j ∈ ns, j ≤ k) → Q (.int k) M | none => False) | none => False)
  | _ => False
def dMin : DN := fun ds M Q => match ds with
  | [.int i, .int j] => Q (.int (min i j)) M
  | [x] => (match asR M x with | some xs => (match intsD xs with | some ns => ns ≠ [] ∧ ∀ k, k ∈ ns → (∀ j ∈ ns, k ≤ j) → Q (.int k) M | none => False) | none => False)
  | _ => False
theorem cr_dmax (hc : X.calm = true) : CallR X (.builtin "max") (lowN X.K F0 dMax) := by
  intro pins s σ H xs us Q I rv h
  obtain ⟨F, M, ds, QD, e0, r, rs, q, m⟩ := h
  unfold dMax at q
  split at q
  · rename_i i j
    obtain ⟨v, w, rfl, h1, h2⟩ := rep2 rs
    unfold Rep at h1 h2; subst h1 h2
    refine call_max2 hc pins s σ H _ us Q I rv ⟨i, j, rfl, ?_⟩
    have e : (if j > i then j else i) = max i j := by split <;> omega
    rw [e]
    exact m _ M F H _ q (Same.refl F) r rep_int
  · obtain ⟨v, rfl, h1⟩ := rep1 rs
    split at q
    · rename_i zs ez
      split at q
      · rename_i ns en
        obtain ⟨a, vs, rfl, ha, rl⟩ := asR_at r h1 ez
        rw [ints_rep rl en] at ha
        exact cr_max hc pins s σ H _ us Q I rv ⟨a, ns, rfl, ha, List.length_pos_iff.mpr q.1, fun k hk hm => m _ M F H _ (q.2 k hk hm) (Same.refl F) r rep_int⟩
      · exact q.elim
    · exact q.elim
  · exact q.elim
theorem cr_dmin (hc : X.calm = true) : CallR X (.builtin "min") (lowN X.K F0 dMin) := by
  intro pins s σ H xs us Q I rv h
  obtain ⟨F, M, ds, QD, e0, r, rs, q, m⟩ := h
  unfold dMin at q
  split at q
  · rename_i i j
    obtain ⟨v, w, rfl, h1, h2⟩ := rep2 rs
    unfold Rep at h1 h2; subst h1 h2
    refine call_min2 hc pins s σ H _ us Q I rv ⟨i, j, rfl, ?_⟩
    have e : (if j < i then j else i) = min i j := by split <;> omega
    rw [e]
    exact m _ M F H _ q (Same.refl F) r rep_int
  · obtain ⟨v, rfl, h1⟩ := rep1 rs
    split at q
    · rename_i zs ez
      split at q
      · rename_i ns en
        obtain ⟨a, vs, rfl, ha, rl⟩ := asR_at r h1 ez
        rw [ints_rep rl en] at ha
        exact cr_min hc pins s σ H _ us Q I rv ⟨a, ns, rfl, ha, List.length_pos_iff.mpr q.1, fun k hk hm => m _ M F H _ (q.2 k hk hm) (Same.refl F) r rep_int⟩
      · exact q.elim
    · exact q.elim
  · exact q.elim
/-! ### isinstance -/
/-- an instance's class as isinstance asks it -/
structure ICls (K : PySem.W.Frag) (C : Addr) : Prop where
  cl : Cls K C
  ha : PySem.W.findIn K (.ref C) "__class__" = some (some (.builtin "object.__class__"))
  hn : PySem.W.specialIn K (.builtin "object.__class__") "__get__" = some (some (.builtin "getset_descriptor.__get__"))
  htk : PySem.W.takesIn K (.builtin "object.__class__") = some true
  hm : PySem.W.mroIn K C (.type "object") = some true
inductive Ty where
  | b (n : String)
  | o (C : Addr)
def Ty.v : Ty → Value
  | .b n => .type n
  | .o C => .ref C
def tyD (M : DM) : D → Option Ty
  | .non => some (.b "NoneType")
  | .bl _ => some (.b "bool")
  | .int _ => some (.b "int")
  | .str _ => some (.b "str")
  | .tup _ => some (.b "tuple")
  | .lst _ => some (.b "list")
  | .ins C _ _ => some (.o C)
  | .ref p => match M p with
    | some (.lst _) => some (.b "list")
    | some (.dK _) => some (.b "dict")
    | some (.dT _) => some (.b "dict")
    | some (.ins C _) => some (.o C)
    | _ => none
  | _ => none
def clsD : D → Option Ty
  | .ty n => some (.b n)
  | .ref C => some (.o C)
  | _ => none
/-- isinstance's answer -/
def kitD (K : PySem.W.Frag) : Ty → Ty → Option Bool
  | .b a, .b c => kitB a c
  | .o C, .o C' => PySem.W.kitOne K (.ref C) (.ref C')
  | .o C, .b c => PySem.W.kitOne K (.ref C) (.type c)
  | .b a, .o C => PySem.W.kitOne K (.type a) (.ref C)
def ownTy (K : PySem.W.Frag) : Ty → Prop
  | .b _ => True
  | .o C => ICls K C
def dIsi (K : PySem.W.Frag) : DN := fun ds M Q => match ds with
  | [x, c] => (match tyD M x, clsD c with
    | some t, some u => ownTy K t ∧ (match kitD K t u with | some b => Q (.bl b) M | none => False)
    | _, _ => False)
  | _ => False
theorem tyD_ok {K : PySem.W.Frag} {F H : Hp} {M : DM} {x : D} {v : V} {t : Ty} (r : Rel K F M H) (h : Rep K F x v) (e : tyD M x = some t) (o : ownTy K t) : TyX K H v t.v := by
  cases x with
  | non => cases e; unfold Rep at h; subst h; exact .base .non
  | bl b => cases e; unfold Rep at h; subst h; exact .base (.bl b)
  | int b => cases e; unfold Rep at h; subst h; exact .base (.int b)
  | str b => cases e; unfold Rep at h; subst h; exact .base (.str b)
  | lst xs =>
    cases e; unfold Rep at h
    obtain ⟨a, vs, rfl, h2, _⟩ := h
    exact .base (.lst (r.sub _ _ h2))
  | tup xs =>
    cases e; unfold Rep at h
    obtain ⟨a, vs, rfl, h2, _⟩ := h
    rcases SqT_mono r.sub h2 with (h2 | ⟨o, h2⟩) | ⟨o, its, n, h2, h3, _⟩
    · exact .base (.tup h2)
    · exact .fTuple h2
    · exact .kTuple h2 h3
  | ins C ns xs =>
    cases e; unfold Rep at h
    obtain ⟨a, dx, vs, rfl, h2, _⟩ := h
    have o : ICls K C := o
    exact .base (.ins (r.sub _ _ h2) o.cl o.ha o.hn o.htk o.hm)
  | ref p =>
    unfold tyD at e
    dsimp only at e
    unfold Rep at h; subst h
    split at e
    · rename_i xs q
      cases e
      obtain ⟨_, _, ho, vs, rfl, _⟩ := r.mr p _ q
      exact .base (.lst ho)
    · rename_i xs q
      cases e
      obtain ⟨_, _, ho, vs, rfl, _⟩ := r.mr p _ q
      exact .base (.dK ho)
    · rename_i xs q
      cases e
      obtain ⟨_, _, ho, vs, rfl, _⟩ := r.mr p _ q
      exact .base (.dT ho)
    · rename_i C fs q
      cases e
      obtain ⟨_, _, ho, dx, vs, rfl, _⟩ := r.mr p _ q
      have o : ICls K C := o
      exact .base (.ins ho o.cl o.ha o.hn o.htk o.hm)
    · cases e
  | _ => cases e
theorem kitD_ok {K : PySem.W.Frag} {t u : Ty} {b : Bool} (h : kitD K t u = some b) : PySem.W.kitOne K t.v u.v = some b := by
  cases t <;> cases u <;> first | exact kit_ty h | exact h
theorem cr_disi : CallR X (.builtin "isinstance") (lowN X.K F0 (dIsi X.K)) := by
  intro pins s σ H xs us Q I rv h
  obtain ⟨F, M, ds, QD, e0, r, rs, q, m⟩ := h
  unfold dIsi at q
  split at q
  · rename_i x c
    obtain ⟨v, w, rfl, h1, h2⟩ := rep2 rs
    split at q
    · rename_i t u et eu
      obtain ⟨o, q⟩ := q
      split at q
      · rename_i b eb
        have hw : ClsV w u.v := by
          cases c <;> simp [clsD] at eu
          · subst eu; unfold Rep at h2; subst h2; exact .ty _
          · subst eu; unfold Rep at h2; subst h2; exact .own _
        exact call_isi pins s σ H _ us Q I rv ⟨v, w, t.v, u.v, b, rfl, hw, tyD_ok r h1 et o, kitD_ok eb, m _ M F H _ q (Same.refl F) r rep_bl⟩
      · exact q.elim
    · exact q.elim
  · exact q.elim
/-! ### what a for walks -/
variable {tg e : Expr} {te : DTE}
def one (c : Nat) : D := .str ⟨#[c]⟩
/-- a list, a tuple, a text -/
def dSeqI (te : DTE) : DTI := fun δ M R => te δ M fun d M1 => match d with
  | .str z => R (z.cps.toList.map one) (fun _ => True) M1
  | .tup xs => R xs (fun _ => True) M1
  | d => (match asR M1 d with | some xs => R xs (fun M2 => asR M2 d = some xs) M1 | none => False)
theorem it_list {F : Hp} {d : D} {a : Addr} {xs : List D} (h : Rep X.K F d (.ref a)) : ItOk X.K F (Itl X.K a) xs (fun M => asR M d = some xs) := by
  intro i F1 M H e r k
  obtain ⟨a', vs, q, ha, rs⟩ := asR_at r (h.mono e) k
  cases q
  refine ⟨fun x hx => ?_, fun hl => ⟨vs, ha, by rw [← rs.length]; exact hl⟩⟩
  obtain ⟨w, hw, rw'⟩ := rs.get hx
  refine ⟨⟨vs, w, ha, hw⟩, fun v H' ⟨y, z⟩ => ?_⟩
  subst y
  have := z vs ha
  rw [hw] at this; cases this
  exact ⟨F1, Same.refl F1, r, rw'⟩
theorem it_tup {F : Hp} {a : Addr} {xs : List D} {vs : List V} (h : SqT X.K F a vs) (rs : RepL X.K F xs vs) (uniq : ∀ F1 ws, Same F F1 → SqT X.K F1 a ws → True) : ItOk X.K F (Itt X.K a) xs (fun _ => True) := by
  intro i F1 M H e r k
  have ha := SqT_mono (e.trans r.sub) h
  refine ⟨fun x hx => ?_, fun hl => ⟨vs, ha, by rw [← rs.length]; exact hl⟩⟩
  obtain ⟨w, hw, rw'⟩ := rs.get hx
  refine ⟨⟨vs, w, ha, hw⟩, fun v H' ⟨y, z⟩ => ?_⟩
  subst y
  have := z vs ha
  rw [hw] at this; cases this
  exact ⟨F1, Same.refl F1, r, rw'.mono e⟩
theorem it_str {F : Hp} {z : Str} : ItOk X.K F (Its z) (z.cps.toList.map one) (fun _ => True) := by
  intro i F1 M H e r k
  refine ⟨fun x hx => ?_, fun hl => by show z.cps.size ≤ i; simpa using hl⟩
  rw [List.getElem?_map] at hx
  cases hc : z.cps.toList[i]? with
  | none => rw [hc] at hx; cases hx
  | some c =>
    rw [hc] at hx; cases hx
    have hi : i < z.cps.size := by
      have := (List.getElem?_eq_some_iff.mp hc).1
      simpa using this
    refine ⟨hi, fun v H' ⟨y, c', hc', hv⟩ => ?_⟩
    subst y hv
    have e1 : z.cps[i]? = some c := by simpa using hc
    rw [e1] at hc'; cases hc'
    exact ⟨F1, Same.refl F1, r, rep_str⟩
theorem dpi_seq (he : DPE X F0 e te) : DPI X F0 tg e (dSeqI te) := by
  refine ⟨fun pins s σ H R I h => ?_⟩
  obtain ⟨F, δ, M, RD, e0, r, sl, h, m⟩ := h
  refine thn (he.run pins s σ H (fun v H1 => ∃ d M1 F1, Same F F1 ∧ Rel X.K F1 M1 H1 ∧ Rep X.K F1 d v ∧ (match d with
    | .str z => RD (z.cps.toList.map one) (fun _ => True) M1
    | .tup xs => RD xs (fun _ => True) M1
    | d => (match asR M1 d with | some xs => RD xs (fun M2 => asR M2 d = some xs) M1 | none => False))) I
    ⟨F, δ, M, _, e0, r, sl, h, fun d M1 F1 H1 v q e1 r1 rv => ⟨d, M1, F1, e1, r1, rv, q⟩⟩) fun u s1 ⟨v, H1, I1, ru, d, M1, F1, e1, r1, rv, q⟩ => ?_
  split at q
  · rename_i z
    unfold Rep at rv; subst rv
    obtain ⟨t, rfl⟩ := ru
    have q' := m _ _ M1 F1 H1 (Its z) q e1 r1 it_str
    cases ha : z.cps.all (· < 128)
    · exact wpAny_pyIter_wide ha (pi_one (tk := s1.toks) I1 _ (turn_str _ z t "str_iterator" (.inr rfl)) ⟨_, Heap.get?_push_size _ rfl, rfl, rfl⟩ q')
    · exact wpAny_pyIter_ascii ha (pi_one (tk := s1.toks) I1 _ (turn_str _ z t "str_ascii_iterator" (.inl rfl)) ⟨_, Heap.get?_push_size _ rfl, rfl, rfl⟩ q')
  · rename_i xs
    unfold Rep at rv
    obtain ⟨a, vs, rfl, ha, rs⟩ := rv
    cases ru
    obtain ⟨its, _, pt, _⟩ := I1.tuple (SqT_mono r1.sub ha)
    exact wpAny_pyIter_tuple (show s1.heap.IsTuple a its.toArray from pt) (pi_one (tk := s1.toks) I1 _ (turn_tuple a _) ⟨_, Heap.get?_push_size _ rfl, rfl, rfl⟩ (m _ _ M1 F1 H1 (Itt X.K a) q e1 r1 (it_tup ha rs fun _ _ _ _ => trivial)))
  · split at q
    · rename_i xs ex
      obtain ⟨a, vs, rfl, ha, rs⟩ := asR_at r1 rv ex
      cases ru
      obtain ⟨its, _, pl, _⟩ := I1.list ha
      exact wpAny_pyIter_list pl.isList (pi_one (tk := s1.toks) I1 _ (turn_list a _) ⟨_, Heap.get?_push_size _ rfl, rfl, rfl⟩ (m _ _ M1 F1 H1 (Itl X.K a) q e1 r1 (it_list rv)))
    · exact q.elim
/-- range -/
def rng (lo : Int) (n : Nat) : List D := (List.range n).map fun (k : Nat) => .int (lo + k)
def dRng1 (t : DTA) : DTI := fun δ M R => t δ M fun ds M1 => match ds with
  | [.int j] => -(2 ^ 62) ≤ j ∧ j < 2 ^ 62 ∧ R (rng 0 j.toNat) (fun _ => True) M1
  | _ => False
def dRng2 (t : DTA) : DTI := fun δ M R => t δ M fun ds M1 => match ds with
  | [.int i, .int j] => (-(2 ^ 62) ≤ i ∧ i < 2 ^ 62 ∧ -(2 ^ 62) ≤ j ∧ j < 2 ^ 62) ∧ R (rng i (j - i).toNat) (fun _ => True) M1
  | _ => False
theorem it_rng {F : Hp} {lo : Int} {n : Nat} : ItOk X.K F (Itr lo n) (rng lo n) (fun _ => True) := by
  intro i F1 M H e r k
  refine ⟨fun x hx => ?_, fun hl => by show n ≤ i; simpa [rng] using hl⟩
  unfold rng at hx
  rw [List.getElem?_map] at hx
  by_cases hi : i < n
  · rw [List.getElem?_range hi] at hx
    cases hx
    refine ⟨hi, fun v H' ⟨y, hv⟩ => ?_⟩
    subst y hv
    exact ⟨F1, Same.refl F1, r, rep_int⟩
  · rw [List.getElem?_eq_none (by simpa using hi)] at hx
    cases hx
theorem dpi_range1 {t : DTA} (hm : X.mg "range" = none) (ha : DPA X F0 [e] t) (hg : Gl X "range" := by rfl) (hs : starEach [e] X.env = [(false, eval e X.env)] := by rfl) : DPI X F0 tg (.Call (.Name "range" p) [e] [] pos) (dRng1 t) :=
  PI.imp (pi_range1 hg hm ha hs) fun σ H R ⟨F, δ, M, RD, e0, r, s, h, m⟩ => ⟨F, δ, M, _, e0, r, s, h, fun ds M1 F1 H1 vs q e1 r1 rs => by
    split at q
    · rename_i j
      obtain ⟨v, rfl, h1⟩ := rep1 rs
      unfold Rep at h1; subst h1
      exact ⟨j, rfl, q.1, q.2.1, m _ _ M1 F1 H1 _ q.2.2 e1 r1 it_rng⟩
    · exact q.elim⟩
theorem dpi_range2 {e2 : Expr} {t : DTA} (hm : X.mg "range" = none) (ha : DPA X F0 [e, e2] t) (hg : Gl X "range" := by rfl) (hs : starEach [e, e2] X.env = [(false, eval e X.env), (false, eval e2 X.env)] := by rfl) (hs2 : starEach [e2] X.env = [(false, eval e2 X.env)] := by rfl) :
    DPI X F0 tg (.Call (.Name "range" p) [e, e2] [] pos) (dRng2 t) :=
  PI.imp (pi_range2 hg hm ha hs hs2) fun σ H R ⟨F, δ, M, RD, e0, r, s, h, m⟩ => ⟨F, δ, M, _, e0, r, s, h, fun ds M1 F1 H1 vs q e1 r1 rs => by
    split at q
    · rename_i i j
      obtain ⟨v, w, rfl, h1, h2⟩ := rep2 rs
      unfold Rep at h1 h2; subst h1 h2
      exact ⟨i, j, rfl, q.1, m _ _ M1 F1 H1 _ q.2 e1 r1 it_rng⟩
    · exact q.elim⟩
/-- enumerate of a list -/
def enumD (k : Nat) : List D → List D
  | [] => []
  | x :: r => .tup [.int k, x] :: enumD (k + 1) r
theorem enumD_len : ∀ (xs : List D) (k : Nat), (enumD k xs).length = xs.length
  | [], _ => rfl
  | _ :: r, k => by simp [enumD, enumD_len r]
theorem enumD_get : ∀ (xs : List D) (k i : Nat) (y : D), (enumD k xs)[i]? = some y → ∃ x, xs[i]? = some x ∧ y = .tup [.int ((k + i : Nat) : Int), x]
  | [], _, _, _, h => by simp [enumD] at h
  | x :: r, k, 0, y, h => by
    simp [enumD] at h
    exact ⟨x, rfl, by rw [← h]; rfl⟩
  | x :: r, k, i + 1, y, h => by
    obtain ⟨x', h1, h2⟩ := enumD_get r (k + 1) i y (by simpa [enumD] using h)
    exact ⟨x', by simpa using h1, by rw [h2]; congr 4; omega⟩
def dEnumI (t : DTA) : DTI := fun δ M R => t δ M fun ds M1 => match ds with
  | [d] => (match asR M1 d with | some xs => R (enumD 0 xs) (fun M2 => asR M2 d = some xs) M1 | none => False)
  | _ => False
theorem it_enum {F : Hp} {d : D} {a : Addr} {xs : List D} (h : Rep X.K F d (.ref a)) : ItOk X.K F (Ite X.K a) (enumD 0 xs) (fun M => asR M d = some xs) := by
  intro i F1 M H e r k
  obtain ⟨a', vs, q, ha, rs⟩ := asR_at r (h.mono e) k
  cases q
  refine ⟨fun x hx => ?_, fun hl => ⟨vs, ha, by rw [← rs.length, ← enumD_len xs 0]; exact hl⟩⟩
  obtain ⟨x', hx', rfl⟩ := enumD_get xs 0 i x hx
  obtain ⟨w, hw, rw'⟩ := rs.get hx'
  refine ⟨⟨vs, w, ha, hw⟩, fun v H' ⟨T, y, hv, hT, hH, z⟩ => ?_⟩
  subst hv hH
  have := z vs ha
  rw [hw] at this; cases this
  obtain ⟨s1, s2, s3⟩ := ice_tup r hT (RepL.cons (rep_int (i := (i : Int))) (RepL.cons rw' RepL.nil))
  exact ⟨_, s1, s2, by rw [Nat.zero_add]; exact s3⟩
theorem dpi_enum {t : DTA} {tpos : Pos} {elts : List Expr} {kk : Nat} (hm : X.mg "enumerate" = none) (ha : DPA X F0 [e] t) (hg : Gl X "enumerate" := by rfl) (hs : starEach [e] X.env = [(false, eval e X.env)] := by rfl) :
    DPI X F0 (.Tuple elts kk tpos) (.Call (.Name "enumerate" p) [e] [] pos) (dEnumI t) :=
  PI.imp (pi_enum hg hm ha hs) fun σ H R ⟨F, δ, M, RD, e0, r, s, h, m⟩ => ⟨F, δ, M, _, e0, r, s, h, fun ds M1 F1 H1 vs q e1 r1 rs => by
    split at q
    · rename_i d
      obtain ⟨v, rfl, h1⟩ := rep1 rs
      split at q
      · rename_i xs ex
        obtain ⟨a, ws, rfl, ha, rl⟩ := asR_at r1 h1 ex
        exact ⟨a, ws, rfl, ha, m _ _ M1 F1 H1 _ q e1 r1 (it_enum h1)⟩
      · exact q.elim
    · exact q.elim⟩
end
end DL
set_option Elab.async false
set_option linter.all false
set_option maxRecDepth 100000
/-! DL8: comprehensions -/
namespace DL
open PySem PySem.Spec L2
theorem wipe_set {α : Type} : ∀ (vs : List Nat) (σ : St) (i : Nat) (x : Option V), i ∈ vs → wipe (σ.set i x) vs = wipe σ vs
  | [], _, _, _, h => by simp at h
  | v :: vs, σ, i, x, h => by
    show (wipe (σ.set i x) vs).set v none = (wipe σ vs).set v none
    by_cases e : i ∈ vs
    · rw [wipe_set (α := α) vs σ i x e]
    · have hv : i = v := by
        rcases List.mem_cons.mp h with z | z
        · exact z
        · exact absurd z e
      subst hv
      have k : ∀ (ws : List Nat), i ∉ ws → wipe (σ.set i x) ws = (wipe σ ws).set i x := by
        intro ws
        induction ws with
        | nil => intro _; rfl
        | cons w ws ih =>
          intro hw
          simp only [List.mem_cons, not_or] at hw
          show (wipe (σ.set i x) ws).set w none = ((wipe σ ws).set w none).set i x
          rw [ih hw.2, List.set_comm _ _ hw.1]
      rw [k vs e, List.set_set]
theorem wipe_twice (σ : St) : ∀ (vs : List Nat), wipe (wipe σ vs) vs = wipe σ vs := by
  intro vs
  have k : ∀ (ws us : List Nat), (∀ w ∈ ws, w ∈ us) → wipe (wipe σ ws) us = wipe σ us := by
    intro ws
    induction ws with
    | nil => intro us _; rfl
    | cons w ws ih =>
      intro us h
      show wipe ((wipe σ ws).set w none) us = _
      rw [wipe_set (α := Nat) us _ w none (h w (by simp)), ih us fun z hz => h z (by simp [hz])]
  exact k vs vs fun _ h => h
theorem slots_wipe {K : PySem.W.Frag} {F : Hp} {δ : DSt} {σ : St} (h : Slots K F δ σ) : ∀ (vs : List Nat), ∃ δ', δ' = vs.foldr (fun v d => d.set v none) δ ∧ Slots K F δ' (wipe σ vs)
  | [] => ⟨δ, rfl, h⟩
  | v :: vs => by
    obtain ⟨δ', rfl, h'⟩ := slots_wipe h vs
    exact ⟨_, rfl, h'.set (d := none) (v := none) True.intro v⟩
/-- one turn: what is bound, tested, made -/
abbrev DStep := D → DSt → DM → (Option D → DM → Prop) → Prop
def st1 (i : Nat) (tt : DTT) (te : DTE) : DStep := fun x δ M K => tt (δ.set i (some x)) M fun b M1 => if b = true then te (δ.set i (some x)) M1 fun d M2 => K (some d) M2 else K none M1
def st2 (i j : Nat) (tt : DTT) (te : DTE) : DStep := fun x δ M K => match x with
  | .tup [a, b] => tt ((δ.set i (some a)).set j (some b)) M fun k M1 => if k = true then te ((δ.set i (some a)).set j (some b)) M1 fun d M2 => K (some d) M2 else K none M1
  | _ => False
def lcR (st : DStep) (keep : DM → Prop) (δ : DSt) (p : Addr) (fin : List D → DM → Prop) : List D → List D → DM → Prop
  | [], acc, M => keep M ∧ M p = some (.lst acc) ∧ fin acc M
  | x :: r, acc, M => keep M ∧ st x δ M fun o M1 => M1 p = some (.lst acc) ∧ match o with
    | some d => acc.length < sizeLine ∧ lcR st keep δ p fin r (acc ++ [d]) (put M1 p (.lst (acc ++ [d])))
    | none => lcR st keep δ p fin r acc M1
def dLc (st : DStep) (ti : DTI) : DTE := fun δ M Q => ti δ M fun xs keep M1 => ∀ p, M1 p = none → lcR st keep δ p (fun acc M2 => Q (.lst acc) (drp M2 p)) xs [] (put M1 p (.lst []))
def dLcM (st : DStep) (ti : DTI) : DTE := fun δ M Q => ti δ M fun xs keep M1 => ∀ p, M1 p = none → lcR st keep δ p (fun _ M2 => Q (.ref p) M2) xs [] (put M1 p (.lst []))
@[simp] def dYes : DTT := fun _ M Q => Q true M
section
variable {X : Cx} {F0 : Hp} {pos : Pos}
abbrev DPTs (X : Cx) (F0 : Hp) (ifs : List Expr) (t : DTT) : Prop := PTs X ifs (liftT X.K F0 t)
theorem PTs.imp {X : Cx} {e : List Expr} {t t' : TT} (h : PTs X e t) (i : ∀ σ H Q, t' σ H Q → t σ H Q) : PTs X e t' := ⟨fun pins s σ H Q I q => h.run pins s σ H Q I (i _ _ _ q)⟩
theorem dts_nil : DPTs X F0 [] dYes := PTs.imp pts_nil fun σ H Q ⟨F, δ, M, QD, e0, r, s, h, m⟩ => m true M F H h (Same.refl F) r
theorem dts_one {c : Expr} {t : DTT} (h : DPT X F0 c t) : DPTs X F0 [c] t := pts_one h
/-- the turn of a comprehension, by its step -/
def StOk (K : PySem.W.Frag) (F0 : Hp) (st : DStep) (vs : List Nat) (g : TG) (tt : TT) (te : TE) : Prop :=
  ∀ (F : Hp) (x : D) (v : V) (δ : DSt) (σ : St) (M : DM) (H : Hp) (KD : Option D → DM → Prop) (Kd : V → Hp → Prop) (Kn : Hp → Prop), Same F0 F → Rel K F M H → Slots K F δ σ → Rep K F x v → st x δ M KD →
    (∀ d M1 F1 H1 w, KD (some d) M1 → Same F F1 → Rel K F1 M1 H1 → Rep K F1 d w → Kd w H1) → (∀ M1 F1 H1, KD none M1 → Same F F1 → Rel K F1 M1 H1 → Kn H1) →
    g v (wipe σ vs) H fun σ2 H2 => wipe σ2 vs = wipe σ vs ∧ tt σ2 H2 fun b H3 => if b = true then te σ2 H3 Kd else Kn H3
theorem st1_ok {K : PySem.W.Frag} {i : Nat} {tt : DTT} {te : DTE} : StOk K F0 (st1 i tt te) [i] (gName i) (liftT K F0 tt) (liftE K F0 te) := by
  intro F x v δ σ M H KD Kd Kn e0 r s rx h hd hn
  refine ⟨?_, ?_⟩
  · rw [wipe_set (α := Nat) [i] _ i _ (by simp), wipe_twice]
  · obtain ⟨δ', ed, s'⟩ := slots_wipe s [i]
    have s2 : Slots K F (δ.set i (some x)) ((wipe σ [i]).set i (some v)) := by
      have := s'.set (d := some x) (v := some v) rx i
      rw [ed] at this
      simpa using this
    refine ⟨F, _, M, _, e0, r, s2, h, fun b M1 F1 H1 q e1 r1 => ?_⟩
    cases b with
    | true =>
      rw [if_pos rfl] at q ⊢
      exact ⟨F1, _, M1, _, e0.trans e1, r1, s2.mono e1, q, fun d M2 F2 H2 w q2 e2 r2 rw' => hd d M2 F2 H2 w q2 (e1.trans e2) r2 rw'⟩
    | false =>
      rw [if_neg Bool.false_ne_true] at q ⊢
      exact hn M1 F1 H1 q e1 r1
theorem st2_ok {K : PySem.W.Frag} {i j : Nat} {tt : DTT} {te : DTE} : StOk K F0 (st2 i j tt te) [i, j] (gTup K 2 (gCons (gName i) (gCons (gName j) gNil))) (liftT K F0 tt) (liftE K F0 te) := by
  intro F x v δ σ M H KD Kd Kn e0 r s rx h hd hn
  unfold st2 at h
  split at h
  · rename_i a b
    unfold Rep at rx
    obtain ⟨p, vs, rfl, hp, rs⟩ := rx
    obtain ⟨va, vb, rfl, ra, rb⟩ := rep2 rs
    refine ⟨p, [va, vb], rfl, SqT_mono r.sub hp, rfl, va, [vb], rfl, vb, [], rfl, rfl, ?_, ?_⟩
    · rw [wipe_set (α := Nat) [i, j] _ j _ (by simp), wipe_set (α := Nat) [i, j] _ i _ (by simp), wipe_twice]
    · obtain ⟨δ', ed, s'⟩ := slots_wipe s [i, j]
      have s2 : Slots K F ((δ.set i (some a)).set j (some b)) (((wipe σ [i, j]).set i (some va)).set j (some vb)) := by
        have := (s'.set (d := some a) (v := some va) ra i).set (d := some b) (v := some vb) rb j
        rw [ed] at this
        have e : ((((δ.set j none).set i none).set i (some a)).set j (some b)) = ((δ.set i (some a)).set j (some b)) := by
          by_cases hij : i = j
          · subst hij; simp
          · rw [List.set_set, List.set_comm (i := j) (j := i) _ _ (Ne.symm hij), List.set_set]
        have e' : List.foldr (fun v (d : DSt) => d.set v none) δ [i, j] = (δ.set j none).set i none := rfl
        rw [e', e] at this
        exact this
      refine ⟨F, _, M, _, e0, r, s2, h, fun k M1 F1 H1 q e1 r1 => ?_⟩
      cases k with
      | true =>
        rw [if_pos rfl] at q ⊢
        exact ⟨F1, _, M1, _, e0.trans e1, r1, s2.mono e1, q, fun d M2 F2 H2 w q2 e2 r2 rw' => hd d M2 F2 H2 w q2 (e1.trans e2) r2 rw'⟩
      | false =>
        rw [if_neg Bool.false_ne_true] at q ⊢
        exact hn M1 F1 H1 q e1 r1
  · exact h.elim
/-- the loop of a comprehension -/
theorem lc_run {K : PySem.W.Frag} {st : DStep} {vs : List Nat} {g : TG} {tt : TT} {te : TE} {σ : St} {F1 : Hp} {M1 : DM} {H1 : Hp} {δ : DSt} {xs : List D} {keep : DM → Prop} {J : It} {fin : Addr → List D → DM → Prop} {Q : VK} (ok : StOk K F0 st vs g tt te) (e0 : Same F0 F1) (r1 : Rel K F1 M1 H1) (s : Slots K F1 δ σ) (it : ItOk K F1 J xs keep)
    (h : ∀ p, M1 p = none → lcR st keep δ p (fin p) xs [] (put M1 p (.lst [])))
    (hf : ∀ p acc M F H ws, fin p acc M → M p = some (.lst acc) → Same F1 F → Rel K F M H → H p = some (.lst ws) → RepL K F acc ws → Q (.ref p) H) :
    ∀ L, H1 L = none → ∃ W : Nat → Nat → Hp → Prop, (∃ m, W 0 m (upd H1 L (.lst []))) ∧ ∀ i m H, W i m H →
      (J.stop i H ∧ Q (.ref L) H) ∨ (J.go i H ∧ ∃ Nx : Hp → Prop, (∀ H', Nx H' → ∃ m', m' < m ∧ W (i + 1) m' H') ∧ ∀ x H', J.yld i H x H' → g x (wipe σ vs) H' fun σ2 H2 => wipe σ2 vs = wipe σ vs ∧ tt σ2 H2 fun b H3 =>
        if b = true then te σ2 H3 fun y H4 => ∃ acc, H4 L = some (.lst acc) ∧ acc.length < sizeLine ∧ Nx (upd H4 L (.lst (acc ++ [y]))) else Nx H3) := by
  intro L hL
  refine ⟨fun i m H => m + i = xs.length ∧ ∃ F M acc, Same F1 F ∧ Rel K F M H ∧ lcR st keep δ L (fin L) (xs.drop i) acc M, ⟨xs.length, rfl, F1, _, [], Same.refl F1, r1.new (m := .lst []) hL ⟨[], rfl, RepL.nil⟩, by simpa using h L (r1.free hL)⟩, ?_⟩
  rintro i m H ⟨hm, F, M, acc, eF, r, hq⟩
  by_cases hi : i < xs.length
  · have hx : xs[i]? = some xs[i] := by simp [hi]
    rw [List.drop_eq_getElem_cons hi] at hq
    obtain ⟨kp, hq⟩ := hq
    obtain ⟨go, yl⟩ := (it i F M H eF r kp).1 _ hx
    refine .inr ⟨go, fun H' => ∃ F M acc, Same F1 F ∧ Rel K F M H' ∧ lcR st keep δ L (fin L) (xs.drop (i + 1)) acc M, fun H' z => ⟨m - 1, by omega, by omega, z⟩, fun v H' y => ?_⟩
    obtain ⟨F3, e3, r3, rv⟩ := yl v H' y
    refine ok F3 _ v δ σ M H' _ _ _ (e0.trans (eF.trans e3)) r3 (s.mono (eF.trans e3)) rv hq (fun d M4 F4 H4 w q4 e4 r4 rw' => ?_) (fun M4 F4 H4 q4 e4 r4 => ?_)
    · obtain ⟨hp, hz, q4⟩ := q4
      obtain ⟨_, o, ho, ws, rfl, rs⟩ := r4.mr L _ hp
      exact ⟨ws, ho, by rw [← rs.length]; exact hz, F4, _, _, eF.trans (e3.trans e4), r4.write (m := .lst (acc ++ [d])) hp ⟨_, rfl, rs.append (RepL.cons rw' RepL.nil)⟩, q4⟩
    · exact ⟨F4, M4, acc, eF.trans (e3.trans e4), r4, q4.2⟩
  · have hd : xs.drop i = [] := List.drop_eq_nil_of_le (by omega)
    rw [hd] at hq
    obtain ⟨kp, hp, hq⟩ := hq
    obtain ⟨_, o, ho, ws, rfl, rs⟩ := r.mr L _ hp
    exact .inl ⟨(it i F M H eF r kp).2 (by omega), hf L acc M F H ws hq hp eF r ho rs⟩
theorem lc_lift {st : DStep} {ti : DTI} {vs : List Nat} {g : TG} {tt : TT} {te : TE} {σ : St} {H : Hp} {Q : VK} (ok : StOk X.K F0 st vs g tt te) (h : liftE X.K F0 (dLc st ti) σ H Q) : tLc (liftI X.K F0 ti) g tt te vs σ H Q := by
  obtain ⟨F, δ, M, QD, e0, r, s, h, m⟩ := h
  refine ⟨F, δ, M, _, e0, r, s, h, fun xs keep M1 F1 H1 J q e1 r1 it => ?_⟩
  refine lc_run ok (e0.trans e1) r1 (s.mono e1) it q fun p acc M2 F2 H2 ws q2 hp e2 r2 ho rs => ?_
  have hF : F2 p = none := (r2.mr p _ hp).1
  exact m _ _ _ H2 _ q2 (e1.trans (e2.trans (same_add hF))) (r2.freeze hp ho) (by unfold Rep; exact ⟨p, ws, rfl, upd_same, rs.mono (same_add hF)⟩)
theorem lcM_lift {st : DStep} {ti : DTI} {vs : List Nat} {g : TG} {tt : TT} {te : TE} {σ : St} {H : Hp} {Q : VK} (ok : StOk X.K F0 st vs g tt te) (h : liftE X.K F0 (dLcM st ti) σ H Q) : tLc (liftI X.K F0 ti) g tt te vs σ H Q := by
  obtain ⟨F, δ, M, QD, e0, r, s, h, m⟩ := h
  refine ⟨F, δ, M, _, e0, r, s, h, fun xs keep M1 F1 H1 J q e1 r1 it => ?_⟩
  exact lc_run ok (e0.trans e1) r1 (s.mono e1) it (fin := fun p _ M2 => QD (.ref p) M2) q fun p acc M2 F2 H2 ws q2 hp e2 r2 ho rs => m _ _ F2 H2 _ q2 (e1.trans e2) r2 rep_ref
variable {elt tg iter : Expr} {ifs : List Expr} {scope : Scope} {ti : DTI} {tt : DTT} {te : DTE} {own : List (Str × Nat)}
/-- [elt for x in iter if ..] -/
theorem dpe_lc (i : Nat) {x : Str} {px : Pos} (hc : X.calm = true) (hN : X.N.Nodup) (ok : BlkOk X.N X.env.scope scope [(x, i)]) (hi : DPI X F0 (.Name x px) iter ti)
    (hg : ∀ (s : Shared) (H : Hp) (C : Addr) (cl : List (Str × Addr)) (fp : List Addr), PG (X.blk s H scope (compEnvC scope cl C X.env) fp) (.Name x px) (gName i))
    (ht : ∀ (s : Shared) (H : Hp) (C : Addr) (cl : List (Str × Addr)) (fp : List Addr), DPTs (X.blk s H scope (compEnvC scope cl C X.env) fp) F0 ifs tt)
    (he : ∀ (s : Shared) (H : Hp) (C : Addr) (cl : List (Str × Addr)) (fp : List Addr), DPE (X.blk s H scope (compEnvC scope cl C X.env) fp) F0 elt te) (hs : ∀ x, foldedSetIterable iter X.env x = pure x := by intro _; rfl) :
    DPE X F0 (.ListComp elt [⟨.Name x px, iter, ifs, 0⟩] scope pos) (dLc (st1 i tt te) ti) :=
  PE.imp (pe_lc hc hN hi ok hg ht he hs) fun _ _ _ h => lc_lift st1_ok h
theorem dpe_lcM (i : Nat) {x : Str} {px : Pos} (hc : X.calm = true) (hN : X.N.Nodup) (ok : BlkOk X.N X.env.scope scope [(x, i)]) (hi : DPI X F0 (.Name x px) iter ti)
    (hg : ∀ (s : Shared) (H : Hp) (C : Addr) (cl : List (Str × Addr)) (fp : List Addr), PG (X.blk s H scope (compEnvC scope cl C X.env) fp) (.Name x px) (gName i))
    (ht : ∀ (s : Shared) (H : Hp) (C : Addr) (cl : List (Str × Addr)) (fp : List Addr), DPTs (X.blk s H scope (compEnvC scope cl C X.env) fp) F0 ifs tt)
    (he : ∀ (s : Shared) (H : Hp) (C : Addr) (cl : List (Str × Addr)) (fp : List Addr), DPE (X.blk s H scope (compEnvC scope cl C X.env) fp) F0 elt te) (hs : ∀ x, foldedSetIterable iter X.env x = pure x := by intro _; rfl) :
    DPE X F0 (.ListComp elt [⟨.Name x px, iter, ifs, 0⟩] scope pos) (dLcM (st1 i tt te) ti) :=
  PE.imp (pe_lc hc hN hi ok hg ht he hs) fun _ _ _ h => lcM_lift st1_ok h
/-- [elt for x, y in iter if ..] -/
theorem dpe_lc2 (i j : Nat) {x y : Str} (hc : X.calm = true) (hN : X.N.Nodup) (ok : BlkOk X.N X.env.scope scope [(x, i), (y, j)]) (hi : DPI X F0 tg iter ti)
    (hg : ∀ (s : Shared) (H : Hp) (C : Addr) (cl : List (Str × Addr)) (fp : List Addr), PG (X.blk s H scope (compEnvC scope cl C X.env) fp) tg (gTup X.K 2 (gCons (gName i) (gCons (gName j) gNil))))
    (ht : ∀ (s : Shared) (H : Hp) (C : Addr) (cl : List (Str × Addr)) (fp : List Addr), DPTs (X.blk s H scope (compEnvC scope cl C X.env) fp) F0 ifs tt)
    (he : ∀ (s : Shared) (H : Hp) (C : Addr) (cl : List (Str × Addr)) (fp : List Addr), DPE (X.blk s H scope (compEnvC scope cl C X.env) fp) F0 elt te) (hs : ∀ x, foldedSetIterable iter X.env x = pure x := by intro _; rfl) :
    DPE X F0 (.ListComp elt [⟨tg, iter, ifs, 0⟩] scope pos) (dLc (st2 i j tt te) ti) :=
  PE.imp (pe_lc hc hN hi ok hg ht he hs) fun _ _ _ h => lc_lift st2_ok h
/-- y = [elt for x in iter if ..] -/
theorem ds_setLc (k i : Nat) {y x : Str} {py px spos : Pos} (hc : X.calm = true) (hN : X.N.Nodup) (ok : BlkOk X.N X.env.scope scope [(x, i)]) (hi : DPI X F0 (.Name x px) iter ti)
    (hg : ∀ (s : Shared) (H : Hp) (C : Addr) (cl : List (Str × Addr)) (fp : List Addr), PG (X.blk s H scope (compEnvC scope cl C X.env) fp) (.Name x px) (gName i))
    (ht : ∀ (s : Shared) (H : Hp) (C : Addr) (cl : List (Str × Addr)) (fp : List Addr), DPTs (X.blk s H scope (compEnvC scope cl C X.env) fp) F0 ifs tt)
    (he : ∀ (s : Shared) (H : Hp) (C : Addr) (cl : List (Str × Addr)) (fp : List Addr), DPE (X.blk s H scope (compEnvC scope cl C X.env) fp) F0 elt te)
    (hsw : swapsWith (.ListComp elt [⟨.Name x px, iter, ifs, 0⟩] scope pos) (some (.Name y py)) spos.line X.env = pure true)
    (hy : X.N[k]? = some y := by rfl) (hyl : X.env.scope.names.lookup y = some .local := by rfl) (hs : ∀ x, foldedSetIterable iter X.env x = pure x := by intro _; rfl) :
    DPS X F0 (.Assign [.Name y py] (.ListComp elt [⟨.Name x px, iter, ifs, 0⟩] scope pos) spos) (dSet k (dLc (st1 i tt te) ti)) :=
  PS.imp (ps_setLc hc hN hy hyl hsw hi ok hg ht he hs) fun E σ H ⟨F, δ, M, DD, e0, r, s, h, m⟩ => by
    have h2 : liftE X.K F0 (dLc (st1 i tt te) ti) σ H (fun v H1 => E.nx (σ.set k (some v)) H1) :=
      ⟨F, δ, M, _, e0, r, s, h, fun d M1 F1 H1 v q e1 r1 rv => m.nx _ M1 F1 _ H1 q e1 r1 ((s.mono e1).set (d := some d) (v := some v) rv k)⟩
    exact lc_lift (X := X) st1_ok h2
theorem ds_setLcM (k i : Nat) {y x : Str} {py px spos : Pos} (hc : X.calm = true) (hN : X.N.Nodup) (ok : BlkOk X.N X.env.scope scope [(x, i)]) (hi : DPI X F0 (.Name x px) iter ti)
    (hg : ∀ (s : Shared) (H : Hp) (C : Addr) (cl : List (Str × Addr)) (fp : List Addr), PG (X.blk s H scope (compEnvC scope cl C X.env) fp) (.Name x px) (gName i))
    (ht : ∀ (s : Shared) (H : Hp) (C : Addr) (cl : List (Str × Addr)) (fp : List Addr), DPTs (X.blk s H scope (compEnvC scope cl C X.env) fp) F0 ifs tt)
    (he : ∀ (s : Shared) (H : Hp) (C : Addr) (cl : List (Str × Addr)) (fp : List Addr), DPE (X.blk s H scope (compEnvC scope cl C X.env) fp) F0 elt te)
    (hsw : swapsWith (.ListComp elt [⟨.Name x px, iter, ifs, 0⟩] scope pos) (some (.Name y py)) spos.line X.env = pure true)
    (hy : X.N[k]? = some y := by rfl) (hyl : X.env.scope.names.lookup y = some .local := by rfl) (hs : ∀ x, foldedSetIterable iter X.env x = pure x := by intro _; rfl) :
    DPS X F0 (.Assign [.Name y py] (.ListComp elt [⟨.Name x px, iter, ifs, 0⟩] scope pos) spos) (dSet k (dLcM (st1 i tt te) ti)) :=
  PS.imp (ps_setLc hc hN hy hyl hsw hi ok hg ht he hs) fun E σ H ⟨F, δ, M, DD, e0, r, s, h, m⟩ => by
    have h2 : liftE X.K F0 (dLcM (st1 i tt te) ti) σ H (fun v H1 => E.nx (σ.set k (some v)) H1) :=
      ⟨F, δ, M, _, e0, r, s, h, fun d M1 F1 H1 v q e1 r1 rv => m.nx _ M1 F1 _ H1 q e1 r1 ((s.mono e1).set (d := some d) (v := some v) rv k)⟩
    exact lcM_lift (X := X) st1_ok h2
end
/-! ### pure comprehensions -/
theorem put_ne' {M : DM} {a b : Addr} {o m : MO} (h : M a = some m) (hb : M b = none) : put M b o a = some m := by
  rw [put_ne (fun e => by rw [e, hb] at h; cases h)]; exact h
theorem lc_pure {st : DStep} {keep : DM → Prop} {δ : DSt} {p : Addr} {fin : List D → DM → Prop} {M0 : DM} (f : D → Option D) : ∀ (xs acc : List D), (∀ x ∈ xs, ∀ M K, (∃ acc, M = put M0 p (.lst acc)) → K (f x) M → st x δ M K) → (∀ acc, keep (put M0 p (.lst acc))) → acc.length + xs.length ≤ sizeLine →
    fin (acc ++ xs.filterMap f) (put M0 p (.lst (acc ++ xs.filterMap f))) → lcR st keep δ p fin xs acc (put M0 p (.lst acc))
  | [], acc, _, kp, _, h => ⟨kp acc, put_same, by simpa using h⟩
  | x :: xs, acc, hs, kp, hl, h => by
    refine ⟨kp acc, hs x (by simp) _ _ ⟨acc, rfl⟩ ?_⟩
    cases e : f x with
    | some d =>
      refine ⟨put_same, by simp at hl; omega, ?_⟩
      rw [put_put]
      refine lc_pure f xs (acc ++ [d]) (fun y hy => hs y (by simp [hy])) kp (by simp at hl ⊢; omega) ?_
      simpa [e] using h
    | none =>
      refine ⟨put_same, lc_pure f xs acc (fun y hy => hs y (by simp [hy])) kp (by simp at hl; omega) ?_⟩
      simpa [e] using h
/-- a comprehension whose turns change nothing -/
theorem dLc_pure {st : DStep} {δ : DSt} {M : DM} {Q : DK} {xs : List D} {keep : DM → Prop} (f : D → Option D) (hs : ∀ x ∈ xs, ∀ M K, K (f x) M → st x δ M K) (kp : ∀ p acc, M p = none → keep (put M p (.lst acc))) (hl : xs.length ≤ sizeLine) (h : Q (.lst (xs.filterMap f)) M) :
    ∀ p, M p = none → lcR st keep δ p (fun acc M2 => Q (.lst acc) (drp M2 p)) xs [] (put M p (.lst [])) := fun p hp => by
  refine lc_pure f xs [] (fun x hx M K _ => hs x hx M K) (fun acc => kp p acc hp) (by simpa using hl) ?_
  rw [List.nil_append, drp_put hp]; exact h
end DL
set_option Elab.async false
set_option linter.all false
set_option maxRecDepth 100000
/-! DL9: defs, calls, fields, methods, making -/
namespace DL
open PySem PySem.Spec L2
/-! ### a value let go of M -/
def FrzTo (M : DM) (d : D) (M' : DM) (d' : D) : Prop := ∀ (K : PySem.W.Frag) (F H : Hp) (v : V), Rel K F M H → Rep K F d v → ∃ F', Same F F' ∧ Rel K F' M' H ∧ Rep K F' d' v
theorem FrzTo.refl {M : DM} {d : D} : FrzTo M d M d := fun K F H v r h => ⟨F, Same.refl F, r, h⟩
theorem FrzTo.less {M M' : DM} {d : D} (h : ∀ a m, M' a = some m → M a = some m) : FrzTo M d M' d := fun K F H v r x => ⟨F, Same.refl F, r.less h, x⟩
theorem FrzTo.trans {M M1 M2 : DM} {d d1 d2 : D} (a : FrzTo M d M1 d1) (b : FrzTo M1 d1 M2 d2) : FrzTo M d M2 d2 := fun K F H v r h => by
  obtain ⟨F1, e1, r1, h1⟩ := a K F H v r h
  obtain ⟨F2, e2, r2, h2⟩ := b K F1 H v r1 h1
  exact ⟨F2, e1.trans e2, r2, h2⟩
theorem FrzTo.lst {M : DM} {p : Addr} {xs : List D} (h : M p = some (.lst xs)) : FrzTo M (.ref p) (drp M p) (.lst xs) := fun K F H v r x => by
  obtain ⟨hF, o, ho, vs, rfl, rs⟩ := r.mr p _ h
  unfold Rep at x; subst x
  exact ⟨_, same_add hF, r.freeze h ho, by unfold Rep; exact ⟨p, vs, rfl, upd_same, rs.mono (same_add hF)⟩⟩
def insOf (C : Addr) (fs : List (Str × D)) : D := .ins C (fs.map (·.1)) (fs.map (·.2))
theorem FrzTo.ins {M : DM} {p C : Addr} {fs : List (Str × D)} (h : M p = some (.ins C fs)) : FrzTo M (.ref p) (drp M p) (insOf C fs) := fun K F H v r x => by
  obtain ⟨hF, o, ho, dx, vs, rfl, rs⟩ := r.mr p _ h
  unfold Rep at x; subst x
  obtain ⟨e1, e2⟩ := rs.names
  refine ⟨_, same_add hF, r.freeze h ho, ?_⟩
  unfold insOf Rep
  refine ⟨p, dx, vs.map (·.2), rfl, ?_, by simp [rs.length], e2.mono (same_add hF)⟩
  rw [← e1]; exact upd_same
/-- the same, of a list just laid -/
theorem FrzTo.new {M : DM} {p : Addr} {xs : List D} (h : M p = none) : FrzTo (put M p (.lst xs)) (.ref p) M (.lst xs) := by
  have := FrzTo.lst (M := put M p (.lst xs)) (p := p) (xs := xs) put_same
  rwa [drp_put h] at this
theorem FrzTo.put {M : DM} {p : Addr} {o : MO} {d : D} (h : M p = none) : FrzTo (put M p o) d M d := .less fun a m e => by rw [put_ne' e h]
def up (Q : DK) : DK := fun d M => ∃ d' M', FrzTo M d M' d' ∧ Q d' M'
theorem up.mk {Q : DK} {d : D} {M : DM} (h : Q d M) : up Q d M := ⟨d, M, .refl, h⟩
/-- an exception that leaves with more than is told -/
def upX (E : DXK) : DXK := fun C fs M => ∃ M', (∀ a m, M' a = some m → M a = some m) ∧ E C fs M'
theorem upX.mk {E : DXK} {C : Addr} {fs : List (Str × D)} {M : DM} (h : E C fs M) : upX E C fs M := ⟨M, fun _ _ h => h, h⟩
@[simp] def endsF (Q : DK) : DEnds := { nx := fun _ M => up Q .non M, rt := up Q }
@[simp] def startD (N : List Str) (ds : List D) : DSt := ds.map some ++ List.replicate (N.length - ds.length) none
theorem slots_start {K : PySem.W.Frag} {F : Hp} {N : List Str} {ds : List D} {vs : List V} (h : RepL K F ds vs) : Slots K F (startD N ds) (L2.start N vs) := by
  unfold startD L2.start
  rw [h.length]
  have k : ∀ n : Nat, Slots K F (List.replicate n none) (List.replicate n none) := by
    intro n
    induction n with
    | zero => exact .nil
    | succ n ih => exact .cons True.intro ih
  have g : ∀ {ds : List D} {vs : List V} {δ : DSt} {σ : St}, RepL K F ds vs → Slots K F δ σ → Slots K F (ds.map some ++ δ) (vs.map some ++ σ) := by
    intro ds
    induction ds with
    | nil =>
      intro vs δ σ h s
      have := h.nilV
      subst this
      exact s
    | cons d ds ih =>
      intro vs δ σ h s
      obtain ⟨v, r, rfl, h1, h2⟩ := h.consV
      exact .cons h1 (ih h2 s)
  exact g h (k _)
theorem Meets.up {K : PySem.W.Frag} {F : Hp} {QD : DK} {Q : VK} (m : Meets K F QD Q) : Meets K F (DL.up QD) Q := fun d M F1 H v ⟨d', M', fz, q⟩ e r x => by
  obtain ⟨F2, e2, r2, x2⟩ := fz K F1 H v r x
  exact m d' M' F2 H v q (e.trans e2) r2 x2
abbrev DFn (P : Program) (w : World) (K : PySem.W.Frag) (mg : Str → Option Value) (base : Heap) (k : Nat) (f : Addr) (fd : FuncData) (ps : List Str) (dsp : DSp) : Prop := FnOk P w K mg base (L2.CX P w) k f fd ps (lowSp K dsp)
/-- a def by its body -/
theorem dfn {P : Program} {w : World} {K : PySem.W.Frag} {mg : Str → Option Value} {base : Heap} {k : Nat} {x qual : Str} {params : Arguments} {body : List Stmt} {scope : Scope} {dvs : List V} {kws : List (Str × V)} {f : Addr} {fd : FuncData} {N ps : List Str} {dsp : DSp}
    (F : FunD K x qual params body scope dvs kws f fd) (S : FnScope N ps scope) (len : ∀ ds M Q E, dsp ds M Q E → ds.length = ps.length)
    (hb : ∀ (cdv : Value) (A : Around) (outer : List Env) (s : Shared) (H : Hp) (E : XK) (F0 : Hp) (W : DXK), Ctx (cxOf (L2.CX P w) P w K mg base N qual scope f cdv A outer s H E) F0 (fun C fs _ M => upX W C fs M) →
      Room k (cxOf (L2.CX P w) P w K mg base N qual scope f cdv A outer s H E).A → ∃ t, DPSs (cxOf (L2.CX P w) P w K mg base N qual scope f cdv A outer s H E) F0 body t ∧ ∀ ds M Q, dsp ds M Q W → t (endsF Q) (startD N ds) M) :
    DFn P w K mg base (k + 1) f fd ps dsp := by
  refine F.ok S (fun vs H Q E h => ?_) (fun cdv A outer s H vs Q E hr h => ?_)
  · obtain ⟨F1, M, ds, QD, ED, r, rs, h, _⟩ := h
    rw [← rs.length]; exact len _ _ _ _ h
  · obtain ⟨F1, M, ds, QD, ED, r, rs, h, mq, me⟩ := h
    have tk0 : Takes (cxOf (L2.CX P w) P w K mg base N qual scope f cdv A outer s H E) (fun cls d _ H' => E cls d H') := takes_of rfl rfl rfl rfl
    have c : Ctx (cxOf (L2.CX P w) P w K mg base N qual scope f cdv A outer s H E) F1 (fun C fs _ M => upX ED C fs M) :=
      ⟨rfl, tk0.imp fun cls d σ H' ⟨C, fs, δ, M1, F2, dx, vs, h1, h2, h3, h4, h5, h6, h7, M2, le, h8⟩ => me cls d H' ⟨C, fs, M2, F2, dx, vs, h1, h2, h3, h4.less le, h6, h7, h8⟩, passes_of rfl, S.nd⟩
    obtain ⟨t, ht, hq⟩ := hb cdv A outer s H E F1 ED c hr
    refine ⟨_, ht, F1, startD N ds, M, endsF QD, Same.refl F1, r, slots_start rs, hq ds M QD h, ⟨fun δ M1 F2 σ H1 q e r1 s1 => mq.up _ M1 F2 H1 _ q e r1 rep_non, mq.up, fun _ _ _ _ _ q => q.elim, fun _ _ _ _ _ q => q.elim⟩⟩
/-! ### calls -/
/-- the def (positional arguments, the last ones left out): what a call of x promises -/
structure DCal (P : Program) (w : World) (K : PySem.W.Frag) (mg : Str → Option Value) (base : Heap) (k : Nat) (x : Str) (dsp : DSp) : Prop where
  ex : ∃ (f : Addr) (fd : FuncData) (ps : List Str) (ds : List Value) (dvs : List V) (dd : List D) (dsp0 : DSp), mg x = some (.ref f) ∧ PySem.W.keepIn K (.ref f) = true ∧ DFn P w K mg base k f fd ps dsp0 ∧ Binds K fd ps ds ∧ Vals dvs ds ∧ (∀ F, RepL K F dd dvs) ∧ ∀ as M Q E, dsp as M Q E → dsp0 (as ++ dd) M Q E
/-- .. with keywords -/
structure DCalK (P : Program) (w : World) (K : PySem.W.Frag) (mg : Str → Option Value) (base : Heap) (k : Nat) (x : Str) (n : Nat) (ks : List Str) (dsp : List D → List D → DM → DK → DXK → Prop) : Prop where
  ex : ∃ (f : Addr) (fd : FuncData) (ps : List Str) (g : List Value → List Value → List Value) (gV : List V → List V → List V) (gD : List D → List D → List D) (dsp0 : DSp), mg x = some (.ref f) ∧ PySem.W.keepIn K (.ref f) = true ∧ DFn P w K mg base k f fd ps dsp0 ∧ KBn K fd ps n ks g gV ∧
    (∀ F as vs zs ws, RepL K F as vs → RepL K F zs ws → RepL K F (gD as zs) (gV vs ws)) ∧ ∀ as zs M Q E, dsp as zs M Q E → dsp0 (gD as zs) M Q E
section
variable {X : Cx} {F0 : Hp} {W : DW} {pos p apos : Pos} {k : Nat} {e o : Expr} {es : List Expr} {t : DTA} {dsp : DSp} {x : Str}
def wE (W : DW) (δ : DSt) : DXK := fun C fs M => W C fs δ M
@[simp] def dCall (dsp : DSp) (W : DW) (t : DTA) : DTE := fun δ M Q => t δ M fun ds M1 => dsp ds M1 Q (wE W δ)
theorem passW (c : Ctx X F0 W) (σ : St) : PassesAt (L2.CX X.prog X.w) X σ (WE (lowW X.K F0 W) σ) := passAt c.tk σ
/-- from the deep promise to the promise -/
theorem low_call {K : PySem.W.Frag} {dsp0 : DSp} {F F1 : Hp} {M1 : DM} {H1 : Hp} {δ : DSt} {σ : St} {ds : List D} {vs : List V} {QD : DK} {Q : VK} (e0 : Same F0 F) (e1 : Same F F1) (s : Slots K F δ σ) (m : Meets K F QD Q) (r1 : Rel K F1 M1 H1) (rs : RepL K F1 ds vs) (h : dsp0 ds M1 QD (wE W δ)) :
    lowSp K dsp0 vs H1 Q (WE (lowW K F0 W) σ) :=
  ⟨F1, M1, ds, QD, wE W δ, r1, rs, h, m.mono e1, fun cls d H' ⟨C, fs, M, F2, dx, ws, h1, h2, h3, h4, h5, h6, h7⟩ => ⟨C, fs, δ, M, F2, dx, ws, h1, h2, e0.trans (e1.trans h3), h4, s.mono (e1.trans h3), h5, h6, h7⟩⟩
theorem dpe_call (c : Ctx X F0 W) (dc : DCal X.prog X.w X.K X.mg X.base k x dsp) (hr : Room k X.A) (ha : DPA X F0 (e :: es) t) (hg : Gl X x := by rfl) (hdb : (x == ("__debug__" : Str)) = false := by decide)
    (he : starEach (e :: es) X.env = (false, eval e X.env) :: starEach es X.env := by rfl) (hpl : (backTo pos (starEach es X.env)).any (·.1) = false := by rfl) : DPE X F0 (.Call (.Name x p) (e :: es) [] pos) (dCall dsp W t) := by
  obtain ⟨f, fd, ps, ds, dvs, dd, dsp0, hm, hk, F, hb, hd, hdd, im⟩ := dc.ex
  exact PE.imp (pe_callSD F hr hg hm hk hb hd (passW c) ha hdb he hpl) fun σ H Q ⟨F, δ, M, QD, e0, r, s, h, m⟩ => ⟨F, δ, M, _, e0, r, s, h, fun as M1 F1 H1 vs q e1 r1 rs =>
    low_call e0 e1 s m r1 (rs.append (hdd F1)) (im _ _ _ _ q)⟩
theorem dpe_call0 (c : Ctx X F0 W) (dc : DCal X.prog X.w X.K X.mg X.base k x dsp) (hr : Room k X.A) (hg : Gl X x := by rfl) (hdb : (x == ("__debug__" : Str)) = false := by decide) : DPE X F0 (.Call (.Name x p) [] [] pos) (dCall dsp W dNil) := by
  obtain ⟨f, fd, ps, ds, dvs, dd, dsp0, hm, hk, F, hb, hd, hdd, im⟩ := dc.ex
  refine ⟨fun pins s σ H Q I h => ?_⟩
  obtain ⟨F1, δ, M, QD, e0, r, sl, h, m⟩ := h
  refine wpAny_Call_Name_kw (ld_glob I hg hm ?_ hdb)
  exact PySem.W.callWith_K0 I.kIn hk (run_fnSD (us := []) (vs := []) (E := WE (lowW X.K F0 W)) F hr hb hd (passW c σ) I .nil (low_call (ds := [] ++ dd) e0 (Same.refl F1) sl m r (hdd F1) (im [] M QD _ h)))
/-- f(.., k = v) -/
def dCallK (dsp : List D → List D → DM → DK → DXK → Prop) (n m : Nat) (W : DW) (t tk : DTA) : DTE := fun δ M Q => t δ M fun as M1 => tk δ M1 fun zs M2 => as.length = n ∧ zs.length = m ∧ dsp as zs M2 Q (wE W δ)
abbrev DPK (X : Cx) (F0 : Hp) (kws : List Keyword) (t : DTA) : Prop := PK X kws (liftA X.K F0 t)
theorem PK.imp {X : Cx} {e : List Keyword} {t t' : TA} (h : PK X e t) (i : ∀ σ H Q, t' σ H Q → t σ H Q) : PK X e t' := ⟨fun pos pins s σ H Q I q => h.run pos pins s σ H Q I (i _ _ _ q)⟩
theorem dk_nil : DPK X F0 [] dNil := PK.imp pk_nil fun σ H Q ⟨F, δ, M, QD, e0, r, s, h, m⟩ => m [] M F H [] h (Same.refl F) r RepL.nil
theorem dk_cons {te : DTE} {kws : List Keyword} {nm : Option Str} {kpos : Pos} (ha : DPE X F0 e te) (hr : DPK X F0 kws t) : DPK X F0 (⟨nm, e, kpos⟩ :: kws) (dCons te t) :=
  PK.imp (pk_cons ha hr) fun σ H Q ⟨F, δ, M, QD, e0, r, s, h, m⟩ => ⟨F, δ, M, _, e0, r, s, h, fun d M1 F1 H1 v q e1 r1 rv =>
    ⟨F1, δ, M1, _, e0.trans e1, r1, s.mono e1, q, fun ds M2 F2 H2 vs q2 e2 r2 rs => m (d :: ds) M2 F2 H2 (v :: vs) q2 (e1.trans e2) r2 (RepL.cons (rv.mono e2) rs)⟩⟩
/-! ### fields -/
def PF (K : PySem.W.Frag) (C : Addr) (f : Str) : Prop := Cls K C ∧ NoAttr K C f
def insD (M : DM) : D → Option (Addr × List (Str × D))
  | .ins C ns xs => some (C, ns.zip xs)
  | .ref q => match M q with
    | some (.ins C fs) => some (C, fs)
    | _ => none
  | _ => none
theorem insD_at {K : PySem.W.Frag} {F H : Hp} {M : DM} {d : D} {v : V} {C : Addr} {fs : List (Str × D)} (r : Rel K F M H) (h : Rep K F d v) (e : insD M d = some (C, fs)) : ∃ a dx vs, v = .ref a ∧ H a = some (.ins C dx vs) ∧ RepF K F fs vs := by
  cases d with
  | ins C' ns xs =>
    cases e
    unfold Rep at h
    obtain ⟨a, dx, vs, h1, h2, h3, h4⟩ := h
    exact ⟨a, dx, ns.zip vs, h1, r.sub _ _ h2, RepF.zip h3 h4⟩
  | ref q =>
    unfold insD at e
    dsimp only at e
    split at e
    · rename_i C' fs' z
      cases e
      obtain ⟨_, o, ho, dx, vs, rfl, rs⟩ := r.mr q _ z
      unfold Rep at h
      exact ⟨q, dx, vs, h, ho, rs⟩
    · cases e
  | _ => cases e
@[simp] def dFld (K : PySem.W.Frag) (f : Str) (te : DTE) : DTE := fun δ M Q => te δ M fun d M1 => match insD M1 d with
  | some (C, fs) => (match fs.lookup f with | some y => PF K C f ∧ Q y M1 | none => False)
  | none => False
theorem dpe_fld {f : Str} {te : DTE} (he : DPE X F0 e te) (hb : attributeBase e f X.env (eval e X.env) = eval e X.env := by rfl) : DPE X F0 (.Attribute e f pos) (dFld X.K f te) :=
  PE.imp (pe_fld he hb) fun σ H Q ⟨F, δ, M, QD, e0, r, s, h, m⟩ => ⟨F, δ, M, _, e0, r, s, h, fun d M1 F1 H1 v q e1 r1 rv => by
    split at q
    · rename_i C fs ei
      obtain ⟨a, dx, vs, rfl, ha, rf⟩ := insD_at r1 rv ei
      split at q
      · rename_i y ey
        obtain ⟨w, hw, rw'⟩ := (rf.look (f := f)).1 y ey
        exact ⟨a, C, dx, vs, w, rfl, ha, q.1.1, q.1.2, hw, m _ M1 F1 H1 _ q.2 e1 r1 rw'⟩
      · exact q.elim
    · exact q.elim⟩
@[simp] def dSetF (K : PySem.W.Frag) (f : Str) (to te : DTE) : DTS := fun D δ M => te δ M fun y M1 => to δ M1 fun d M2 => match d with
  | .ref q => (match M2 q with | some (.ins C fs) => PF K C f ∧ fs.length < 1000 ∧ D.nx δ (put M2 q (.ins C (putD f y fs))) | _ => False)
  | _ => False
theorem ds_fld {f : Str} {to te : DTE} {pos' : Pos} (ho : DPE X F0 o to) (he : DPE X F0 e te) (hs : swapsWith e (some (.Attribute o f pos')) pos.line X.env = pure false := by rfl) : DPS X F0 (.Assign [.Attribute o f pos'] e pos) (dSetF X.K f to te) :=
  PS.imp (ps_fld ho he hs) fun E σ H ⟨F, δ, M, DD, e0, r, s, h, m⟩ => ⟨F, δ, M, _, e0, r, s, h, fun y M1 F1 H1 vy q e1 r1 ry => ⟨F1, δ, M1, _, e0.trans e1, r1, s.mono e1, q, fun d M2 F2 H2 v q2 e2 r2 rv => by
    split at q2
    · rename_i a
      split at q2
      · rename_i C fs ea
        unfold Rep at rv; subst rv
        obtain ⟨_, ob, ho, dx, vs, rfl, rs⟩ := r2.mr a _ ea
        exact ⟨a, C, dx, vs, rfl, ho, q2.1.1, q2.1.2, by rw [← rs.length]; exact q2.2.1, m.nx δ _ F2 σ _ q2.2.2 (e1.trans e2) (r2.write (m := .ins C (putD f y fs)) ea ⟨dx, _, rfl, rs.put (ry.mono e2)⟩) (s.mono (e1.trans e2))⟩
      · exact q2.elim
    · exact q2.elim⟩⟩
/-! ### methods -/
/-- the classes that have the method m, each with its promise (self first) -/
structure DMet (P : Program) (w : World) (K : PySem.W.Frag) (mg : Str → Option Value) (base : Heap) (k : Nat) (C : Addr) (m : Str) (dsp : DSp) : Prop where
  ex : ∃ (f : Addr) (fd : FuncData) (ps : List Str) (ds : List Value) (dvs : List V) (dd : List D) (dsp0 : DSp), Cls K C ∧ Meth K C m f ∧ DFn P w K mg base k f fd ps dsp0 ∧ Binds K fd ps ds ∧ Vals dvs ds ∧ (∀ F, RepL K F dd dvs) ∧ ∀ as M Q E, dsp as M Q E → dsp0 (as ++ dd) M Q E
def DMets (P : Program) (w : World) (K : PySem.W.Frag) (mg : Str → Option Value) (base : Heap) (k : Nat) (m : Str) : List (Addr × DSp) → Prop
  | [] => True
  | (C, dsp) :: r => DMet P w K mg base k C m dsp ∧ DMets P w K mg base k m r
def sel (k : DSp → Prop) : List (Addr × DSp) → Addr → Prop
  | [], _ => False
  | (C0, dsp) :: r, C => (C = C0 ∧ k dsp) ∨ sel k r C
theorem sel_get {P : Program} {w : World} {K : PySem.W.Frag} {mg : Str → Option Value} {base : Heap} {k : Nat} {m : Str} {q : DSp → Prop} : ∀ {l : List (Addr × DSp)} {C : Addr}, DMets P w K mg base k m l → sel q l C → ∃ dsp, DMet P w K mg base k C m dsp ∧ q dsp
  | [], _, _, h => h.elim
  | (C0, dsp) :: r, C, hm, h => by
    rcases h with ⟨rfl, h⟩ | h
    · exact ⟨dsp, hm.1, h⟩
    · exact sel_get hm.2 h
end
end DL
set_option Elab.async false
set_option linter.all false
set_option maxRecDepth 100000
/-! DL10: methods, making, properties -/
namespace DL
open PySem PySem.Spec L2
section
variable {X : Cx} {F0 : Hp} {W : DW} {pos p apos : Pos} {k : Nat} {e o : Expr} {es : List Expr} {t : DTA} {dsp : DSp} {x : Str}
@[simp] def dMeth (l : List (Addr × DSp)) (mn : Str) (W : DW) (to : DTE) (t : DTA) : DTE := fun δ M Q => to δ M fun d M1 => match insD M1 d with
  | some (C, fs) => fs.lookup mn = none ∧ sel (fun dsp => t δ M1 fun ds M2 => dsp (d :: ds) M2 Q (wE W δ)) l C
  | none => False
theorem dpe_meth {l : List (Addr × DSp)} {mn : Str} {to : DTE} {pl : Sem Bool} (c : Ctx X F0 W) (dm : DMets X.prog X.w X.K X.mg X.base k mn l) (hr : Room k X.A) (ho : DPE X F0 o to) (ha : DPA X F0 (e :: es) t)
    (hst : starEach (e :: es) X.env = (false, eval e X.env) :: starEach es X.env := by rfl) (hpl : (backTo pos (starEach es X.env)).any (·.1) = false := by rfl)
    (ht : eval (.Call (.Attribute o mn apos) (e :: es) [] pos) X.env = (do
      let ov ← eval o X.env
      standAt apos.atName
      let (f, first) ← holding [ov] (getMethod ov mn pl)
      callWith pos f first (backTo pos (starEach (e :: es) X.env)) (backToKw pos (keywordEach [] X.env))) := by rfl) :
    DPE X F0 (.Call (.Attribute o mn apos) (e :: es) [] pos) (dMeth l mn W to t) := by
  refine ⟨fun pins s σ H Q I h => ?_⟩
  obtain ⟨F, δ, M, QD, e0, r, sl, h, m⟩ := h
  refine PySem.W.methodCall_KW (pl := pl) (thn (ho.run pins s σ H (fun v H1 => ∃ d M1 F1 C fs, Same F F1 ∧ Rel X.K F1 M1 H1 ∧ Rep X.K F1 d v ∧ insD M1 d = some (C, fs) ∧ fs.lookup mn = none ∧ sel (fun dsp => t δ M1 fun ds M2 => dsp (d :: ds) M2 QD (wE W δ)) l C) I
    ⟨F, δ, M, _, e0, r, sl, h, fun d M1 F1 H1 v q e1 r1 rv => by
      split at q
      · rename_i C fs ei
        exact ⟨d, M1, F1, C, fs, e1, r1, rv, ei, q.1, q.2⟩
      · exact q.elim⟩) fun u s1 ⟨v, H1, I1, ru, d, M1, F1, C, fs, e1, r1, rv, ei, hl, q⟩ => ?_) ht
  obtain ⟨a, dx, vs, rfl, ea, rf⟩ := insD_at r1 rv ei
  obtain rfl : u = Value.ref a := ru
  obtain ⟨dsp, ⟨f, fd, ps, ds, dvs, dd, dsp0, hc, hm, Fn, hb, hd, hdd, im⟩, q⟩ := sel_get dm q
  refine getmeth_ok I1 ea hc hm ((rf.look (f := mn)).2 hl) ?_
  refine PySem.W.callWith_K (first := [.ref a]) (h₀ := X.base) I.ok.mod.kin hm.kp (thn (ha.run pos pins s1 σ H1 (fun ws H2 => lowSp X.K dsp0 (.ref a :: (ws ++ dvs)) H2 Q (WE (lowW X.K F0 W) σ)) I1
    ⟨F1, δ, M1, _, e0.trans e1, r1, sl.mono e1, q, fun as M2 F2 H2 ws q2 e2 r2 rs => low_call e0 (e1.trans e2) sl m r2 (RepL.cons (rv.mono e2) (rs.append (hdd F2))) (im _ _ _ _ q2)⟩) fun us s2 ⟨ws, H2, I2, rw', q2⟩ => ⟨I2.kIn, ?_⟩) hst hpl
  exact run_fnSD (us := .ref a :: us) (vs := .ref a :: ws) (E := WE (lowW X.K F0 W)) Fn hr hb hd (passW c σ) I2 (.cons rfl rw') q2
theorem dpe_meth0 {l : List (Addr × DSp)} {mn : Str} {to : DTE} {pl : Sem Bool} (c : Ctx X F0 W) (dm : DMets X.prog X.w X.K X.mg X.base k mn l) (hr : Room k X.A) (ho : DPE X F0 o to)
    (ht : eval (.Call (.Attribute o mn apos) [] [] pos) X.env = (do
      let ov ← eval o X.env
      standAt apos.atName
      let (f, first) ← holding [ov] (getMethod ov mn pl)
      callWith pos f first (backTo pos (starEach [] X.env)) (backToKw pos (keywordEach [] X.env))) := by rfl) :
    DPE X F0 (.Call (.Attribute o mn apos) [] [] pos) (dMeth l mn W to dNil) := by
  refine ⟨fun pins s σ H Q I h => ?_⟩
  obtain ⟨F, δ, M, QD, e0, r, sl, h, m⟩ := h
  refine PySem.W.methodCall_KW (pl := pl) (thn (ho.run pins s σ H (fun v H1 => ∃ d M1 F1 C fs, Same F F1 ∧ Rel X.K F1 M1 H1 ∧ Rep X.K F1 d v ∧ insD M1 d = some (C, fs) ∧ fs.lookup mn = none ∧ sel (fun dsp => dsp [d] M1 QD (wE W δ)) l C) I
    ⟨F, δ, M, _, e0, r, sl, h, fun d M1 F1 H1 v q e1 r1 rv => by
      split at q
      · rename_i C fs ei
        exact ⟨d, M1, F1, C, fs, e1, r1, rv, ei, q.1, q.2⟩
      · exact q.elim⟩) fun u s1 ⟨v, H1, I1, ru, d, M1, F1, C, fs, e1, r1, rv, ei, hl, q⟩ => ?_) ht
  obtain ⟨a, dx, vs, rfl, ea, rf⟩ := insD_at r1 rv ei
  obtain rfl : u = Value.ref a := ru
  obtain ⟨dsp, ⟨f, fd, ps, ds, dvs, dd, dsp0, hc, hm, Fn, hb, hd, hdd, im⟩, q⟩ := sel_get dm q
  refine getmeth_ok I1 ea hc hm ((rf.look (f := mn)).2 hl) ?_
  exact PySem.W.callWith_K0 (first := [.ref a]) I1.kIn hm.kp (run_fnSD (us := [.ref a]) (vs := [.ref a]) (E := WE (lowW X.K F0 W)) Fn hr hb hd (passW c σ) I1 (.cons rfl .nil) (low_call e0 e1 sl m r1 (RepL.cons rv (hdd F1)) (im _ _ _ _ q)))
/-! ### instances that can be called: o(..) -/
def dInst (l : List (Addr × DSp)) (W : DW) (to : DTE) (t : DTA) : DTE := fun δ M Q => to δ M fun d M1 => t δ M1 fun ds M2 => match insD M2 d with
  | some (C, _) => sel (fun dsp => dsp (d :: ds) M2 Q (wE W δ)) l C
  | none => False
/-! ### making an instance -/
/-- the class x of the text, made by its __init__: C(..) promises dsp -/
structure DMak (P : Program) (w : World) (K : PySem.W.Frag) (mg : Str → Option Value) (base : Heap) (k : Nat) (x : Str) (dsp : DSp) : Prop where
  ex : ∃ (C f : Addr) (fd : FuncData) (ps : List Str) (ds : List Value) (dvs : List V) (dd : List D) (dsp0 : DSp), mg x = some (.ref C) ∧ Mk K C f ∧ DFn P w K mg base k f fd ps dsp0 ∧ Binds K fd ps ds ∧ Vals dvs ds ∧ (∀ F, RepL K F dd dvs) ∧
    ∀ as M Q E, dsp as M Q E → ∀ q, M q = none → dsp0 (.ref q :: (as ++ dd)) (put M q (.ins C [])) (fun v M2 => v = .non ∧ up Q (.ref q) M2) (upX E)
theorem new_ins {K : PySem.W.Frag} {F H : Hp} {M : DM} {q dx C : Addr} (r : Rel K F M H) (h1 : H q = none) (h2 : H dx = none) (hne : dx ≠ q) : Rel K F (put M q (.ins C [])) (upd (upd H dx (.own q)) q (.ins C dx [])) :=
  (r.junk h2).new (m := .ins C []) (by rw [upd_ne hne.symm]; exact h1) ⟨dx, [], rfl, .nil⟩
theorem run_makeS {CX : CXT} {C f : Addr} {fd : FuncData} {ps : List Str} {sp : Sp} {dvs : List V} {ds : List Value} {E : XK} {pins : List (Addr × Obj)} {σ : St} {H : Hp} {s : Shared} {Q : VK} {us : List Value} {vs : List V} (Mk0 : Mk X.K C f) (F : FnOk X.prog X.w X.K X.mg X.base CX k f fd ps sp) (hr : Room (k + 1) X.A) (hb : Binds X.K fd ps ds) (hd : Vals dvs ds)
    (hx : PassesAt CX X σ E) (I : Inv X pins σ H s) (r : Vals vs us)
    (h : ∀ q dx, H q = none → H dx = none → dx ≠ q → sp (.ref q :: (vs ++ dvs)) (upd (upd H dx (.own q)) q (.ins C dx [])) (fun v H2 => v = .non ∧ Q (.ref q) H2) E) :
    wpAny (model X.prog X.w) X.A (call (.ref C) us) (EP X pins σ Q) X.xe s := by
  generalize hn : s.heap.objs.size = n
  have hq := h (n + 1) n (I.hok.fresh (by rw [hn]; exact Nat.le_succ n)) (I.hok.fresh (Nat.le_of_eq hn)) (Nat.ne_of_lt (Nat.lt_succ_self n))
  have I2 := Inv.made (C := C) I
  rw [hn] at I2
  have r2 : Vals (V.ref (n + 1) :: (vs ++ dvs)) (Value.ref (n + 1) :: (us ++ ds)) := .cons rfl (r.append hd)
  have hl : (Value.ref (n + 1) :: us ++ ds).length = ps.length := by
    have z := r2.length
    rw [F.len _ _ _ _ hq] at z
    exact z.symm
  refine wpAny_call (make_map (f := f) I.kIn Mk0.makes Mk0.init (beq_iff_eq.mp Mk0.fn) ?_)
  rw [hn]
  refine codeAny_mono (F.run _ X.stack _ _ ⟨Value.ref (n + 1) :: us, []⟩ (Value.ref (n + 1) :: (us ++ ds)) _ _ E (hr.make C us []) (I2.env0.make C us []) (hb _ (Value.ref (n + 1) :: us) I2.kIn hl) r2 hq) fun rr s' hq' => ?_
  cases rr with
  | error er => exact hx pins _ _ er s' I2 hq'
  | ok fl =>
    cases fl with
    | ret u =>
      obtain ⟨v, H', I3, rv, ev, q3⟩ := I2.after hq'
      subst ev
      exact ⟨rv, ⟨V.ref (n + 1), H', I3, rfl, q3⟩⟩
    | _ => exact False.elim hq'
theorem mak_low {K : PySem.W.Frag} {dsp0 : DSp} {C : Addr} {F F1 : Hp} {M1 : DM} {H1 : Hp} {δ : DSt} {σ : St} {ds : List D} {vs : List V} {QD : DK} {Q : VK} (e0 : Same F0 F) (e1 : Same F F1) (s : Slots K F δ σ) (m : Meets K F QD Q) (r1 : Rel K F1 M1 H1) (rs : RepL K F1 ds vs)
    (h : ∀ q, M1 q = none → dsp0 (.ref q :: ds) (put M1 q (.ins C [])) (fun v M2 => v = .non ∧ up QD (.ref q) M2) (upX (wE W δ))) :
    ∀ q dx, H1 q = none → H1 dx = none → dx ≠ q → lowSp K dsp0 (.ref q :: vs) (upd (upd H1 dx (.own q)) q (.ins C dx [])) (fun v H2 => v = .non ∧ Q (.ref q) H2) (WE (lowW K F0 W) σ) := fun q dx hq hdx hne =>
  ⟨F1, _, .ref q :: ds, _, upX (wE W δ), new_ins r1 hq hdx hne, RepL.cons rep_ref rs, h q (r1.free hq), fun d M2 F2 H2 v ⟨hd, hu⟩ e2 r2 rv => by
      subst hd
      unfold Rep at rv
      exact ⟨rv, (m.mono (e1.trans e2)).up _ M2 F2 H2 _ hu (Same.refl F2) r2 rep_ref⟩,
    fun cls d H' ⟨C', fs, M, F2, dx', ws, h1, h2, h3, h4, h5, h6, M', le, h7⟩ => ⟨C', fs, δ, M', F2, dx', ws, h1, h2, e0.trans (e1.trans h3), h4.less le, s.mono (e1.trans h3), h5, h6, h7⟩⟩
theorem dpe_make (c : Ctx X F0 W) (dm : DMak X.prog X.w X.K X.mg X.base k x dsp) (hr : Room (k + 1) X.A) (ha : DPA X F0 (e :: es) t) (hg : Gl X x := by rfl) (hdb : (x == ("__debug__" : Str)) = false := by decide)
    (he : starEach (e :: es) X.env = (false, eval e X.env) :: starEach es X.env := by rfl) (hpl : (backTo pos (starEach es X.env)).any (·.1) = false := by rfl) : DPE X F0 (.Call (.Name x p) (e :: es) [] pos) (dCall dsp W t) := by
  obtain ⟨C, f, fd, ps, ds, dvs, dd, dsp0, hm, mk, Fn, hb, hd, hdd, im⟩ := dm.ex
  refine ⟨fun pins s σ H Q I h => ?_⟩
  obtain ⟨F, δ, M, QD, e0, r, sl, h, m⟩ := h
  refine wpAny_Call_Name_kw (ld_glob I hg hm ?_ hdb)
  refine PySem.W.callWith_K (h₀ := X.base) I.ok.mod.kin mk.kp (thn (ha.run pos pins s σ H (fun ws H2 => ∀ q dx, H2 q = none → H2 dx = none → dx ≠ q → lowSp X.K dsp0 (.ref q :: (ws ++ dvs)) (upd (upd H2 dx (.own q)) q (.ins C dx [])) (fun v H3 => v = .non ∧ Q (.ref q) H3) (WE (lowW X.K F0 W) σ)) I
    ⟨F, δ, M, _, e0, r, sl, h, fun as M1 F1 H1 ws q e1 r1 rs => mak_low e0 e1 sl m r1 (rs.append (hdd F1)) (im _ _ _ _ q)⟩) fun us s2 ⟨ws, H2, I2, rw', q2⟩ => ⟨I2.kIn, ?_⟩) he hpl
  exact run_makeS (E := WE (lowW X.K F0 W) σ) mk Fn hr hb hd (passW c σ) I2 rw' q2
theorem dpe_make0 (c : Ctx X F0 W) (dm : DMak X.prog X.w X.K X.mg X.base k x dsp) (hr : Room (k + 1) X.A) (hg : Gl X x := by rfl) (hdb : (x == ("__debug__" : Str)) = false := by decide) : DPE X F0 (.Call (.Name x p) [] [] pos) (dCall dsp W dNil) := by
  obtain ⟨C, f, fd, ps, ds, dvs, dd, dsp0, hm, mk, Fn, hb, hd, hdd, im⟩ := dm.ex
  refine ⟨fun pins s σ H Q I h => ?_⟩
  obtain ⟨F, δ, M, QD, e0, r, sl, h, m⟩ := h
  refine wpAny_Call_Name_kw (ld_glob I hg hm ?_ hdb)
  exact PySem.W.callWith_K0 I.kIn mk.kp (run_makeS (us := []) (vs := []) (E := WE (lowW X.K F0 W) σ) mk Fn hr hb hd (passW c σ) I .nil (mak_low (ds := [] ++ dd) e0 (Same.refl F) sl m r (hdd F) (im [] M QD _ h)))
/-! ### properties -/
structure DPrp (P : Program) (w : World) (K : PySem.W.Frag) (mg : Str → Option Value) (base : Heap) (k : Nat) (C : Addr) (f : Str) (dsp : DSp) : Prop where
  ex : ∃ (pr g : Addr) (fd : FuncData) (ps : List Str), Cls K C ∧ PropOf K C f pr g ∧ DFn P w K mg base k g fd ps dsp ∧ Binds K fd ps []
def DPrps (P : Program) (w : World) (K : PySem.W.Frag) (mg : Str → Option Value) (base : Heap) (k : Nat) (f : Str) : List (Addr × DSp) → Prop
  | [] => True
  | (C, dsp) :: r => DPrp P w K mg base k C f dsp ∧ DPrps P w K mg base k f r
theorem sel_prp {P : Program} {w : World} {K : PySem.W.Frag} {mg : Str → Option Value} {base : Heap} {k : Nat} {f : Str} {q : DSp → Prop} : ∀ {l : List (Addr × DSp)} {C : Addr}, DPrps P w K mg base k f l → sel q l C → ∃ dsp, DPrp P w K mg base k C f dsp ∧ q dsp
  | [], _, _, h => h.elim
  | (C0, dsp) :: r, C, hm, h => by
    rcases h with ⟨rfl, h⟩ | h
    · exact ⟨dsp, hm.1, h⟩
    · exact sel_prp hm.2 h
def X0 : DXK := fun _ _ _ => False
@[simp] def dProp (l : List (Addr × DSp)) (te : DTE) : DTE := fun δ M Q => te δ M fun d M1 => match insD M1 d with
  | some (C, _) => sel (fun dsp => dsp [d] M1 Q X0) l C
  | none => False
theorem dpe_prop {l : List (Addr × DSp)} {f : Str} {te : DTE} (dp : DPrps X.prog X.w X.K X.mg X.base k f l) (hr : Room (k + 1) X.A) (he : DPE X F0 e te) (hab : attributeBase e f X.env (eval e X.env) = eval e X.env := by rfl) : DPE X F0 (.Attribute e f pos) (dProp l te) := by
  refine ⟨fun pins s σ H Q I h => ?_⟩
  obtain ⟨F, δ, M, QD, e0, r, sl, h, m⟩ := h
  refine attr_of hab (thn (he.run pins s σ H (fun v H1 => ∃ d M1 F1 C fs, Same F F1 ∧ Rel X.K F1 M1 H1 ∧ Rep X.K F1 d v ∧ insD M1 d = some (C, fs) ∧ sel (fun dsp => dsp [d] M1 QD X0) l C) I
    ⟨F, δ, M, _, e0, r, sl, h, fun d M1 F1 H1 v q e1 r1 rv => by
      split at q
      · rename_i C fs ei
        exact ⟨d, M1, F1, C, fs, e1, r1, rv, ei, q⟩
      · exact q.elim⟩) fun u s1 ⟨v, H1, I1, ru, d, M1, F1, C, fs, e1, r1, rv, ei, q⟩ => ?_)
  obtain ⟨a, dx, vs, rfl, ea, rf⟩ := insD_at r1 rv ei
  obtain rfl : u = Value.ref a := ru
  obtain ⟨dsp, ⟨pr, g, fd, ps, hc, hp, Fn, hb⟩, q⟩ := sel_prp dp q
  exact getprop_ok (E := E0) I1 ea hc hp Fn hr hb .nil passL ⟨F1, M1, [d], QD, X0, r1, RepL.cons rv RepL.nil, q, m.mono e1, fun cls dd H' ⟨_, _, _, _, _, _, _, _, _, _, _, _, z⟩ => z.elim⟩
end
end DL
set_option Elab.async false
set_option linter.all false
set_option maxRecDepth 100000
set_option maxHeartbeats 4000000
/-! DX1: exceptions of the text whose __init__ says super().__init__(..) and keeps its arguments -/
namespace DX
open PySem PySem.W PySem.Calls PyProof.Rows PySem.HandSPX
section
variable {prog : Program} {w : World} {A : Around} {E : Value → Shared → Prop} {h : Heap} {g : Array GenState} {d : Drawn} {t : Nat} {os : OsState}
variable {nm q : Str} {C N : Addr} {bs bm : List Value} {hdct : Bool} {sn : List Str} {sub : List Value} {ab : Bool} {col : Option Bool} {dd : Option Addr} {k0 k1 k2 k3 k5 : Option Value}
/-- ValueError.__init__ bound to the exception at e, called -/
theorem call_mw {u e t0 : Addr} {rest : List Value} {Q : Value → Shared → Prop} (hC : h.get? C = some (excClassObj nm q C N bs bm hdct sn sub ab col dd k0 k1 k2 k3 k5 "ValueError.__new__"))
    (he : h.get? e = some (excO C t0)) (hu : h.get? u = some (kxs_mw "ValueError.__init__" e)) (hz : rest.length ≤ sizeLine)
    (hq : ∀ h' t1, (∀ b o, b ≠ e → h.get? b = some o → h'.get? b = some o) → h'.get? e = some (excO C t1) → Q .none ⟨h', g, d, t, os⟩) :
    wpAny (model prog w) A (call (.ref u) rest) Q E ⟨h, g, d, t, os⟩ := by
  refine wpAny_call (codeAny_of_tree ?_)
  show wpAny _ A.in1 (callAny (.ref u) ⟨rest, []⟩) _ _ _
  simp only [callAny]
  refine wpAny_bind (wpAny_load hu ?_)
  have c1 : (Value.type "method-wrapper" == Value.type "method" || Value.type "method-wrapper" == Value.type "builtin_function_or_method" || Value.type "method-wrapper" == Value.type "method-wrapper") = true := by decide
  simp only [kxs_mw, c1, if_true]
  refine KFB.if_so (by decide) ?_
  refine wpAny_bind (PySem.ESX.check_bound F.excBase_ValueError hC he rfl ?_)
  refine wpAny_bind (wpAny_pure (wpAny_pure ⟨Code.quiet_builtin _ (by decide +kernel), codeAny_builtin F.excBase_ValueError.initEntry ?_⟩))
  rw [Around.under_plainId F.excBase_ValueError.init.plain _]
  wp_walk
  refine hq _ h.objs.size (fun b o hb ho => ?_) ?_
  · rw [Heap.get?_update_other _ _ (Ne.symm hb)]; exact Heap.get?_push_of_some _ ho
  · rw [Heap.get?_update_self _ (Heap.get?_push_of_some _ he) rfl]; rfl
end
theorem lookup_none {α β : Type} [BEq α] [LawfulBEq α] {x : α} : ∀ {l : List (α × β)}, (∀ v, (x, v) ∉ l) → l.lookup x = none
  | [], _ => rfl
  | (y, v) :: l, h => by
    have n : x ≠ y := fun e => h v (by rw [e]; exact List.mem_cons_self ..)
    rw [List.lookup_cons, beq_false_of_ne n]
    exact lookup_none fun v hv => h v (List.mem_cons_of_mem _ hv)
theorem lookup_rev {x : Str} {u : Value} : ∀ {ps : List Str} {us : List Value} {i : Nat}, ps.Nodup → ps[i]? = some x → us[i]? = some u → (ps.zip us).reverse.lookup x = some u
  | [], _, _, _, h, _ => by simp at h
  | _ :: _, [], _, _, _, h => by simp at h
  | p :: ps, w :: us, 0, nd, h1, h2 => by
    simp at h1 h2; subst h1; subst h2
    have e : (ps.zip us).reverse.lookup p = none := lookup_none fun v hv => (List.nodup_cons.mp nd).1 (List.of_mem_zip (List.mem_reverse.mp hv)).1
    simp [List.zip_cons_cons, List.reverse_cons, List.lookup_append, e]
  | p :: ps, w :: us, i + 1, nd, h1, h2 => by
    have e := lookup_rev (i := i) (List.nodup_cons.mp nd).2 (by simpa using h1) (by simpa using h2)
    simp [List.zip_cons_cons, List.reverse_cons, List.lookup_append, e]
end DX
namespace DX
open PySem PySem.Spec L2 PyProof.Rows
/-- the scope of such an __init__ -/
structure XScope (N : List Str) (sc : Scope) : Prop where
  kind : sc.kind = .function
  co : sc.isCoroutine = false
  gen : sc.isGenerator = false
  nd : N.Nodup
  loc : ∀ x ∈ N, sc.names.lookup x = some .local
  nocell : ∀ y ∈ sc.names, y.2 ≠ .cell
  cls : sc.names.lookup ("__class__" : Str) = some .free
  sup : sc.names.lookup ("super" : Str) = some .globalImplicit
  free : ∀ y, sc.names.lookup y = some .free → y = ("__class__" : Str)
/-- an exception class C of the text, its __init__ at f -/
structure XIni (P : Program) (K : PySem.W.Frag) (C f : Addr) (fd : FuncData) (params : Arguments) (body : List Stmt) (scope : Scope) (dvs : List V) : Prop where
  ex : ∃ (oc : Value) (od : Option Addr) (qual : Str) (dV kV doc pm : Value) (an : Option Addr) (ct : Value) (osl : Array (Option Value)) (cda cc : Addr) (cl : Value) (cld : Option Addr) (csl : Array (Option Value)) (ccl : Value) (cdd : Option Addr) (vs : Array Value) (ccs : Array (Option Value)) (file : Str) (tf : Tok),
    fd = PySem.W.ksFn "__init__" qual params body scope dV kV doc pm an (.ref cda) ct cc ∧ K.lookup f = some ⟨oc, od, .func fd, osl⟩ ∧ PySem.W.codeIn K (.ref cda) qual = true ∧ K.lookup cda = some ⟨ccl, cdd, .fields vs, ccs⟩ ∧ vs[2]? = some (.str file tf) ∧ ((P.main.file : Str) == file) = true ∧
    K.lookup cc = some ⟨cl, cld, .cell (some (.ref C)), csl⟩ ∧ DflV K dV dvs
  O : OexC K C
  iC : PySem.W.findIn K (.ref C) "__init__" = some (some (.ref f))
  tI : PySem.W.typeIn K (.ref f) = some (.type "function")
  mr : PySem.W.mroIn K C (.ref C) = some true
  tp : PySem.W.nsIn K cStatics "thirdparty.any" = some none
  su : PySem.W.ks_superIn K C C "__init__" = some (some (.builtin "ValueError.__init__"))
  ve : PySem.W.subIn K (.ref C) (.type "ValueError") = some true
  top : (P.main.scope.names.lookup ("super" : Str)).isSome = false
  sup : PySem.W.nsIn K mainGlobals "super" = some none
def cxX (P : Program) (w : World) (K : PySem.W.Frag) (mg : Str → Option Value) (base : Heap) (N : List Str) (env : Env) (A : Around) (outer : List Env) (s : Shared) (H : Hp) (xe : Value → Shared → Prop) : Cx where
  prog := P
  w := w
  K := K
  mg := mg
  base := base
  A := A.deeper env
  N := N
  s_0 := s
  H_0 := H
  env := env
  outer := outer
  stack := env :: outer
  ex := []
  calm := true
  fn := fun _ => false
  pn := []
  xe := xe
/-- what the text's own form gives of the first statement -/
def SupOk (scope : Scope) (e : Expr) (es : List Expr) (p0 p1 p2 p3 p4 : Pos) : Prop := ∀ (f : Addr) (cda cc : Addr) (qual : Str) (L : Addr), interactive (PySem.W.ksEnv qual scope L f (.ref cda) cc) = false ∧ swapsWith (.Call (.Attribute (.Call (.Name "super" p0) [] [] p1) "__init__" p2) (e :: es) [] p3) none p4.line (PySem.W.ksEnv qual scope L f (.ref cda) cc) = pure false ∧
      ∃ pl : Sem Bool, eval (.Call (.Attribute (.Call (.Name "super" p0) [] [] p1) "__init__" p2) (e :: es) [] p3) (PySem.W.ksEnv qual scope L f (.ref cda) cc) = (do
        let ov ← attributeBase (.Call (.Name "super" p0) [] [] p1) "__init__" (PySem.W.ksEnv qual scope L f (.ref cda) cc) (eval (.Call (.Name "super" p0) [] [] p1) (PySem.W.ksEnv qual scope L f (.ref cda) cc))
        standAt p2.atName
        let (f0, first) ← holding [ov] (getMethod ov "__init__" pl)
        callWith p3 f0 first (backTo p3 (starEach (e :: es) (PySem.W.ksEnv qual scope L f (.ref cda) cc))) [])
theorem fn_x {CX : CXT} {P : Program} {w : World} {K : PySem.W.Frag} {mg : Str → Option Value} {base : Heap} {k : Nat} {C f : Addr} {fd : FuncData} {params : Arguments} {scope : Scope} {dvs : List V} {N0 : List Str} {e : Expr} {es : List Expr} {rest : List Stmt} {p0 p1 p2 p3 p4 : Pos} {ar : Arg} {sp : Sp}
    (T : XIni P K C f fd params (.Expr (.Call (.Attribute (.Call (.Name "super" p0) [] [] p1) "__init__" p2) (e :: es) [] p3) p4 :: rest) scope dvs) (S : XScope ("self" :: N0) scope) (hp : (params.posonlyargs ++ params.args).head? = some ar) (har : ar.arg = "self")
    (len : ∀ vs H Q E, sp vs H Q E → vs.length = N0.length + 1)
    (hb : ∀ (env : Env) (A : Around) (outer : List Env) (s : Shared) (H : Hp) (xe : Value → Shared → Prop) (vs : List V) (Q : VK) (E : XK), env.scope = scope → (∀ x y : Str, env.kindOf x = scope.names.lookup x) → sp vs H Q E →
      ∃ a ws ta tr, vs = .ref a :: ws ∧ H a = some (exo a C none) ∧ (starEach (e :: es) env = (false, eval e env) :: starEach es env) ∧ (backTo p3 (starEach (e :: es) env)).any (·.1) = false ∧ PA (cxX P w K mg base ("self" :: N0) env A outer s H xe) (e :: es) ta ∧ PSs (cxX P w K mg base ("self" :: N0) env A outer s H xe) rest tr ∧
        ta (start ("self" :: N0) vs) H fun us H1 => us.length ≤ 1000 ∧ H1 = H ∧ tr { nx := fun _ H' => Q .non H', rt := Q } (start ("self" :: N0) vs) H)
    (hi : SupOk scope e es p0 p1 p2 p3 p4) :
    FnOk P w K mg base CX (k + 1) f fd ("self" :: N0) sp := by
  refine ⟨fun vs H Q E h => len _ _ _ _ h, fun A outer s H args us vs Q E hr e0 hbd r hsp => ?_⟩
  obtain ⟨oc, od, qual, dV, kV, doc, pm, an, ct, osl, cda, cc, cl, cld, csl, ccl, cdd, xs, ccs, file, tf, rfl, lk, hcd, lcd, hxs, hfile, lcc, _⟩ := T.ex
  have KX : K.In s.heap := e0.mod.kin.keeps fun b o e => (e0.bs b o e).1
  have lim : s.heap.NoLimit := e0.mod.nolimit.keeps fun b o e => (e0.bs b o e).1
  have hl := len _ _ _ _ hsp
  refine PySem.ks_codeAny_call_defAt hr.depth (KX _ _ lk) rfl lim (PySem.W.codeRec_of KX hcd) rfl hbd S.nocell (fun ⟨n, v⟩ hy => S.loc n (List.of_mem_zip hy).1) (fun h₀ hns hk => ?_) S.co S.gen S.kind
  obtain ⟨a, ws, ta, tr, rfl, ea, hse, hpl, hA, hR, hq⟩ := hb (PySem.W.ksEnv qual scope s.heap.objs.size f (.ref cda) cc) A outer s H (fun e s' => wpAny (model P w) (A.deeper (PySem.W.ksEnv qual scope s.heap.objs.size f (.ref cda) cc)) (leaving (PySem.W.ksEnv qual scope s.heap.objs.size f (.ref cda) cc) e) (fun _ s'' => CX outer H s E e s'') (fun e' s'' => CX outer H s E e' s'') s') _ Q E rfl (fun _ _ => rfl) hsp
  have I : L2.Inv (cxX P w K mg base ("self" :: N0) (PySem.W.ksEnv qual scope s.heap.objs.size f (.ref cda) cc) A outer s H (fun e s' => wpAny (model P w) (A.deeper (PySem.W.ksEnv qual scope s.heap.objs.size f (.ref cda) cc)) (leaving (PySem.W.ksEnv qual scope s.heap.objs.size f (.ref cda) cc) e) (fun _ s'' => CX outer H s E e s'') (fun e' s'' => CX outer H s E e' s'') s'))
      [] (start ("self" :: N0) (.ref a :: ws)) H { s with heap := h₀, toks := s.toks + ((("self" : Str) :: N0).zip us).length } := by
    have ckc : ∀ {x c}, ([("__class__", cc)] : List (Str × Addr)).lookup x = some c → x = "__class__" ∧ c = cc := fun {x c} z => by
      rw [List.lookup_cons] at z
      split at z
      · rename_i y; cases z; exact ⟨eq_of_beq y, rfl⟩
      · cases z
    have hcc := KX _ _ lcc
    refine ⟨⟨e0.mod, S.kind, rfl, rfl, Nat.le_refl _, fun y z c h1 h2 => ?_, fun y hy => ?_, fun y c h _ => Bool.noConfusion h, fun _ => hr.hd, Around.frames_deeper e0.frames, .inr ⟨rfl, rfl⟩, fun b z => absurd z List.not_mem_nil, e0.bs, e0.bsz, fun b _ _ z => absurd z List.not_mem_nil, fun b z => absurd z List.not_mem_nil, e0.funs, e0.frf⟩,
      rfl, e0.bare, Un.kept hk, ⟨_, hns, fun i y v h1 h2 h3 => ?_⟩, fun y c h => ?_, e0.hok.fresh (Nat.le_refl _), fun y c h => ?_, fun p hp => absurd hp List.not_mem_nil, e0.hok.kept hk, ?_⟩
    · exact (ckc h1).1.trans (ckc h2).1.symm
    · rcases hy with hy | hy
      · exact absurd rfl (S.nocell _ (PySem.mem_of_lookup hy))
      · rw [S.free y hy]; exact ⟨cc, rfl⟩
    · have hi : i < (V.ref a :: ws).length := by
        unfold L2.start at h2
        by_cases hi : i < (V.ref a :: ws).length
        · exact hi
        · rw [List.getElem?_append_right (by simpa using hi), List.getElem?_replicate] at h2
          split at h2 <;> cases h2
      have ha : (V.ref a :: ws)[i]? = some v := by
        unfold L2.start at h2
        rw [List.getElem?_append_left (by simpa using hi), List.getElem?_map] at h2
        cases e : (V.ref a :: ws)[i]? with
        | none => rw [e] at h2; cases h2
        | some a => rw [e] at h2; cases h2; rfl
      obtain ⟨u, hu, rv⟩ := r.get ha
      exact ⟨u, rv, .inl ⟨S.loc y (List.mem_of_getElem? h1), lookup_rev S.nd h1 hu⟩⟩
    · rw [(ckc h).2]; exact ⟨_, _, hk _ _ hcc, rfl⟩
    · rw [(ckc h).2]
      exact (e0.bs cc _ (e0.mod.kin _ _ lcc)).2
    · unfold L2.start
      show _ = (("self" : Str) :: N0).length
      rw [List.length_append, List.length_map, List.length_replicate, hl]
      simp
  have X1 : K.In h₀ := KX.keeps hk
  obtain ⟨nm, q, NN, bs, bm, sn, sub, ab, col, dd, k0, k1, k2, k3, k5, hC, hbm⟩ := T.O.cls
  have hcl : PySem.W.clsIn K C = some { name := nm, bases := bs, mro := .ref C :: bm, ns := NN, qualname := q, hasDict := true, slotNames := sn, subclasses := sub, abstract := ab, collection := col, hasDel := false } := by unfold PySem.W.clsIn; rw [hC] <;> rfl
  obtain ⟨t1, ho⟩ := exo_at I.hok ea
  have I0 : PySem.W.InstAt h₀ a _ C none := ⟨ho, rfl, rfl, trivial⟩
  obtain ⟨u0, hu0, ru0⟩ := r.get (i := 0) rfl
  obtain rfl : u0 = Value.ref a := ru0
  show _root_.PySem.wpAt (model P w) (A.deeper (PySem.W.ksEnv qual scope s.heap.objs.size f (.ref cda) cc)) (.func _ (PySem.W.ksEnv qual scope s.heap.objs.size f (.ref cda) cc)) (execs _ (PySem.W.ksEnv qual scope s.heap.objs.size f (.ref cda) cc)) _ _ _
  obtain ⟨hi1, hi2, pl, hi3⟩ := hi f cda cc qual s.heap.objs.size
  refine PySem.ks_wpAt_execs_cons (PySem.ks_wpAt_Expr_any (PySem.ks_wpAt_MethodCall (pl := pl) ?_ hi3) hi1 hi2)
  refine PySem.ks_wpAt_super_base (env := PySem.W.ksEnv qual scope s.heap.objs.size f (.ref cda) cc) S.sup S.cls (by decide) rfl (X1 _ _ lk) rfl hp rfl (X1 _ _ lcd) rfl hxs hfile T.top ?_
  obtain ⟨mb, hb1, hb2⟩ := I.mod.blt
  refine PySem.W.ks_loadName_global S.kind S.sup (PySem.Calls.loadGlobal_builtin (env := PySem.W.ksEnv qual scope s.heap.objs.size f (.ref cda) cc) (I.mod.glob.keeps I.bk) (PySem.W.mg_none_of e0.mod.kin e0.mod.glob T.sup) (hb1.keeps I.bk) ((hb2 _ (by decide +kernel)).trans PyProof.Rows.Boot.«super») ⟨rfl, ?_⟩)
  refine wpAny_loadName_free S.kind S.cls rfl ⟨_, X1 _ _ lcc, rfl⟩ ?_
  rw [har]
  refine wpAny_loadName_local S.kind (S.loc _ (List.mem_cons_self ..)) hns (lookup_rev (i := 0) S.nd rfl hu0) ?_
  refine PySem.ks_wpAny_isType_cls (X1 _ _ hC) rfl ⟨rfl, ?_⟩
  refine PySem.ks_wpAny_call_super (X1 _ _ hC) rfl I0.at_ I0.cls (fun c e => by cases e) (PySem.W.looks_mroIn X1 T.mr) (fun h1 e1 kk1 => ?_)
  have X2 : K.In h1 := X1.keeps kk1
  have I2 := I.kept (h' := h1) (t' := s.toks + ((("self" : Str) :: N0).zip us).length) kk1
  obtain ⟨t2, ho2⟩ := exo_at I2.hok ea
  have J0 : PySem.W.InstAt h1 a _ C none := ⟨ho2, rfl, rfl, trivial⟩
  have hsu := T.su
  unfold PySem.W.ks_superIn at hsu
  rw [hcl] at hsu
  refine PySem.W.kxs_getMethod PySem.W.kxs_ValueError e1 (PySem.W.looks_opaque X2 T.tp) (l₀ := .ref C :: bm) ?_ rfl X2 hsu (J0.type.andThen (PySem.W.looks_subIn X2 T.ve)) (PySem.W.ks_ne X2 J0 hcl) (by decide) ?_
  · exact fun A Q E s k q => wpAny_bind ((PySem.W.looks_clsIn X2 hcl) A _ E s k (wpAny_pure q))
  have I3 := I2.kept (h' := h1.push (PySem.W.kxs_mw "ValueError.__init__" a)) (t' := s.toks + ((("self" : Str) :: N0).zip us).length + 1) (fun b o e => Heap.get?_push_of_some _ e)
  have hn2 : H h1.objs.size = none := I2.hok.fresh (Nat.le_refl _)
  have hg3 : (h1.push (PySem.W.kxs_mw "ValueError.__init__" a)).get? h1.objs.size = some (PySem.W.kxs_mw "ValueError.__init__" a) := Heap.get?_push_at rfl rfl
  have I4 := I3.pins_of (pins' := [(h1.objs.size, PySem.W.kxs_mw "ValueError.__init__" a)]) fun p hp => by
    rw [List.mem_singleton] at hp
    subst hp
    exact ⟨hg3, hn2, Nat.ne_of_gt I2.lt, I2.nofs (Nat.le_refl _), fun v z => by cases z⟩
  refine PySem.W.kxs_callWith (i := "ValueError.__init__") (x := a) hpl ?_
  have q1 := hA.run p3 _ _ _ _ _ I4 hq
  have ev : wpAny (model P w) (A.deeper (PySem.W.ksEnv qual scope s.heap.objs.size f (.ref cda) cc)) (spliced (backTo p3 (starEach (e :: es) (PySem.W.ksEnv qual scope s.heap.objs.size f (.ref cda) cc)))) _ _ _ := q1
  rw [hse] at ev ⊢
  refine PySem.Calls.evalArgs_plain (thn ev fun vs5 s5 ⟨zs, H5, I5, r5, hz5, eH5, q5⟩ => ?_)
  subst eH5
  have hp5 := (I5.pin (h1.objs.size, PySem.W.kxs_mw "ValueError.__init__" a) (List.mem_append_right _ (List.mem_singleton.mpr rfl))).1
  obtain ⟨t5, ho5⟩ := exo_at I5.hok ea
  refine ⟨hp5, ?_⟩
  obtain ⟨hp6, g6, d6, tk6, os6⟩ := s5
  refine call_mw (I5.kIn _ _ hC) ho5 hp5 (by show vs5.length ≤ sizeLine; rw [← Paired.length r5, sizeLine_eq]; omega) fun h' t6 kk6 hx6 => ?_
  have J := (I5.pins_of (pins' := []) fun p hp => absurd hp List.not_mem_nil).write (t' := tk6) (x := a) (e := a) (o := exo a C none) (by rw [ea]; exact True.intro) (.inl rfl) kk6 ⟨_, hx6⟩ (exo_ok hx6)
  have eu : upd H5 a (exo a C none) = H5 := by
    funext b
    by_cases hb : b = a
    · rw [hb, upd_same, ea]
    · rw [upd_ne hb]
  rw [eu] at J
  refine wpAt_of_wpAny ?_
  have hrun := hR.run [] _ _ _ _ J q5
  refine wpAny_mono hrun (fun fl s' hs => ?_) fun e s' hs => hs
  cases fl with
  | ret u =>
    obtain ⟨v, σ', H', J, rv, q⟩ := hs
    exact ⟨v, H', J.os, J.bare, J.base, J.hok, rv, q⟩
  | next =>
    obtain ⟨σ', H', J, q⟩ := hs
    exact ⟨V.non, H', J.os, J.bare, J.base, J.hok, rfl, q⟩
  | brk =>
    obtain ⟨_, _, _, q⟩ := hs
    exact False.elim q
  | cont =>
    obtain ⟨_, _, _, q⟩ := hs
    exact False.elim q
/-- __init__(self, x=None): super().__init__(x), then self.x = x -/
abbrev xb1 (x : Str) (p0 p1 p2 p3 p4 p5 p6 p7 p8 p9 : Pos) : List Stmt := [.Expr (.Call (.Attribute (.Call (.Name "super" p0) [] [] p1) "__init__" p2) [.Name x p5] [] p3) p4, .Assign [.Attribute (.Name "self" p6) x p7] (.Name x p8) p9]
/-- .. of two -/
abbrev xb2 (x y : Str) (p0 p1 p2 p3 p4 p5 p6 p7 p8 p9 p10 p11 p12 p13 p14 : Pos) : List Stmt := [.Expr (.Call (.Attribute (.Call (.Name "super" p0) [] [] p1) "__init__" p2) [.Name x p5, .Name y p10] [] p3) p4, .Assign [.Attribute (.Name "self" p6) x p7] (.Name x p8) p9, .Assign [.Attribute (.Name "self" p11) y p12] (.Name y p13) p14]
def sp1 (C : Addr) (x : Str) : Sp := fun vs H Q E => ∃ a y, vs = [.ref a, y] ∧ H a = some (exo a C none) ∧ ∀ dx, H dx = none → dx ≠ a → Q .non (upd (upd H dx (exd dx [(x, y)])) a (exo a C (some dx)))
theorem fn_x1 {CX : CXT} {P : Program} {w : World} {K : PySem.W.Frag} {mg : Str → Option Value} {base : Heap} {k : Nat} {C f : Addr} {fd : FuncData} {params : Arguments} {scope : Scope} {dvs : List V} {x : Str} {p0 p1 p2 p3 p4 p5 p6 p7 p8 p9 : Pos} {ar : Arg}
    (T : XIni P K C f fd params (xb1 x p0 p1 p2 p3 p4 p5 p6 p7 p8 p9) scope dvs) (S : XScope ["self", x] scope) (hno : PySem.W.findIn K (.ref C) x = some none) (hdb : (x == ("__debug__" : Str)) = false) (hcd : (x == ("__classdict__" : Str)) = false) (hp : (params.posonlyargs ++ params.args).head? = some ar) (har : ar.arg = "self") (hi : SupOk scope (.Name x p5) [] p0 p1 p2 p3 p4) :
    FnOk P w K mg base CX (k + 1) f fd ["self", x] (sp1 C x) := by
  refine fn_x T S hp har (fun vs H Q E ⟨a, y, e, _⟩ => by rw [e]; rfl) (fun env A outer s H xe vs Q E he hk ⟨a, y, e, ea, q⟩ => ?_) hi
  subst e
  have vS : Vis env.scope ("self" : Str) := by rw [he]; exact .inl (S.loc _ (List.mem_cons_self ..))
  have vX : Vis env.scope x := by rw [he]; exact .inl (S.loc _ (List.mem_cons_of_mem _ (List.mem_cons_self ..)))
  have hX : ∀ p, PE (cxX P w K mg base ["self", x] env A outer s H xe) (.Name x p) _ := fun p => pe_var (i := 1) rfl vX hdb hcd
  have hS : ∀ p, PE (cxX P w K mg base ["self", x] env A outer s H xe) (.Name "self" p) _ := fun p => pe_var (i := 0) rfl vS (by decide) (by decide)
  refine ⟨a, [y], _, _, rfl, ea, rfl, rfl, pa_cons (hX _) pa_nil rfl, pss_cons (ps_ost (hS _) (hX _) rfl) pss_nil, ?_⟩
  refine ⟨y, rfl, ?_, rfl, y, rfl, .ref a, rfl, a, C, rfl, T.O, hno, .inl ⟨ea, fun dx h1 h2 => q dx h1 h2⟩⟩
  simp
def sp2 (C : Addr) (x1 x2 : Str) : Sp := fun vs H Q E => ∃ a y1 y2, vs = [.ref a, y1, y2] ∧ H a = some (exo a C none) ∧ ∀ dx, H dx = none → dx ≠ a → Q .non (upd (upd H dx (exd dx [(x2, y2), (x1, y1)])) a (exo a C (some dx)))
theorem fn_x2 {CX : CXT} {P : Program} {w : World} {K : PySem.W.Frag} {mg : Str → Option Value} {base : Heap} {k : Nat} {C f : Addr} {fd : FuncData} {params : Arguments} {scope : Scope} {dvs : List V} {x1 x2 : Str} {p0 p1 p2 p3 p4 p5 p6 p7 p8 p9 p10 p11 p12 p13 p14 : Pos} {ar : Arg}
    (T : XIni P K C f fd params (xb2 x1 x2 p0 p1 p2 p3 p4 p5 p6 p7 p8 p9 p10 p11 p12 p13 p14) scope dvs) (S : XScope ["self", x1, x2] scope) (hno1 : PySem.W.findIn K (.ref C) x1 = some none) (hno2 : PySem.W.findIn K (.ref C) x2 = some none)
    (hdb1 : (x1 == ("__debug__" : Str)) = false) (hcd1 : (x1 == ("__classdict__" : Str)) = false) (hdb2 : (x2 == ("__debug__" : Str)) = false) (hcd2 : (x2 == ("__classdict__" : Str)) = false) (hp : (params.posonlyargs ++ params.args).head? = some ar) (har : ar.arg = "self") (hi : SupOk scope (.Name x1 p5) [.Name x2 p10] p0 p1 p2 p3 p4) :
    FnOk P w K mg base CX (k + 1) f fd ["self", x1, x2] (sp2 C x1 x2) := by
  refine fn_x T S hp har (fun vs H Q E ⟨a, y1, y2, e, _⟩ => by rw [e]; rfl) (fun env A outer s H xe vs Q E he hk ⟨a, y1, y2, e, ea, q⟩ => ?_) hi
  subst e
  have vS : Vis env.scope ("self" : Str) := by rw [he]; exact .inl (S.loc _ (List.mem_cons_self ..))
  have v1 : Vis env.scope x1 := by rw [he]; exact .inl (S.loc _ (List.mem_cons_of_mem _ (List.mem_cons_self ..)))
  have v2 : Vis env.scope x2 := by rw [he]; exact .inl (S.loc _ (List.mem_cons_of_mem _ (List.mem_cons_of_mem _ (List.mem_cons_self ..))))
  have h1 : ∀ p, PE (cxX P w K mg base ["self", x1, x2] env A outer s H xe) (.Name x1 p) _ := fun p => pe_var (i := 1) rfl v1 hdb1 hcd1
  have h2 : ∀ p, PE (cxX P w K mg base ["self", x1, x2] env A outer s H xe) (.Name x2 p) _ := fun p => pe_var (i := 2) rfl v2 hdb2 hcd2
  have hS : ∀ p, PE (cxX P w K mg base ["self", x1, x2] env A outer s H xe) (.Name "self" p) _ := fun p => pe_var (i := 0) rfl vS (by decide) (by decide)
  refine ⟨a, [y1, y2], _, _, rfl, ea, rfl, rfl, pa_cons (h1 _) (pa_cons (h2 _) pa_nil rfl) rfl, pss_cons (ps_ost (hS _) (h1 _) rfl) (pss_cons (ps_ost (hS _) (h2 _) rfl) pss_nil), ?_⟩
  refine ⟨y1, rfl, y2, rfl, ?_, rfl, y1, rfl, .ref a, rfl, a, C, rfl, T.O, hno1, .inl ⟨ea, fun dx n1 n2 => ?_⟩⟩
  · simp
  refine ⟨y2, rfl, .ref a, rfl, a, C, rfl, T.O, hno2, .inr ⟨dx, [(x1, y1)], upd_same, by rw [upd_ne n2, upd_same], by simp, ?_⟩⟩
  have e : upd (upd (upd H dx (exd dx [(x1, y1)])) a (exo a C (some dx))) dx (exd dx [(x2, y2), (x1, y1)]) = upd (upd H dx (exd dx [(x2, y2), (x1, y1)])) a (exo a C (some dx)) := by
    funext b
    by_cases hb : b = dx
    · subst hb; rw [upd_same, upd_ne n2, upd_same]
    · rw [upd_ne hb]
      by_cases hba : b = a
      · subst hba; rw [upd_same, upd_same]
      · rw [upd_ne hba, upd_ne hba, upd_ne hb, upd_ne hb]
  rw [e]
  exact q dx n1 n2
end DX
set_option Elab.async false
set_option linter.all false
set_option maxRecDepth 100000
set_option maxHeartbeats 4000000
/-! DX2: several clauses 'except C as e'; raise and try of the deep layer -/
namespace DX
open PySem PySem.Spec L2 PyProof.Rows
abbrev Sut := Addr → Value → Option Addr → TS
/-- the ends of a suite: the clause's name goes -/
def outE (i : Nat) (D : Ends) : Ends := { nx := fun σ H => D.nx (σ.set i none) H, rt := D.rt, bk := fun σ H => D.bk (σ.set i none) H, ct := fun σ H => D.ct (σ.set i none) H }
def wAsm (K : PySem.W.Frag) (i : Nat) (Wo : WX) (D : Ends) : List (Value × Sut) → WX
  | [] => Wo
  | (c, ts) :: r => fun cls d σ H => ∃ b, PySem.W.exmOne K cls c = some b ∧ (b = true → ∀ a, H a = none → ts a cls d (outE i D) (σ.set i (some (.ref a))) H) ∧ (b = false → wAsm K i Wo D r cls d σ H)
inductive HdsA (X : Cx) (n : Str) : List ExceptHandler → List (Value × Sut) → Prop
  | nil : HdsA X n [] []
  | cons {x : Str} {c : Value} {ts : Sut} {b0 : Stmt} {suite : List Stmt} {np pos' : Pos} {hds : List ExceptHandler} {l : List (Value × Sut)} (hc : Names X x c)
      (hsu : ∀ (a : Addr) (oe : Obj) (cls : Value) (d : Option Addr) (pn : List (Addr × Obj)), Zc cls d oe → (∃ vs, oe.data = .fields vs) → PSs (X.suite a ((a, oe) :: pn)) (b0 :: suite) (ts a cls d)) (r : HdsA X n hds l) :
      HdsA X n (.ExceptHandler (some (.Name x np)) (some n) (b0 :: suite) pos' :: hds) ((c, ts) :: l)
theorem ps_try_asm {X : Cx} {n : Str} {i : Nat} {body : List Stmt} {h0 : ExceptHandler} {hds : List ExceptHandler} {l : List (Value × Sut)} {pos : Pos} {tb : WX → TS} {Wo : WX}
    (hs : X.stack = X.env :: X.outer) (hf : X.env.frame = some X.env.locals) (hN : X.N.Nodup) (hi : X.N[i]? = some n) (hln : X.env.kindOf n = some .local) (tk : Takes X Wo)
    (hb : ∀ (W : WX) (pn : List (Addr × Obj)) (xe : Value → Shared → Prop), Takes (X.tr pn xe) W → PassesOwn (model X.prog X.w) X.A X.env xe → PSs (X.tr pn xe) body (tb W))
    (hh : HdsA X n (h0 :: hds) l) : PS X (.Try body (h0 :: hds) [] [] pos) (fun D σ H => tb (wAsm X.K i Wo D l) D σ H) := by
  refine ⟨fun pins s σ H D I h => wpAny_Try_except ?_⟩
  have ok := I.ok
  have hfr : X.A.frames = some (X.env :: X.outer) := by rw [ok.frames, hs]
  have hloc : Loc X.env.scope n := .inl hln
  refine wpAny_mono ((hb (wAsm X.K i Wo D l) (X.pn ++ pins) (fun e z1 => wpAny (model X.prog X.w) X.A (noteFrame e X.env) (fun _ z2 => wpAny (model X.prog X.w) X.A (setFlight e none) (fun _ z3 =>
    wpAny (model X.prog X.w) X.A (handleBy e X.env (h0 :: hds)) (SP X pins D) X.xe z3) X.xe z2) X.xe z1) (fun u z xx => ?_) PassesOwn.looking).run [] s σ H D (I.toTry _) h) (fun f z1 hsp => ?_) (fun e z1 he => he)
  · obtain ⟨a, B, sI, pins', σ', H', cls, d, rfl, J', nb, up, sky, na, os, ag, w⟩ := xx
    have J : L2.Inv X pins σ' H' sI := J'.ofTry ok
    have sky' : Sky B (X.env :: X.outer) a (Zc cls d) X.env.locals z.heap := by rw [← hs]; exact sky
    show wpAny (model X.prog X.w) X.A (noteFrame (.ref a) X.env) _ _ _
    refine Sky.land Zc.steady hfr hf sky' fun h3 fl3 up3 => ?_
    have J3 : L2.Inv X pins σ' H' { z with heap := h3 } := J.landed nb fl3.1 (up.trans up3) os ag
    obtain ⟨oe3, vs3, he3, hz3, hd3⟩ := fl3.there
    have nfr : a ∉ frs (X.env :: X.outer) := fun hm => by
      obtain ⟨_, o', e', hnf⟩ := fl3.2.2.1.mem hm
      rw [he3] at e'; cases e'
      exact hnf _ hd3
    have nL : a ≠ X.env.locals := fun z => nfr (List.mem_filterMap.mpr ⟨X.env, List.mem_cons_self, by rw [hf, z]⟩)
    have nF : a ∉ X.fs := fun hm => by
      obtain ⟨e, he, q⟩ := List.mem_filterMap.mp hm
      exact nfr (List.mem_filterMap.mpr ⟨e, List.mem_cons_of_mem _ he, q⟩)
    have S3 := J3.suite he3 hd3 na nL nF
    have go : ∀ {hds' : List ExceptHandler} {l' : List (Value × Sut)}, HdsA X n hds' l' → wAsm X.K i Wo D l' cls d σ' H' → wpAny (model X.prog X.w) X.A (handleBy (.ref a) X.env hds') (SP X pins D) X.xe { z with heap := h3 } := by
      intro hds' l' hk
      induction hk with
      | nil =>
        intro w
        refine wpAny_handleBy_nil ?_
        obtain ⟨k1, k2, k3, oe, vs, T, oT, ts', he, hz, hd, h1, hr⟩ := id fl3
        unfold PySem.passOn
        refine wpAny_bind (wpAny_field he hd h1 ?_)
        rw [if_neg (show ¬ ((Value.ref T == Value.none) = true) from by simp)]
        have fin : wpAny (model X.prog X.w) X.A (setFlight (.ref a) X.env.frame) (fun _ z4 => wpAny (model X.prog X.w) X.A (throw (.ref a) : Sem Flow) (SP X pins D) X.xe z4) X.xe { z with heap := h3 } := by
          rw [hf]
          refine HandSPX.setFlight_upZ fl3 fun h4 hh4 up4 => wpAny_throw (tk _ _ ⟨a, B, sI, pins, σ', H', cls, d, rfl, J, nb, (up.trans up3).trans up4, .inr (.inr ?_), na, os, ag, w⟩)
          rw [hs]; exact hh4
        first
          | exact wpAny_bind (wpAny_pure (wpAny_bind fin))
          | exact wpAny_bind fin
      | @cons x c ts b0 suite np pos' hds2 l2 hc hsu r ih =>
        intro w
        obtain ⟨b, hb1, hyes, hno⟩ := w
        refine wpAny_handleBy_cons (codeAny_handlers_test ?_) (by intro q; cases q)
        have LT : PySem.W.Looks (model X.prog X.w) h3 (typeOf (.ref a)) cls := fun A Q E y k q => wpAny_typeOf_ref (k _ _ he3) (by rw [hz3.1]; exact q)
        have LM := PySem.W.exm_one (M := model X.prog X.w) (J3.kIn) LT hb1
        have test : ∀ {Q : Value → Shared → Prop} {E : Value → Shared → Prop}, Q c { z with heap := h3 } → wpAny (model X.prog X.w) (X.A.mark (some (.ref a))) (eval (.Name x np) X.env) Q E { z with heap := h3 } := fun {Q E} q => by
          obtain ⟨hg, hdbg, hm | ⟨hm, hv, hnn⟩⟩ := hc
          · exact ld_glob (X := X.suite a ((a, oe3) :: (X.pn ++ pins))) S3 hg hm q hdbg
          · exact ld_blt (X := X.suite a ((a, oe3) :: (X.pn ++ pins))) S3 hg hm hv q hnn hdbg
        refine test (LM.here ?_)
        cases b with
        | true =>
          refine codeAny_handlers_suite_as (HandSPX.lands_againZ fl3 fun h4 fl4 up4 => ?_)
          have J4 : L2.Inv X pins σ' H' { z with heap := h4 } := J.landed nb fl4.1 ((up.trans up3).trans up4) os ag
          obtain ⟨oe4, vs4, he4, hz4, hd4⟩ := fl4.there
          have S4 := J4.suite he4 hd4 na nL nF
          refine store_ok (X := X.suite a ((a, oe4) :: (X.pn ++ pins))) (v := .ref a) S4 hN hi hloc rfl (fun z5 S5 => ?_) (.inr hln)
          refine wpAny_mono ((hsu a oe4 cls d (X.pn ++ pins) hz4 ⟨_, hd4⟩).run [] z5 _ H' _ S5 (hyes rfl a na)) (fun f z6 hsp => ?_) (fun _ _ z => False.elim z)
          have bye : ∀ {σ6 : L2.St} {H6 : Hp} {Q : Shared → Prop}, L2.Inv (X.suite a ((a, oe4) :: (X.pn ++ pins))) [] σ6 H6 z6 → (∀ z7, L2.Inv X pins (σ6.set i none) H6 z7 → Q z7) →
              wpAny (model X.prog X.w) X.A (do bindName X.env n .none; unbindBehindTheSuite X.env n pos') (fun _ z7 => Q z7) X.xe z6 := fun {σ6 H6 Q} S6 hq => gone_ok (S6.unsuite ok) hN hi hln hq
          cases f with
          | ret u => obtain ⟨v6, σ6, H6, S6, r6, q6⟩ := hsp; exact bye S6 fun z7 J7 => ⟨_, _, _, J7, r6, q6⟩
          | next => obtain ⟨σ6, H6, S6, q6⟩ := hsp; exact bye S6 fun z7 J7 => ⟨_, _, J7, q6⟩
          | brk => obtain ⟨σ6, H6, S6, q6⟩ := hsp; exact bye S6 fun z7 J7 => ⟨_, _, J7, q6⟩
          | cont => obtain ⟨σ6, H6, S6, q6⟩ := hsp; exact bye S6 fun z7 J7 => ⟨_, _, J7, q6⟩
        | false =>
          show wpAny _ X.A (handleBy (.ref a) X.env hds2) _ _ _
          exact ih (hno rfl)
    exact go hh w
  · cases f with
    | ret u => obtain ⟨v, σ', H', J', r, q⟩ := hsp; exact ⟨v, σ', H', J'.ofTry ok, r, q⟩
    | next => obtain ⟨σ', H', J', q⟩ := hsp; exact wpAny_execs_nil ⟨σ', H', J'.ofTry ok, q⟩
    | brk => obtain ⟨σ', H', J', q⟩ := hsp; exact ⟨σ', H', J'.ofTry ok, q⟩
    | cont => obtain ⟨σ', H', J', q⟩ := hsp; exact ⟨σ', H', J'.ofTry ok, q⟩
end DX
namespace DL
open PySem PySem.Spec L2 DX
/-! ### raise -/
/-- x(e, ..) makes an exception of class C with the fields g -/
structure DExc (P : Program) (w : World) (K : PySem.W.Frag) (mg : Str → Option Value) (base : Heap) (k : Nat) (x : Str) (C : Addr) (g : List D → Option (List (Str × D))) : Prop where
  gl : mg x = some (.ref C)
  O : OexC K C
  ex : ∃ (f : Addr) (fd : FuncData) (ps : List Str) (sp : Sp), PySem.W.findIn K (.ref C) "__init__" = some (some (.ref f)) ∧ PySem.W.typeIn K (.ref f) = some (.type "function") ∧ FnOk P w K mg base (L2.CX P w) k f fd ps sp ∧ Binds K fd ps [] ∧
    ∀ ds fs, g ds = some fs → ds.length ≤ 1000 ∧ ∀ F vs, RepL K F ds vs → ∃ us, RepF K F fs us ∧ ∀ a H Q E, H a = some (exo a C none) → (∀ dx, H dx = none → dx ≠ a → Q .non (upd (upd H dx (exd dx us)) a (exo a C (some dx)))) → sp (.ref a :: vs) H Q E
section
variable {X : Cx} {F0 : Hp} {W : DW} {pos p apos : Pos} {k : Nat} {e o : Expr} {es : List Expr} {t : DTA} {x : Str} {C : Addr} {g : List D → Option (List (Str × D))}
@[simp] def dRaise (C : Addr) (g : List D → Option (List (Str × D))) (W : DW) (t : DTA) : DTS := fun _ δ M => t δ M fun ds M1 => ∃ fs, g ds = some fs ∧ W C fs δ M1
theorem ds_raise (c : Ctx X F0 W) (dc : DExc X.prog X.w X.K X.mg X.base k x C g) (hr : Room (k + 1) X.A) (ha : DPA X F0 (e :: es) t) (hg : Gl X x := by rfl) (hdb : (x == ("__debug__" : Str)) = false := by decide)
    (he : starEach (e :: es) X.env = (false, eval e X.env) :: starEach es X.env := by rfl) (hpl : (backTo pos (starEach es X.env)).any (·.1) = false := by rfl) :
    DPS X F0 (.Raise (some (.Call (.Name x p) (e :: es) [] pos)) none apos) (dRaise C g W t) := by
  obtain ⟨f, fd, ps, sp, iC, tI, F1, hb, lk⟩ := dc.ex
  refine PS.imp (ps_raise c.calm c.tk (pmk_oex dc.O iC tI F1 hr hb .nil (passes_call c.tk fun _ _ _ _ h => h.elim) hg dc.gl ha hdb he hpl)) fun E σ H ⟨F, δ, M, DD, e0, r, s, h, m⟩ => ?_
  refine ⟨F, δ, M, _, e0, r, s, h, fun ds M1 F1 H1 vs q e1 r1 rs => ?_⟩
  obtain ⟨fs, eg, q⟩ := q
  obtain ⟨hl, lk⟩ := lk ds fs eg
  refine ⟨by rw [← rs.length]; exact hl, fun a na => ?_⟩
  obtain ⟨us, ru, hsp⟩ := lk F1 vs rs
  rw [List.append_nil]
  refine hsp a _ _ _ upd_same fun dx n1 n2 => ⟨rfl, dx, us, upd_same, by rw [upd_ne n2, upd_same], by rw [upd_ne n2] at n1; exact n1, ?_⟩
  rw [upd_ne n2] at n1
  have eH : upd (del (upd (upd (upd H1 a (exo a C none)) dx (exd dx us)) a (exo a C (some dx))) a) dx (.xd us) = upd H1 dx (.xd us) := by
    funext b
    by_cases hbd : b = dx
    · subst hbd; rw [upd_same, upd_same]
    · rw [upd_ne hbd, upd_ne hbd]
      by_cases hba : b = a
      · subst hba; rw [del_same, na]
      · rw [del_ne hba, upd_ne hba, upd_ne hbd, upd_ne hba]
  rw [eH]
  exact ⟨C, fs, δ, M1, F1, dx, us, rfl, rfl, e0.trans e1, r1.junk n1, s.mono e1, upd_same, ru, q⟩
end
/-! ### try -/
abbrev DSut := Addr → Addr → List (Str × D) → DTS
@[simp] def outD (i : Nat) (D : DEnds) : DEnds := { nx := fun δ M => D.nx (δ.set i none) M, rt := D.rt, bk := fun δ M => D.bk (δ.set i none) M, ct := fun δ M => D.ct (δ.set i none) M }
/-- the fields of an exception of class C may be read -/
def XfA (K : PySem.W.Frag) (C : Addr) (fs : List (Str × D)) (nf : List Str) : Prop := XfC K C ∧ ∀ f ∈ nf, (fs.lookup f).isSome = true ∧ PySem.W.findIn K (.ref C) f = some none
def wTry (K : PySem.W.Frag) (i : Nat) (W : DW) (D : DEnds) : List (Value × List Str × DSut) → DW
  | [] => W
  | (c, nf, ts) :: r => fun C fs δ M => ∃ b, PySem.W.exmOne K (.ref C) c = some b ∧ (b = true → XfA K C fs nf ∧ ∀ a, M a = none → ts a C fs (outD i D) (δ.set i (some (.ref a))) M) ∧ (b = false → wTry K i W D r C fs δ M)
/-- within a suite: the exception at a, of class C, with the fields fs -/
structure Sui (X : Cx) (F1 : Hp) (a : Addr) (oe : Obj) (C : Addr) (fs : List (Str × D)) (nf : List Str) : Prop where
  xf : XfA X.K C fs nf
  ex : ∃ dx vs, Zc (.ref C) (some dx) oe ∧ (∃ vs, oe.data = .fields vs) ∧ F1 dx = some (.xd vs) ∧ RepF X.K F1 fs vs
inductive DHds (X : Cx) (n : Str) : List ExceptHandler → List (Value × List Str × DSut) → Prop
  | nil : DHds X n [] []
  | cons {x : Str} {c : Value} {nf : List Str} {ts : DSut} {b0 : Stmt} {suite : List Stmt} {np pos' : Pos} {hds : List ExceptHandler} {l : List (Value × List Str × DSut)} (hc : Names X x c)
      (hsu : ∀ (F1 : Hp) (a : Addr) (oe : Obj) (C : Addr) (fs : List (Str × D)) (pn : List (Addr × Obj)), Sui X F1 a oe C fs nf → DPSs (X.suite a ((a, oe) :: pn)) F1 (b0 :: suite) (ts a C fs)) (r : DHds X n hds l) :
      DHds X n (.ExceptHandler (some (.Name x np)) (some n) (b0 :: suite) pos' :: hds) ((c, nf, ts) :: l)
theorem PSs.imp' {X : Cx} {e : List Stmt} {t t' : TS} (h : PSs X e t) (i : ∀ D σ H, t' D σ H → t D σ H) : PSs X e t' := ⟨fun pins s σ H D I q => h.run pins s σ H D I (i _ _ _ q)⟩
def lowSut (K : PySem.W.Frag) (nf : List Str) (ts : DSut) : Sut := fun a cls d E σ H => ∃ F1 C fs dx vs, cls = .ref C ∧ d = some dx ∧ F1 dx = some (.xd vs) ∧ RepF K F1 fs vs ∧ XfA K C fs nf ∧ liftS K F1 (ts a C fs) E σ H
theorem DHds.low {X : Cx} {n : Str} {hds : List ExceptHandler} {l : List (Value × List Str × DSut)} (h : DHds X n hds l) : HdsA X n hds (l.map fun q => (q.1, lowSut X.K q.2.1 q.2.2)) := by
  induction h with
  | nil => exact .nil
  | cons hc hsu r ih =>
    refine .cons hc (fun a oe cls d pn hz hf => ⟨fun pins s σ H E I q => ?_⟩) ih
    obtain ⟨F1, C, fs, dx, vs, rfl, rfl, hF, rf, hxf, q⟩ := q
    exact (hsu F1 a oe C fs pn ⟨hxf, dx, vs, hz, hf, hF, rf⟩).run pins s σ H E I q
theorem Slots.set' {K : PySem.W.Frag} {F : Hp} : ∀ {δ : DSt} {σ : St} {i : Nat} {d : D} {v : V}, Slots K F δ σ → Rep K F d v → Slots K F (δ.set i (some d)) (σ.set i (some v))
  | [], [], i, d, v, h, r => h
  | _ :: _, _ :: _, 0, d, v, .cons h1 h2, r => .cons r h2
  | _ :: _, _ :: _, i + 1, d, v, .cons h1 h2, r => .cons h1 (Slots.set' h2 r)
theorem Slots.unset {K : PySem.W.Frag} {F : Hp} : ∀ {δ : DSt} {σ : St} {i : Nat}, Slots K F δ σ → Slots K F (δ.set i none) (σ.set i none)
  | [], [], i, h => h
  | _ :: _, _ :: _, 0, .cons h1 h2 => .cons True.intro h2
  | _ :: _, _ :: _, i + 1, .cons h1 h2 => .cons h1 (Slots.unset h2)
theorem wTry_low {K : PySem.W.Frag} {i : Nat} {W : DW} {Wo : WX} {F0 F : Hp} {DD : DEnds} {E : Ends} (e0 : Same F0 F) (m : MeetsS K F DD E) (hw : ∀ cls d σ H, lowW K F0 W cls d σ H → Wo cls d σ H) {C : Addr} {fs : List (Str × D)} {δ : DSt} {M : DM} {F1 H : Hp} {dx : Addr} {vs : List (Str × V)} {σ : St}
    (e1 : Same F F1) (r : Rel K F1 M H) (s : Slots K F1 δ σ) (hx : H dx = some (.xd vs)) (rf : RepF K F1 fs vs) : ∀ {l : List (Value × List Str × DSut)}, wTry K i W DD l C fs δ M → wAsm K i Wo E (l.map fun q => (q.1, lowSut K q.2.1 q.2.2)) (.ref C) (some dx) σ H
  | [], h => hw _ _ _ _ ⟨C, fs, δ, M, F1, dx, vs, rfl, rfl, e0.trans e1, r, s, hx, rf, h⟩
  | (c, nf, ts) :: l, h => by
    obtain ⟨b, hb, hy, hn⟩ := h
    refine ⟨b, hb, fun eb a na => ?_, fun eb => wTry_low e0 m hw e1 r s hx rf (hn eb)⟩
    have hF1 : F1 dx = none ∨ F1 dx = some (.xd vs) := by
      cases z : F1 dx with
      | none => exact .inl rfl
      | some o =>
        have := r.sub dx o z
        rw [hx] at this; exact .inr this.symm
    have e2 : Same F1 (upd F1 dx (.xd vs)) := fun b o e => by
      by_cases hbd : b = dx
      · subst hbd
        rcases hF1 with z | z
        · rw [z] at e; cases e
        · rw [z] at e; cases e; exact upd_same
      · rw [upd_ne hbd]; exact e
    have r2 : Rel K (upd F1 dx (.xd vs)) M H := by
      refine ⟨fun b o e => ?_, fun p mo e => ?_⟩
      · by_cases hbd : b = dx
        · subst hbd; rw [upd_same] at e; cases e; exact hx
        · rw [upd_ne hbd] at e; exact r.sub b o e
      · obtain ⟨h1, o, h2, h3⟩ := r.mr p mo e
        have hpd : p ≠ dx := fun z => by
          subst z
          rw [hx] at h2; cases h2
          cases mo <;> unfold RepM at h3 <;> simp at h3
        exact ⟨by rw [upd_ne hpd]; exact h1, o, h2, h3.mono e2⟩
    obtain ⟨hxf, q⟩ := hy eb
    have q := q a (r.free na)
    refine ⟨upd F1 dx (.xd vs), C, fs, dx, vs, rfl, rfl, upd_same, rf.mono e2, hxf, upd F1 dx (.xd vs), _, M, outD i DD, Same.refl _, r2, Slots.set' (s.mono e2) (by unfold Rep; rfl), q, ?_⟩
    have m2 := m.mono (e1.trans e2)
    exact ⟨fun δ M F' σ H q e r s => m2.nx _ M F' _ H q e r s.unset, m2.rt, fun δ M F' σ H q e r s => m2.bk _ M F' _ H q e r s.unset, fun δ M F' σ H q e r s => m2.ct _ M F' _ H q e r s.unset⟩
@[simp] def dTry (K : PySem.W.Frag) (i : Nat) (W : DW) (l : List (Value × List Str × DSut)) (tb : DW → DTS) : DTS := fun D δ M => tb (wTry K i W D l) D δ M
theorem ds_try {X : Cx} {F0 : Hp} {W : DW} {n : Str} {body : List Stmt} {h0 : ExceptHandler} {hds : List ExceptHandler} {l : List (Value × List Str × DSut)} {pos : Pos} {tb : DW → DTS} (c : Ctx X F0 W) (i : Nat)
    (hb : ∀ (F1 : Hp) (W1 : DW) (pn : List (Addr × Obj)) (xe : Value → Shared → Prop), Ctx (X.tr pn xe) F1 W1 → DPSs (X.tr pn xe) F1 body (tb W1)) (hh : DHds X n (h0 :: hds) l)
    (hs : X.stack = X.env :: X.outer := by rfl) (hf : X.env.frame = some X.env.locals := by rfl) (hi : X.N[i]? = some n := by rfl) (hln : X.env.kindOf n = some .local := by rfl) : DPS X F0 (.Try body (h0 :: hds) [] [] pos) (dTry X.K i W l tb) := by
  refine PS.imp (ps_try_asm (Wo := lowW X.K F0 W) (tb := fun Wx E σ H => ∃ F1 W1, Same F0 F1 ∧ (∀ cls d σ H, lowW X.K F1 W1 cls d σ H → Wx cls d σ H) ∧ liftS X.K F1 (tb W1) E σ H) hs hf c.nd hi hln c.tk (fun Wx pn xe tk po => ⟨fun pins s σ H E I q => ?_⟩) hh.low) fun E σ H ⟨F, δ, M, DD, e0, r, s, h, m⟩ => ?_
  · obtain ⟨F1, W1, e1, hw, q⟩ := q
    exact (hb F1 W1 pn xe ⟨c.calm, tk.imp hw, po, c.nd⟩).run pins s σ H E I q
  · refine ⟨F, _, e0, fun cls d σ H ⟨C, fs, δ, M, F1, dx, vs, h1, h2, e1, r1, s1, hx, rf, hq⟩ => ?_, F, δ, M, DD, Same.refl F, r, s, h, m⟩
    subst h1 h2
    exact wTry_low e0 m (fun _ _ _ _ h => h) e1 r1 s1 hx rf hq
/-- e.f within a suite -/
@[simp] def dXf (a : Addr) (fs : List (Str × D)) (f : Str) (te : DTE) : DTE := fun δ M Q => te δ M fun d M1 => d = .ref a ∧ match fs.lookup f with | some y => Q y M1 | none => False
theorem dpe_xf {X : Cx} {F1 : Hp} {a C : Addr} {oe : Obj} {fs : List (Str × D)} {pn : List (Addr × Obj)} {e : Expr} {te : DTE} {f : Str} {pos : Pos} {nf : List Str} (S : Sui X F1 a oe C fs nf) (he : DPE (X.suite a ((a, oe) :: pn)) F1 e te)
    (hf : f ∈ nf := by simp) (hb : attributeBase e f X.env (eval e X.env) = eval e X.env := by rfl) : DPE (X.suite a ((a, oe) :: pn)) F1 (.Attribute e f pos) (dXf a fs f te) := by
  obtain ⟨dx, vs, hz, hz2, hF, rf⟩ := S.ex
  obtain ⟨y, hy⟩ := Option.isSome_iff_exists.mp (S.xf.2 f hf).1
  refine PE.imp (pe_xf S.xf.1 (S.xf.2 f hf).2 hz hz2 he hb) fun σ H Q ⟨F, δ, M, QD, e0, r, sl, h, m⟩ => ?_
  refine ⟨F, δ, M, _, e0, r, sl, h, fun d M1 F2 H1 v q e1 r1 rv => ?_⟩
  obtain ⟨rfl, q⟩ := q
  rw [hy] at q
  unfold Rep at rv
  subst rv
  obtain ⟨w, hw, rw'⟩ := (rf.look (f := f)).1 y hy
  exact ⟨rfl, rfl, dx, vs, w, rfl, r1.sub _ _ (e1 _ _ (e0 _ _ hF)), hw, m _ M1 F2 H1 _ q e1 r1 (rw'.mono (e0.trans e1))⟩
end DL
set_option Elab.async false
set_option linter.all false
set_option maxRecDepth 100000
/-! DL11: texts as sequences; text methods; lists changed in place -/
namespace DL
open PySem PySem.Spec L2 PyProof.Rows
section
variable {X : Cx} {F0 : Hp} {pos : Pos}
/-- the signs of a text, one text each -/
def signs (z : Str) : List Str := z.cps.toList.map fun c => ⟨#[c]⟩
theorem signs_length (z : Str) : (signs z).length = z.length := by simp [signs, Str.length]
theorem vals_signs {z : Str} {acc : Array Value} (h : ItemsOf (SignAt z) acc z.cps.size) : Vals ((signs z).map V.str) acc.toList := by
  have key : ∀ (cs : List Nat) (vs : List Value), cs.length = vs.length → (∀ (j : Nat) v, vs[j]? = some v → ∃ c u, cs[j]? = some c ∧ v = .str ⟨#[c]⟩ u) → Vals ((cs.map fun c => (⟨#[c]⟩ : Str)).map V.str) vs := by
    intro cs
    induction cs with
    | nil =>
      intro vs hl _
      cases vs with
      | nil => exact .nil
      | cons _ _ => simp at hl
    | cons c cs ih =>
      intro vs hl hv
      cases vs with
      | nil => simp at hl
      | cons v vs =>
        refine .cons ?_ (ih vs (by simpa using hl) fun j w hw => ?_)
        · obtain ⟨c', u, e1, e2⟩ := hv 0 v rfl
          cases e1
          exact ⟨u, e2⟩
        · obtain ⟨c', u, e1, e2⟩ := hv (j + 1) w (by simpa using hw)
          exact ⟨c', u, by simpa using e1, e2⟩
  refine key z.cps.toList acc.toList (by simp [h.1]) fun j v hv => ?_
  obtain ⟨c, u, e1, e2⟩ := h.2 j v (by simpa using hv)
  exact ⟨c, u, by simpa using e1, e2⟩
theorem rep_strs {K : PySem.W.Frag} {F : Hp} : ∀ l : List Str, RepL K F (l.map D.str) (l.map V.str)
  | [] => RepL.nil
  | x :: l => RepL.cons rep_str (rep_strs l)
/-- list(x), tuple(x), sorted(x) of a text -/
def dListS : DN := fun ds M Q => match ds with
  | [.str z] => z.length ≤ sizeLine ∧ Q (.lst ((signs z).map D.str)) M
  | _ => False
def dTupleS : DN := fun ds M Q => match ds with
  | [.str z] => z.length ≤ sizeLine ∧ Q (.tup ((signs z).map D.str)) M
  | _ => False
def dSortedS : DN := fun ds M Q => match ds with
  | [.str z] => z.length ≤ sizeLine ∧ ∀ ys : List Str, ys.Perm (signs z) → sortedS ys = true → Q (.lst (ys.map D.str)) M
  | _ => False
theorem cr_dlistS (hc : X.calm = true) : CallR X (.type "list") (lowN X.K F0 dListS) := by
  intro pins s σ H xs us Q I rv h
  obtain ⟨F, M, ds, QD, e0, r, rs, q, m⟩ := h
  unfold dListS at q
  split at q
  · rename_i z
    obtain ⟨v, rfl, h1⟩ := rep1 rs
    unfold Rep at h1; subst h1
    obtain ⟨u, rfl, ru⟩ := vals1 rv
    obtain ⟨t, rfl⟩ := ru
    refine call_list_str (I.ok.hd hc) z t (fun h' tk acc c hk ho ha => ?_) (by simpa [Str.length] using q.1)
    have hn : H s.heap.objs.size = none := I.hok.fresh (Nat.le_refl _)
    obtain ⟨s1, s2, s3⟩ := ice_lst r hn (rep_strs (signs z))
    refine ⟨.ref s.heap.objs.size, upd H s.heap.objs.size (.lst ((signs z).map V.str)), I.laid (t' := tk) hk (Nat.le_refl _) ⟨?_, acc.toList, c, vals_signs ha, by rw [Array.toArray_toList]; exact ho⟩, rfl, m _ M _ _ _ q.2 s1 s2 s3⟩
    rw [List.length_map, signs_length]; exact q.1
  · exact q.elim
theorem cr_dtupleS (hc : X.calm = true) : CallR X (.type "tuple") (lowN X.K F0 dTupleS) := by
  intro pins s σ H xs us Q I rv h
  obtain ⟨F, M, ds, QD, e0, r, rs, q, m⟩ := h
  unfold dTupleS at q
  split at q
  · rename_i z
    obtain ⟨v, rfl, h1⟩ := rep1 rs
    unfold Rep at h1; subst h1
    obtain ⟨u, rfl, ru⟩ := vals1 rv
    obtain ⟨t, rfl⟩ := ru
    refine call_tuple_str (I.ok.hd hc) z t (fun h' tk acc hk ha => ?_) (by simpa [Str.length] using q.1)
    have I1 : L2.Inv X pins σ H { s with heap := h', toks := tk } := I.kept hk
    have hn : H h'.objs.size = none := I1.hok.fresh (Nat.le_refl _)
    obtain ⟨s1, s2, s3⟩ := ice_tup r hn (rep_strs (signs z))
    refine ⟨.ref h'.objs.size, upd H h'.objs.size (.tup ((signs z).map V.str)), I1.laid (t' := tk) (fun b o e => Heap.get?_push_of_some _ e) (Nat.le_refl _) ⟨?_, acc.toList, vals_signs ha, ?_⟩, rfl, m _ M _ _ _ q.2 s1 s2 s3⟩
    · rw [List.length_map, signs_length]; exact q.1
    · rw [Array.toArray_toList]; exact IsTup.new _ _
  · exact q.elim
theorem cr_dsortedS (hc : X.calm = true) : CallR X (.builtin "sorted") (lowN X.K F0 dSortedS) := by
  intro pins s σ H xs us Q I rv h
  obtain ⟨F, M, ds, QD, e0, r, rs, q, m⟩ := h
  unfold dSortedS at q
  split at q
  · rename_i z
    obtain ⟨v, rfl, h1⟩ := rep1 rs
    unfold Rep at h1; subst h1
    obtain ⟨u, rfl, ru⟩ := vals1 rv
    obtain ⟨t, rfl⟩ := ru
    have hz : z.cps.size ≤ sizeLine := by simpa [Str.length] using q.1
    refine Calls.call_function_entry PyProof.Rows.kind_sorted PyProof.Rows.plain_sorted PyProof.Rows.entry_sorted (PyProof.Rows.args_sorted1 _) ?_
    unfold Builtin.«sorted»
    refine wpAny_bind (m := checkCount "sorted" 1 1 _) (wpAny_pure (wpAny_bind (wpAny_collect_str (A := X.A.in1) (I.ok.hd hc) z t (fun s' acc hk hg hd hos ha => ?_) hz)))
    obtain ⟨h', g', d', tk, os'⟩ := s'
    obtain ⟨hp0, g0, d0, tk0, os0⟩ := s
    have e1 : g' = g0 := hg
    have e2 : d' = d0 := hd
    have e3 : os' = os0 := hos
    subst e1 e2 e3
    have hv := vals_signs ha
    have hS : StrsAre acc.toList (signs z) := strs_of_vals hv
    have hal : acc.toList.length = z.length := by rw [← hv.length, List.length_map, signs_length]
    have I1 : L2.Inv X pins σ H ⟨h', g', d', tk, os'⟩ := I.kept (t' := tk) hk
    refine wpAny_bind (wpAny_newList ?_ (by rw [hal]; exact q.1))
    have hoL : (h'.push (seqObj "list" acc.toList.toArray 0)).get? h'.objs.size = some (seqObj "list" acc.toList.toArray 0) := Heap.get?_push_size _ rfl
    show wpAny _ _ _ _ _ ⟨h'.push (seqObj "list" acc.toList.toArray 0), g', d', tk, os'⟩
    refine wpAny_bind (wpAny_holding (wpAny_call_entry PyProof.Rows.slot_list_sort ⟨_, hoL, rfl⟩ PyProof.Rows.entry_list_sort
      (PyProof.Rows.list_sort_treeKAny strKind_oneLt (s := ⟨h'.push (seqObj "list" acc.toList.toArray 0), g', d', tk, os'⟩) hoL hS.keysOf (fun v₁ v₂ rest e => keyKind_strs (by rw [← e]; exact hS)) (by rw [hal]; exact q.1) fun st' hp hs => ⟨_, rfl, ?_⟩)
      (PyProof.Rows.args_list_sort _)))
    obtain ⟨ys, y1, y2, y3⟩ := sorted_out_str hS hp hs
    obtain ⟨e', he'⟩ := PyProof.Rows.sortedHeap_at (vs := acc.toList) (out := (arrOf st').map (·.2)) hoL
    have hn : H h'.objs.size = none := I1.hok.fresh (Nat.le_refl _)
    obtain ⟨s1, s2, s3⟩ := ice_lst r hn (rep_strs ys)
    refine wpAny_pure ⟨_, rfl, .ref h'.objs.size, upd H h'.objs.size (.lst (ys.map V.str)), I1.laid (t' := tk) (fun b u e => ?_) (Nat.le_refl _)
      ⟨?_, ((arrOf st').map (·.2)).toList, e', vals_of_strs y1, by rw [Array.toArray_toList]; exact he'⟩, rfl, m _ M _ _ _ (q.2 ys y2 y3) s1 s2 s3⟩
    · have hb : b < h'.objs.size := Heap.lt_size e
      rw [PyProof.Rows.sortedHeap_old (Nat.ne_of_lt hb) (by rw [size_push']; exact Nat.lt_succ_of_lt hb)]
      exact Heap.get?_push_of_some _ e
    · rw [List.length_map, y2.length_eq, signs_length]; exact q.1
  · exact q.elim
/-- x[::-1] of a text, of a list -/
@[simp] def dRevS (te : DTE) : DTE := fun δ M Q => te δ M fun x M1 => match x with
  | .str z => z.length ≤ sizeLine ∧ Q (.str ⟨z.cps.toList.reverse.toArray⟩) M1
  | _ => False
theorem pick_rev (z : Str) : ((Builtin.Str.strSliceIndices none none (-1) z.length).filterMap (z.cps[·]?)).toArray = z.cps.toList.reverse.toArray := by
  rw [picked_rev]
  congr 1
  rw [show z.length = z.cps.size from rfl, PySem.W.krv_range, List.filterMap_reverse, PySem.W.krv_all]
theorem dpe_revS {e : Expr} {te : DTE} {k : Nat} {p1 p2 p3 : Pos} (he : DPE X F0 e te) : DPE X F0 (.Subscript e (.Slice none none (some (.UnaryOp .USub (.Constant (.int 1) k p1) p2)) p3) pos) (dRevS te) := by
  refine ⟨fun pins s σ H Q I h => ?_⟩
  obtain ⟨F, δ, M, QD, e0, r, sl, h, m⟩ := h
  refine Subscript_ (thn (he.run pins s σ H (fun x H1 => ∃ z, x = .str z ∧ z.length ≤ sizeLine ∧ Q (.str ⟨z.cps.toList.reverse.toArray⟩) H1) I ⟨F, δ, M, _, e0, r, sl, h, fun d M1 F1 H1 v q e1 r1 rv => ?_⟩) fun v s1 ⟨x, H1, I1, r1, q1⟩ => ?_)
  · split at q
    · unfold Rep at rv; subst rv
      exact ⟨_, rfl, q.1, m _ M1 F1 H1 _ q.2 e1 r1 rep_str⟩
    · exact q.elim
  obtain ⟨z, ex, hz, q⟩ := q1
  subst ex
  obtain ⟨t, rfl⟩ := r1
  have hst : PO X (some (.UnaryOp .USub (.Constant (.int 1) k p1) p2)) (tPart (tUn (rU fun i => .int (-i)) (tC (.int 1)))) := po_some (pe_un un_neg pe_int)
  refine wpAny_Slice (thn (po_none.run pins s1 σ H1 (fun o H2 => o = none ∧ H2 = H1) I1 ⟨rfl, rfl⟩) fun vl s2 ⟨l, H2, I2, pl, el, e2⟩ => ?_)
  subst el e2
  refine thn (po_none.run pins s2 σ H2 (fun o H3 => o = none ∧ H3 = H2) I2 ⟨rfl, rfl⟩) fun vu s3 ⟨u, H3, I3, pu, eu, e3⟩ => ?_
  subst eu e3
  refine thn (hst.run pins s3 σ H3 (fun o H4 => o = some (-1) ∧ H4 = H3) I3 ⟨1, rfl, -1, rfl, rfl, rfl⟩) fun vs s4 ⟨o, H4, I4, ps, eo, e4⟩ => ?_
  subst eo e4
  have I5 : L2.Inv X pins σ H4 { s4 with heap := s4.heap.push { cls := .type "slice", data := .fields #[vl, vu, vs] } } := I4.kept (t' := s4.toks) fun b ob q => Heap.get?_push_of_some _ q
  cases pl
  cases pu
  cases ps with
  | int i u =>
  refine tail_any (ops := [.str z t, .ref s4.heap.objs.size]) (T := "str") rfl PySem.F.slot_str_getitem.lookup ?_ (by with_unfolding_all rfl)
  refine wpAny_getItem_str_slice (l := none) (u := none) (st := some (-1, u)) ⟨_, Heap.get?_push_size _ rfl, rfl, rfl⟩ rfl ?_
  unfold sliceMade
  rw [if_neg (by simp)]
  show Made.post (.str ⟨((Builtin.Str.strSliceIndices none none (-1) z.length).filterMap (z.cps[·]?)).toArray⟩) _ _
  rw [pick_rev]
  exact ⟨by simpa [Str.length] using hz, .str _, H4, I5.tok _, ⟨_, rfl⟩, q⟩
end
end DL
set_option Elab.async false
set_option linter.all false
set_option maxRecDepth 100000
/-! DL12: methods of built-in types; stores by index -/
namespace DL
open PySem PySem.Spec L2 PyProof.Rows
section
variable {X : Cx} {F0 : Hp} {pos apos cpos : Pos} {o e : Expr} {es : List Expr} {to te : DTE} {t : DTA} {name : Str}
abbrev DMt := D → List D → DM → DK → Prop
def lowMt (K : PySem.W.Frag) (F0 : Hp) (ρ : DMt) : V → List V → Hp → VK → Prop := fun x xs H Q => ∃ F M d ds QD, Same F0 F ∧ Rel K F M H ∧ Rep K F d x ∧ RepL K F ds xs ∧ ρ d ds M QD ∧ DL.Meets K F QD Q
/-- d is of the type T -/
def tyB (T : String) (M : DM) : D → Prop
  | .str _ => T = "str"
  | .ref q => T = "list" ∧ ∃ xs, M q = some (.lst xs)
  | .lst _ => T = "list"
  | _ => False
theorem tyB_ok {K : PySem.W.Frag} {F H : Hp} {M : DM} {d : D} {v : V} {T : String} (r : Rel K F M H) (h : Rep K F d v) (b : tyB T M d) : tyV K T v H := by
  cases d with
  | str z => unfold Rep at h; subst h; exact b
  | ref q =>
    unfold Rep at h; subst h
    obtain ⟨rfl, xs, hx⟩ := b
    obtain ⟨_, ob, ho, vs, rfl, rs⟩ := r.mr q _ hx
    exact .inl ⟨rfl, vs, .inl (.inl ho)⟩
  | lst xs =>
    unfold Rep at h
    obtain ⟨a, vs, rfl, ha, rs⟩ := h
    exact .inl ⟨b, vs, .inl (.inl (r.sub _ _ ha))⟩
  | _ => exact b.elim
@[simp] def dBM (T : String) (ρ : DMt) (to : DTE) (t : DTA) : DTE := fun δ M Q => to δ M fun d M1 => tyB T M1 d ∧ t δ M1 fun ds M2 => ρ d ds M2 Q
@[simp] def dBM0 (T : String) (ρ : DMt) (to : DTE) : DTE := fun δ M Q => to δ M fun d M1 => tyB T M1 d ∧ ρ d [] M1 Q
theorem dpe_bm {T id : String} {ρ : DMt} (pa : PlainAttrs T) (slot : Slot T name id) (hty : typeOf (.builtin id) = pure (.type "method_descriptor")) (hm : MtR X id (lowMt X.K F0 ρ)) (ho : DPE X F0 o to) (ha : DPA X F0 (e :: es) t)
    (hbase : attributeBase o name X.env (eval o X.env) = eval o X.env := by rfl)
    (hfew : ((backTo cpos (starEach (e :: es) X.env)).all (fun x => !x.1) && (backToKw cpos (keywordEach [] X.env)).all (fun x => x.1.isSome)
      && decide ((e :: es).length + ([] : List Keyword).length + (if ([] : List Keyword).isEmpty then 0 else 1) < 30)) = true := by rfl)
    (hline : (apos.endLine == cpos.line) = true := by rfl) (hs : starEach (e :: es) X.env = (false, eval e X.env) :: starEach es X.env := by rfl) (hplain : (backTo cpos (starEach es X.env)).any (·.1) = false := by rfl) :
    DPE X F0 (.Call (.Attribute o name apos) (e :: es) [] cpos) (dBM T ρ to t) :=
  PE.imp (pe_bm pa slot hty hm ho ha hbase hfew hline hs hplain) fun σ H Q ⟨F, δ, M, QD, e0, r, s, h, m⟩ => ⟨F, δ, M, _, e0, r, s, h, fun d M1 F1 H1 v q e1 r1 rv =>
    ⟨tyB_ok r1 rv q.1, F1, δ, M1, _, e0.trans e1, r1, s.mono e1, q.2, fun ds M2 F2 H2 vs q2 e2 r2 rs => ⟨F2, M2, d, ds, QD, e0.trans (e1.trans e2), r2, rv.mono e2, rs, q2, m.mono (e1.trans e2)⟩⟩⟩
theorem dpe_bm0 {T id : String} {ρ : DMt} (pa : PlainAttrs T) (slot : Slot T name id) (hty : typeOf (.builtin id) = pure (.type "method_descriptor")) (hm : MtR X id (lowMt X.K F0 ρ)) (ho : DPE X F0 o to)
    (hbase : attributeBase o name X.env (eval o X.env) = eval o X.env := by rfl) (hline : (apos.endLine == cpos.line) = true := by rfl) : DPE X F0 (.Call (.Attribute o name apos) [] [] cpos) (dBM0 T ρ to) :=
  PE.imp (pe_bm0 pa slot hty hm ho hbase hline) fun σ H Q ⟨F, δ, M, QD, e0, r, s, h, m⟩ => ⟨F, δ, M, _, e0, r, s, h, fun d M1 F1 H1 v q e1 r1 rv =>
    ⟨tyB_ok r1 rv q.1, F1, M1, d, [], QD, e0.trans e1, r1, rv, RepL.nil, q.2, m.mono e1⟩⟩
/-- xs.append(y) -/
def dAppend : DMt := fun x ds M Q => match x, ds with
  | .ref q, [y] => (match M q with | some (.lst xs) => xs.length < sizeLine ∧ Q .non (put M q (.lst (xs ++ [y]))) | _ => False)
  | _, _ => False
theorem mt_dappend : MtR X "list.append" (lowMt X.K F0 dAppend) := by
  intro pins s σ H x xs v us Q I rx rxs h
  obtain ⟨F, M, d, ds, QD, e0, r, rd, rs, q, m⟩ := h
  unfold dAppend at q
  split at q
  · rename_i a y
    split at q
    · rename_i zs ez
      unfold Rep at rd; subst rd
      obtain ⟨_, ob, ho, vs, rfl, rz⟩ := r.mr a _ ez
      obtain ⟨w, rfl, ry⟩ := rep1 rs
      exact mt_append pins s σ H _ _ v us Q I rx rxs ⟨a, vs, w, rfl, rfl, ho, by rw [← rz.length]; exact q.1, m _ _ F _ _ q.2 (Same.refl F) (r.write (m := .lst (zs ++ [y])) ez ⟨_, rfl, rz.append (RepL.cons ry RepL.nil)⟩) rep_non⟩
    · exact q.elim
  · exact q.elim
/-- x.upper() -/
def dUpper : DMt := fun x ds M Q => match x, ds with
  | .str z, [] => z.length ≤ 5592405 ∧ Q (.str (Txt.upper z)) M
  | _, _ => False
theorem mt_dupper : MtR X "str.upper" (lowMt X.K F0 dUpper) := by
  intro pins s σ H x xs v us Q I rx rxs h
  obtain ⟨F, M, d, ds, QD, e0, r, rd, rs, q, m⟩ := h
  unfold dUpper at q
  split at q
  · rename_i z
    unfold Rep at rd; subst rd
    have := rs.nilV
    subst this
    exact mt_upper pins s σ H _ _ v us Q I rx rxs ⟨z, rfl, rfl, q.1, m _ M F H _ q.2 (Same.refl F) r rep_str⟩
  · exact q.elim
/-- x.index(y) of a text that holds it -/
def dIndexS : DMt := fun x ds M Q => match x, ds with
  | .str z, [.str y] => (match Builtin.Str.occurrences z y 0 z.length 1 with | i :: _ => Q (.int (i : Nat)) M | [] => False)
  | _, _ => False
theorem mt_dindexS : MtR X "str.index" (lowMt X.K F0 dIndexS) := by
  intro pins s σ H x xs v us Q I rx rxs h
  obtain ⟨F, M, d, ds, QD, e0, r, rd, rs, q, m⟩ := h
  unfold dIndexS at q
  split at q
  · rename_i z y
    split at q
    · rename_i i rest ei
      unfold Rep at rd; subst rd
      obtain ⟨w, rfl, ry⟩ := rep1 rs
      unfold Rep at ry; subst ry
      exact mt_sindex pins s σ H _ _ v us Q I rx rxs ⟨z, y, i, rest, rfl, rfl, ei, m _ M F H _ q (Same.refl F) r rep_int⟩
    · exact q.elim
  · exact q.elim
/-- o[i] = .. of a list that is changed -/
@[simp] def dgSub (to ti : DTE) : DTG := fun d δ M Q => to δ M fun o M1 => ti δ M1 fun i M2 => match o, i with
  | .ref q, .int k => (match M2 q with | some (.lst xs) => (match ixN xs.length k with | some j => Q δ (put M2 q (.lst (xs.set j d))) | none => False) | _ => False)
  | _, _ => False
theorem dg_sub {i : Expr} {ti : DTE} (ho : DPE X F0 o to) (hi : DPE X F0 i ti)
    (ha : ∀ v, assign (.Subscript o i pos) X.env v = (do
      let ov ← holding [v] (eval o X.env)
      let iv ← holding [v, ov] (eval i X.env)
      standAt pos
      holding [v, ov, iv] (setItem ov iv v)
      release [v, ov, iv] []) := by intro _; rfl) : DPG X F0 (.Subscript o i pos) (dgSub to ti) :=
  PG.imp (pg_sub ho hi set_list ha) fun v σ H Q ⟨F, d, δ, M, QD, e0, r, s, rd, h, m⟩ => ⟨F, δ, M, _, e0, r, s, h, fun x M1 F1 H1 vx q e1 r1 rx => ⟨F1, δ, M1, _, e0.trans e1, r1, s.mono e1, q, fun y M2 F2 H2 vy q2 e2 r2 ry => by
    split at q2
    · rename_i a k
      split at q2
      · rename_i xs ex
        split at q2
        · rename_i j ej
          unfold Rep at rx; subst rx
          unfold Rep at ry; subst ry
          obtain ⟨_, ob, ho, vs, rfl, rz⟩ := r2.mr a _ ex
          exact ⟨a, vs, k, j, rfl, rfl, ho, by rw [← rz.length]; exact ej, m _ _ F2 σ _ q2 (e1.trans e2) (r2.write (m := .lst (xs.set j d)) ex ⟨_, rfl, RepL.set (rd.mono (e1.trans e2)) j rz⟩) (s.mono (e1.trans e2))⟩
        · exact q2.elim
      · exact q2.elim
    · exact q2.elim⟩⟩
end
end DL
set_option Elab.async false
set_option linter.all false
set_option maxRecDepth 100000
/-! DL13: == of own classes -/
namespace DL
open PySem PySem.Spec L2 PyProof.Rows
section
variable {X : Cx} {F0 : Hp} {W : DW} {pins : List (Addr × Obj)} {σ : L2.St} {H : Hp} {s : Shared}
/-- the class of a value, as type() tells it -/
theorem type_of {M : DM} {F : Hp} {x : D} {v : V} {u : Value} {t : Ty} (I : L2.Inv X pins σ H s) (r : Rel X.K F M H) (h : Rep X.K F x v) (ru : RelV v u) (e : tyD M x = some t) : PySem.W.Looks (model X.prog X.w) s.heap (typeOf u) t.v := by
  have lst : ∀ {p : Addr} {vs : List V}, H p = some (.lst vs) → PySem.W.Looks (model X.prog X.w) s.heap (typeOf (.ref p)) (.type "list") := fun {p vs} hp => by
    obtain ⟨_, its, n, _, _, ho⟩ := I.lstM hp
    exact fun A Q E s k q => wpAny_typeOf_ref (k _ _ ho) q
  have ins : ∀ {p C dx : Addr} {vs : List (Str × V)}, H p = some (.ins C dx vs) → PySem.W.Looks (model X.prog X.w) s.heap (typeOf (.ref p)) (.ref C) := fun {p C dx vs} hp => by
    obtain ⟨mA, J, _⟩ := ins_get I.hok hp
    obtain ⟨od, J, _⟩ := J.look
    exact J.type
  cases x with
  | non => cases e; unfold Rep at h; subst h; cases ru; exact .of_pure rfl
  | bl b => cases e; unfold Rep at h; subst h; cases ru; exact .of_pure rfl
  | int b => cases e; unfold Rep at h; subst h; obtain ⟨t, rfl⟩ := ru; exact .of_pure rfl
  | str b => cases e; unfold Rep at h; subst h; obtain ⟨t, rfl⟩ := ru; exact .of_pure rfl
  | lst xs =>
    cases e; unfold Rep at h
    obtain ⟨a, vs, rfl, h2, _⟩ := h
    cases ru
    exact lst (r.sub _ _ h2)
  | tup xs =>
    cases e; unfold Rep at h
    obtain ⟨a, vs, rfl, h2, _⟩ := h
    cases ru
    obtain ⟨its, rv, ⟨o, h1, h2, _⟩, hz⟩ := I.tuple (SqT_mono r.sub h2)
    exact fun A Q E s k q => wpAny_typeOf_ref (k _ _ h1) (by rw [h2]; exact q)
  | ins C ns xs =>
    cases e; unfold Rep at h
    obtain ⟨a, dx, vs, rfl, h2, _⟩ := h
    cases ru
    exact ins (r.sub _ _ h2)
  | ref p =>
    unfold tyD at e
    dsimp only at e
    unfold Rep at h; subst h
    cases ru
    split at e
    · rename_i xs q
      cases e
      obtain ⟨_, _, ho, vs, rfl, _⟩ := r.mr p _ q
      exact lst ho
    · rename_i xs q
      cases e
      obtain ⟨_, _, ho, vs, rfl, _⟩ := r.mr p _ q
      obtain ⟨_, _, _, _, o, _, _, e, ex, _⟩ := I.hok p _ ho
      exact fun A Q E s k q => wpAny_typeOf_ref (k _ _ e) (by rw [ex.1]; exact q)
    · rename_i xs q
      cases e
      obtain ⟨_, _, ho, vs, rfl, _⟩ := r.mr p _ q
      obtain ⟨_, _, _, _, o, _, _, e, ex, _⟩ := I.hok p _ ho
      exact fun A Q E s k q => wpAny_typeOf_ref (k _ _ e) (by rw [ex.1]; exact q)
    · rename_i C fs q
      cases e
      obtain ⟨_, _, ho, dx, vs, rfl, _⟩ := r.mr p _ q
      exact ins ho
    · cases e
  | _ => cases e
def E0 : DXK := fun _ _ _ => False
/-- what == leaves: a Boolean -/
def blK (Q : DK) : DK := fun d M => (∃ b, d = .bl b) ∧ Q d M
/-- x == y, x of a class with its own == -/
def dEqO (K : PySem.W.Frag) (l : List (Addr × DSp)) : D2 := fun x y M Q => match insD M x, tyD M y with
  | some (C, _), some t => PySem.W.notFirst K C t.v = true ∧ sel (fun dsp => dsp [x, y] M (blK Q) E0) l C
  | _, _ => False
/-- a method of x called with given values, by its promise -/
theorem run_meth {k : Nat} {mn : Str} {C : Addr} {dsp : DSp} {F : Hp} {M : DM} {as : List D} {vs : List V} {us : List Value} {QD : DK} {Q : VK} (c : Ctx X F0 W) (dm : DMet X.prog X.w X.K X.mg X.base k C mn dsp) (hr : Room k X.A) (I : L2.Inv X pins σ H s)
    (e0 : Same F0 F) (r : Rel X.K F M H) (rs : RepL X.K F as vs) (rv : Vals vs us) (q : dsp as M QD E0) (m : DL.Meets X.K F QD Q) : ∃ f, Meth X.K C mn f ∧ wpAny (model X.prog X.w) X.A (call (.ref f) us) (EP X pins σ Q) X.xe s := by
  obtain ⟨f, fd, ps, ds, dvs, dd, dsp0, hc, hm, Fn, hb, hd, hdd, im⟩ := dm.ex
  refine ⟨f, hm, run_fnSD (E := WE (lowW X.K F0 W)) Fn hr hb hd (passW c σ) I rv ?_⟩
  exact ⟨F, M, as ++ dd, QD, E0, r, rs.append (hdd F), im _ _ _ _ q, m, fun cls d H' ⟨_, _, _, _, _, _, _, _, _, _, _, _, z⟩ => z.elim⟩
theorem op_deqO {k : Nat} {l : List (Addr × DSp)} (c : Ctx X F0 W) (dm : DMets X.prog X.w X.K X.mg X.base k "__eq__" l) (hr : Room k X.A) : DOp X F0 (compareOp .Eq) (dEqO X.K l) := by
  intro pins s σ H x y u w Q I rx ry h
  obtain ⟨F, M, d, e, QD, e0, r, rd, re, q, m⟩ := h
  unfold dEqO at q
  split at q
  · rename_i C fs t ei et
    obtain ⟨hn, q⟩ := q
    obtain ⟨a, dx, vs, rfl, ha, rf⟩ := insD_at r rd ei
    cases rx
    obtain ⟨dsp, dmt, q⟩ := sel_get dm q
    have ty := type_of I r re ry et
    obtain ⟨mA, J, _⟩ := ins_get I.hok ha
    obtain ⟨od, J, _⟩ := J.look
    obtain ⟨m0, hF⟩ := I.fr
    obtain ⟨f, hm, hrun⟩ := run_meth (QD := blK QD) (Q := fun v H' => (∃ b, v = .bl b) ∧ Q v H') c dmt hr I e0 r (RepL.cons rd (RepL.cons re RepL.nil)) (.cons rfl (.cons ry .nil)) q (fun d M F' H v q e r x => by
      obtain ⟨⟨b, rfl⟩, q⟩ := q
      have hv : v = .bl b := by unfold Rep at x; exact x
      exact ⟨⟨b, hv⟩, m _ M F' H v q e r x⟩)
    refine PySem.W.cmp_K (op := .Eq) hr.units0 hF I.ok.mod.kin J ty hn hm.at_ hm.fn ?_
    refine thn hrun fun z s1 ⟨v, H1, I1, rz, ⟨b, eb⟩, q1⟩ => ?_
    subst eb
    cases rz
    exact ⟨.bl b, H1, I1, rfl, q1⟩
  · exact q.elim
theorem tuple_eq_declines {K : PySem.W.Frag} {l b C : Addr} {o ob : Obj} {od : Option Obj} {A : Around} {R : Result → Shared → Prop} {P : Program} {w : World} (X : K.In s.heap) (hl : s.heap.get? l = some o) (J : PySem.W.InstAt s.heap b ob C od)
    (hs : PySem.W.subIn K (.ref C) (.type "tuple") = some false) (h : R (.ok (.ret .notImplemented)) s) :
    wpAny (model P w) A.in1 (Builtin.«tuple.__eq__» ⟨[.ref l, .ref b], []⟩) (GQ.FinOf P w A R) (fun e s' => R (.error e) s') s := by
  have L : PySem.W.Looks (model P w) s.heap (isInstance (.ref b) (.type "tuple")) false := J.type.andThen (PySem.W.looks_subIn X hs)
  unfold Builtin.«tuple.__eq__»
  wp_delta
  refine wpAny_bind (m := slotArgs "__eq__" 1 _) (wpAny_pure ?_)
  refine wpAny_bind (L.here ?_)
  exact wpAny_pure h
/-- x == y, x a tuple, y of a class with its own == -/
def dEqR (K : PySem.W.Frag) (l : List (Addr × DSp)) : D2 := fun x y M Q => match x, insD M y with
  | .tup _, some (C, _) => PySem.W.subIn K (.ref C) (.type "tuple") = some false ∧ sel (fun dsp => dsp [y, x] M (blK Q) E0) l C
  | _, _ => False
theorem op_deqR {k : Nat} {l : List (Addr × DSp)} (c : Ctx X F0 W) (dm : DMets X.prog X.w X.K X.mg X.base k "__eq__" l) (hr : Room k X.A) : DOp X F0 (compareOp .Eq) (dEqR X.K l) := by
  intro pins s σ H x y u w Q I rx ry h
  obtain ⟨F, M, d, e, QD, e0, r, rd, re, q, m⟩ := h
  unfold dEqR at q
  split at q
  · rename_i xs C fs ei
    obtain ⟨hn, q⟩ := q
    obtain ⟨a, dx, vs, rfl, ha, rf⟩ := insD_at r re ei
    cases ry
    have rd' := rd
    unfold Rep at rd
    obtain ⟨t, ws, rfl, h2, rw'⟩ := rd
    cases rx
    obtain ⟨its, rv, ⟨o, h1, h2, _⟩, hz⟩ := I.tuple (SqT_mono r.sub h2)
    obtain ⟨dsp, dmt, q⟩ := sel_get dm q
    obtain ⟨mA, J, _⟩ := ins_get I.hok ha
    obtain ⟨od, J, _⟩ := J.look
    obtain ⟨f, hm, hrun⟩ := run_meth (QD := blK QD) (Q := fun v H' => (∃ b, v = .bl b) ∧ Q v H') c dmt hr I e0 r (RepL.cons re (RepL.cons rd' RepL.nil)) (.cons rfl (.cons rfl .nil)) q (fun d M F' H v q e r x => by
      obtain ⟨⟨b, rfl⟩, q⟩ := q
      have hv : v = .bl b := by unfold Rep at x; exact x
      exact ⟨⟨b, hv⟩, m _ M F' H v q e r x⟩)
    have hT : s.TypeIs (.ref t) "tuple" := ⟨_, h1, h2⟩
    show wpAny _ _ (richCompare .Eq (.ref t) (.ref a)) _ _ _
    simp only [richCompare, cmpInfo, hT.oneThing_none]
    refine wpAny_holding (wpAny_bind (wpAny_cRoomFor hr.units0 (wpAny_bind (wpAny_typeOf hT (wpAny_bind (J.type.here ?_))))))
    rw [if_pos (show (Value.type "tuple" != Value.ref C) = true from rfl)]
    refine wpAny_bind ((PySem.W.looks_subIn I.kIn hn).here ?_)
    simp only [Bool.false_eq_true, if_false, Bool.not_false, if_true]
    refine wpAny_bind (wpAny_tryCompare_declines (id := "tuple.__eq__") hT PySem.F.slot_tuple_eq (GQ.call_here PySem.F.slot_tuple_eq hT PySem.F.entry_tuple_eq (PySem.F.args_tuple_eq_2 _ _) (tuple_eq_declines I.kIn h1 J hn ⟨rfl, ?_⟩)))
    show wpAny _ _ (tryCompare (.ref a) "__eq__" (.ref t) >>= _) _ _ _
    unfold tryCompare
    refine wpAny_bind (wpAny_bind (PySem.W.ifBound_K I.kIn J hm.at_ hm.fn (thn hrun fun z s1 ⟨v, H1, I1, rz, ⟨b, eb⟩, q1⟩ => ?_)))
    subst eb
    cases rz
    exact wpAny_pure (wpAny_pure ⟨.bl b, H1, I1, rfl, q1⟩)
  · exact q.elim
/-- x == y: own classes or data -/
def dEqX (K : PySem.W.Frag) (l : List (Addr × DSp)) : D2 := fun x y M Q => if (insD M x).isSome = true then dEqO K l x y M Q else if (insD M y).isSome = true then dEqR K l x y M Q else dEq x y M Q
theorem op_deqX {k : Nat} {l : List (Addr × DSp)} (c : Ctx X F0 W) (dm : DMets X.prog X.w X.K X.mg X.base k "__eq__" l) (hr : Room k X.A) : DOp X F0 (compareOp .Eq) (dEqX X.K l) := by
  intro pins s σ H x y u w Q I rx ry h
  obtain ⟨F, M, d, e, QD, e0, r, rd, re, q, m⟩ := h
  unfold dEqX at q
  split at q
  · exact op_deqO c dm hr pins s σ H x y u w Q I rx ry ⟨F, M, d, e, QD, e0, r, rd, re, q, m⟩
  · split at q
    · exact op_deqR c dm hr pins s σ H x y u w Q I rx ry ⟨F, M, d, e, QD, e0, r, rd, re, q, m⟩
    · exact op_deq hr.units pins s σ H x y u w Q I rx ry ⟨F, M, d, e, QD, e0, r, rd, re, q, m⟩
end
end DL
set_option Elab.async false
set_option linter.all false
set_option maxRecDepth 100000
/-! DH1: the head's facts, by names -/
namespace DH
open PySem PySem.Spec PyProof.Rows L2 DX DL
abbrev Frag := PySem.W.Frag
def refsC (o : Obj) : List Addr := He.refV o.cls ++ match o.data with
  | .seq its _ => its.toList.flatMap He.refV
  | .dict es _ => es.toList.flatMap fun e => He.refV e.val
  | .func fd => He.refV fd.code ++ (He.refV fd.defaults ++ (He.refV fd.kwdefaults ++ fd.closure.map (·.2)))
  | .cls cd => cd.ns :: cd.mro.flatMap He.refV
  | .fields vs => vs.toList.flatMap He.refV
  | .cell (some v) => He.refV v
  | _ => []
def growC (g : Addr → Option Obj) (as : List Addr) : List Addr := (as ++ as.flatMap fun a => match g a with
  | some o => refsC o
  | none => []).eraseDups
def asC (g : Addr → Option Obj) : Nat → List Addr
  | 0 => [mainGlobals]
  | n + 1 => growC g (asC g n)
def asX (g : Addr → Option Obj) (n : Nat) : List Addr := asC g n ++ [cStatics]
/-- an exception class of the text: its name, its __init__, the fields that it keeps -/
structure IniD where
  x : Str
  qual : Str
  params : Arguments
  body : List Stmt
  scope : Scope
  nd : Nat
  fs : List Str
abbrev FnC : Type := Option (Str × Str × Arguments × FuncBody × Scope × Addr × List Str × Addr)
def fnC (K : Frag) (a : Addr) : FnC := match K.lookup a with
  | some ⟨_, _, .func fd, _⟩ => some (fd.name, fd.qualname, fd.params, fd.body, fd.scope, fd.globals, fd.closure.map (·.1), fd.builtins)
  | _ => none
def IniD.val (d : IniD) : FnC := some ("__init__", d.qual, d.params, .stmts d.body, d.scope, mainGlobals, ["__class__"], builtinsNs)
def oexB (K : Frag) (C : Addr) : Bool := match K.lookup C with
  | some ⟨.type t, _, .cls cd, sl⟩ => t == "type" && (match cd.mro, sl.toList with
    | .ref C' :: bm, [_, _, _, _, some (.builtin n), _] => C' == C && n == "ValueError.__new__" && !cd.hasDel && cd.hasDict && PySem.HandSPX.refsVE bm
    | _, _ => false)
  | _ => false
theorem oexB_ok {K : Frag} {C : Addr} (q : oexB K C = true) : ∃ nm q N bs bm sn sub ab col dd k0 k1 k2 k3 k5, K.lookup C = some (excClassObj nm q C N bs bm true sn sub ab col dd k0 k1 k2 k3 k5 "ValueError.__new__") ∧ PySem.HandSPX.refsVE bm = true := by
  unfold oexB at q
  split at q
  · rename_i t dd cd sl ho
    simp only [Bool.and_eq_true, beq_iff_eq] at q
    obtain ⟨rfl, q⟩ := q
    split at q
    · rename_i C' bm k0 k1 k2 k3 n k5 hm hs
      simp only [Bool.and_eq_true, beq_iff_eq, Bool.not_eq_true'] at q
      obtain ⟨⟨⟨⟨rfl, rfl⟩, hdel⟩, hdct⟩, ht⟩ := q
      obtain ⟨nm, bs, mro, ns, qn, hd, sn, sub, ab, col, del⟩ := cd
      dsimp only at hm hdel hdct
      subst hm hdel hdct
      have hsl : sl = #[k0, k1, k2, k3, some (.builtin "ValueError.__new__"), k5] := by
        obtain ⟨l⟩ := sl
        simp only at hs
        rw [hs]
      subst hsl
      exact ⟨nm, qn, ns, bs, bm, sn, sub, ab, col, dd, k0, k1, k2, k3, k5, ho, ht⟩
    · cases q
  · cases q
def oexcB (K : Frag) (C : Addr) : Bool := oexB K C && (He.eqO (PySem.W.findIn K (.ref C) "__setattr__") (some (some (.builtin "object.__setattr__"))) &&
  (decide (PySem.W.subIn K (.ref C) (.type "BaseException") = some true) && (decide (PySem.W.typeIn K (.ref C) = some (.type "type")) && PySem.W.keepIn K (.ref C))))
theorem oexcB_ok {K : Frag} {C : Addr} (h : oexcB K C = true) : OexC K C := by
  obtain ⟨h1, h⟩ := He.ba h
  obtain ⟨h2, h⟩ := He.ba h
  obtain ⟨h3, h⟩ := He.ba h
  obtain ⟨h4, h5⟩ := He.ba h
  exact ⟨oexB_ok h1, He.eqO_ok h2, of_decide_eq_true h3, of_decide_eq_true h4, h5⟩
/-- the cell and the code of such an __init__ -/
def iniB (file : Str) (K : Frag) (C f : Addr) (q : Str) (dvs : List V) : Bool := match K.lookup f with
  | some ⟨_, _, .func fd, _⟩ => PySem.W.codeIn K fd.code q && (He.dflB K fd.defaults dvs && ((match fd.code with
      | .ref c => (match K.lookup c with
        | some ⟨_, _, .fields vs, _⟩ => (match (vs[2]? : Option Value) with
          | some (.str z _) => (file : Str) == z
          | _ => false)
        | _ => false)
      | _ => false) && (match fd.closure with
      | [(_, cc)] => (match K.lookup cc with
        | some ⟨_, _, .cell (some (.ref C')), _⟩ => C' == C
        | _ => false)
      | _ => false)))
  | _ => false
def IniD.ok (file : Str) (K : Frag) (d : IniD) : Bool := oexcB K (He.ga K d.x) && (iniB file K (He.ga K d.x) (He.ma K (He.ga K d.x) "__init__") d.qual (List.replicate d.nd .non) &&
  (He.eqO (PySem.W.findIn K (.ref (He.ga K d.x)) "__init__") (some (some (.ref (He.ma K (He.ga K d.x) "__init__")))) && (decide (PySem.W.typeIn K (.ref (He.ma K (He.ga K d.x) "__init__")) = some (.type "function")) &&
  (decide (PySem.W.mroIn K (He.ga K d.x) (.ref (He.ga K d.x)) = some true) && (He.eqO (PySem.W.nsIn K cStatics "thirdparty.any") (some none) && (He.eqO (PySem.W.ks_superIn K (He.ga K d.x) (He.ga K d.x) "__init__") (some (some (.builtin "ValueError.__init__"))) &&
  (decide (PySem.W.subIn K (.ref (He.ga K d.x)) (.type "ValueError") = some true) && (He.eqO (PySem.W.nsIn K mainGlobals "super") (some none) && (xfB K (He.ga K d.x) && (He.eqO (PySem.W.nsIn K mainGlobals d.x) (some (some (.ref (He.ga K d.x)))) && d.fs.all fun f => He.eqO (PySem.W.findIn K (.ref (He.ga K d.x)) f) (some none)))))))))))
structure IniK (P : Program) (K : Frag) (d : IniD) : Prop where
  ini : ∃ fd, XIni P K (He.ga K d.x) (He.ma K (He.ga K d.x) "__init__") fd d.params d.body d.scope (List.replicate d.nd .non)
  xf : XfC K (He.ga K d.x)
  gl : PySem.W.nsIn K mainGlobals d.x = some (some (.ref (He.ga K d.x)))
  no : ∀ f ∈ d.fs, PySem.W.findIn K (.ref (He.ga K d.x)) f = some none
theorem ini_ok {P : Program} {K : Frag} {d : IniD} (top : (P.main.scope.names.lookup ("super" : Str)).isSome = false) (e : fnC K (He.ma K (He.ga K d.x) "__init__") = d.val) (h : d.ok P.main.file K = true) : IniK P K d := by
  obtain ⟨h1, h⟩ := He.ba h
  obtain ⟨h2, h⟩ := He.ba h
  obtain ⟨h3, h⟩ := He.ba h
  obtain ⟨h4, h⟩ := He.ba h
  obtain ⟨h5, h⟩ := He.ba h
  obtain ⟨h6, h⟩ := He.ba h
  obtain ⟨h7, h⟩ := He.ba h
  obtain ⟨h8, h⟩ := He.ba h
  obtain ⟨h9, h⟩ := He.ba h
  obtain ⟨h10, h⟩ := He.ba h
  obtain ⟨h11, h12⟩ := He.ba h
  refine ⟨?_, xfB_ok h10, He.eqO_ok h11, fun f hf => He.eqO_ok (List.all_eq_true.mp h12 f hf)⟩
  unfold iniB at h2
  unfold fnC at e
  split at h2
  · rename_i oc od fd osl lk
    rw [lk] at e
    obtain ⟨n1, n2, n3, n4, n5, n6, n7, n8, n9, n10, n11, n12, n13, n14, n15⟩ := fd
    have e2 : (some (n1, n2, n3, n4, n5, n6, n7.map (·.1), n15) : FnC) = some (("__init__" : Str), d.qual, d.params, .stmts d.body, d.scope, mainGlobals, [("__class__" : Str)], builtinsNs) := e
    simp only [Option.some.injEq, Prod.mk.injEq] at e2
    obtain ⟨r1, r2, r3, r4, r5, r6, r7, r8⟩ := e2
    subst r1 r2 r3 r4 r5 r6 r8
    have t1 := He.ba h2
    clear h2 e
    obtain ⟨c1, t1⟩ := t1
    have t2 := He.ba t1
    clear t1
    obtain ⟨c2, t2⟩ := t2
    have t3 := He.ba t2
    clear t2
    obtain ⟨c3, c4⟩ := t3
    dsimp only at c1 c2 c3 c4
    split at c3
    · rename_i cda
      split at c3
      · rename_i ccl cdd vs ccs lc
        split at c3
        · rename_i z tf hz
          match n7, r7, c4, lk with
          | [(nm, cc)], r7, c4, lk =>
            dsimp only at c4
            split at c4
            · rename_i cl cld C' csl lcc
              have hC : C' = He.ga K d.x := by simpa using c4
              subst hC
              have hnm : nm = ("__class__" : Str) := by simpa using r7
              subst hnm
              exact ⟨_, ⟨oc, od, _, n8, n9, n10, n11, n12, n14, osl, cda, cc, cl, cld, csl, ccl, cdd, vs, ccs, z, tf, rfl, lk, c1, lc, hz, c3, lcc, He.dflB_ok c2⟩, oexcB_ok h1, He.eqO_ok h3, of_decide_eq_true h4, of_decide_eq_true h5, He.eqO_ok h6, He.eqO_ok h7, of_decide_eq_true h8, top, He.eqO_ok h9⟩
            · cases c4
          | [], r7, c4, lk => cases c4
          | _ :: _ :: _, r7, c4, lk => cases c4
        · cases c3
      · cases c3
    · cases c3
  · cases h2
/-! ### the Hook -/
abbrev Al : Type := He.AlD × List FnC
def obs (file : Str) (ck : Frag → List Bool) (fn : List He5.DefA) (ini : List IniD) (K : Frag) : Al := (((ck K).all id && (fn.all (fun d => d.ok K) && ini.all (fun d => d.ok file K)), fn.map fun d => He5.fnA K (d.at_ K)), ini.map fun d => fnC K (He.ma K (He.ga K d.x) "__init__"))
def val (fn : List He5.DefA) (ini : List IniD) : Al := ((true, fn.map He5.DefA.val), ini.map IniD.val)
def Says (file : Str) (ck : Frag → List Bool) (fn : List He5.DefA) (ini : List IniD) (K : Frag) : Prop := obs file ck fn ini K = val fn ini
def obsG (n : Nat) (file : Str) (ck : Frag → List Bool) (fn : List He5.DefA) (ini : List IniD) (g : Addr → Option Obj) : Al := obs file ck fn ini (He.frG g (asX g n))
def hook (n : Nat) (file : Str) (ck : Frag → List Bool) (fn : List He5.DefA) (ini : List IniD) : PySem.W.Hook where
  α := Al
  obs := fun s => obsG n file ck fn ini s.heap.get?
  val := fun _ => val fn ini
  says := fun _ h => ∃ K : Frag, K.In h ∧ Says file ck fn ini K
  of := fun _ _ e => ⟨_, He.frG_in, e⟩
  keeps := fun _ _ _ ⟨K, hK, c⟩ k => ⟨K, PySem.W.Frag.In.keeps hK k, c⟩
theorem obsG_eq {n : Nat} {file : Str} {ck : Frag → List Bool} {fn : List He5.DefA} {ini : List IniD} {g : Addr → Option Obj} {s : Shared} (h : ∀ a, g a = s.heap.get? a) : obsG n file ck fn ini g = (hook n file ck fn ini).obs s := by
  have e : g = s.heap.get? := funext h
  rw [e]; rfl
section
variable {file : Str} {ck : Frag → List Bool} {fn : List He5.DefA} {ini : List IniD} {K : Frag}
theorem Says.chk (c : Says file ck fn ini K) (i : Nat) {b : Bool} (h : (ck K)[i]? = some b := by rfl) : b = true := by
  have c1 := (He.ba (show ((ck K).all id && (fn.all (fun d => d.ok K) && ini.all (fun d => d.ok file K))) = true from congrArg (fun z : Al => z.1.1) c)).1
  exact List.all_eq_true.mp c1 b (List.mem_of_getElem? h)
theorem Says.def_ (c : Says file ck fn ini K) (i : Nat) {d : He5.DefA} (h : fn[i]? = some d := by rfl) : ∃ fd, FunD K d.name d.qual d.params d.body d.scope (d.dvs K) (d.kws K) (d.at_ K) fd := by
  have c2 := (He.ba (He.ba (show ((ck K).all id && (fn.all (fun d => d.ok K) && ini.all (fun d => d.ok file K))) = true from congrArg (fun z : Al => z.1.1) c)).2).1
  have e : fn.map (fun d => He5.fnA K (d.at_ K)) = fn.map He5.DefA.val := congrArg (fun z : Al => z.1.2) c
  have e2 : (fn.map fun d => He5.fnA K (d.at_ K))[i]? = (fn.map He5.DefA.val)[i]? := by rw [e]
  rw [List.getElem?_map, List.getElem?_map, h] at e2
  exact He5.DefA.funD (Option.some.inj e2) (List.all_eq_true.mp c2 d (List.mem_of_getElem? h))
theorem Says.exc {P : Program} (c : Says P.main.file ck fn ini K) (top : (P.main.scope.names.lookup ("super" : Str)).isSome = false) (i : Nat) {d : IniD} (h : ini[i]? = some d := by rfl) : IniK P K d := by
  have c2 := (He.ba (He.ba (show ((ck K).all id && (fn.all (fun d => d.ok K) && ini.all (fun d => d.ok P.main.file K))) = true from congrArg (fun z : Al => z.1.1) c)).2).2
  have e : ini.map (fun d => fnC K (He.ma K (He.ga K d.x) "__init__")) = ini.map IniD.val := congrArg (fun z : Al => z.2) c
  have e2 : (ini.map fun d => fnC K (He.ma K (He.ga K d.x) "__init__"))[i]? = (ini.map IniD.val)[i]? := by rw [e]
  rw [List.getElem?_map, List.getElem?_map, h] at e2
  exact ini_ok top (Option.some.inj e2) (List.all_eq_true.mp c2 d (List.mem_of_getElem? h))
end
end DH
set_option Elab.async false
set_option linter.all false
set_option maxRecDepth 100000
/-! DH2: promises of exception classes, of classes and their methods, from the head's facts -/
namespace DH
open PySem PySem.Spec PyProof.Rows L2 DX DL
section
variable {P : Program} {w : World} {K : Frag} {mg : Str → Option Value} {base : Heap} {k : Nat} {d : IniD}
def g1 (x : Str) : List D → Option (List (Str × D))
  | [y] => some [(x, y)]
  | _ => none
def g2 (x1 x2 : Str) : List D → Option (List (Str × D))
  | [y1, y2] => some [(x2, y2), (x1, y1)]
  | _ => none
/-- how such an __init__ binds n values -/
def BindI (d : IniD) (n m : Nat) (ps : List Str) : Prop := ∀ (T : Addr) (qual : Str) (kV doc pm : Value) (an : Option Addr) (cda : Addr) (ct : Value) (cc : Addr) (us its : List Value), us.length = n → its.length = m →
  ∃ k, bindArgs (PySem.W.ksFn "__init__" qual d.params d.body d.scope (.ref T) kV doc pm an (.ref cda) ct cc) ⟨us, []⟩ = seqItems? (.ref T) >>= k ∧ k (some its.toArray) = pure (ps.zip us)
theorem binds_ini {C f : Addr} {fd : FuncData} {n m : Nat} {ps : List Str} (T : XIni P K C f fd d.params d.body d.scope (List.replicate m .non)) (hm : m ≠ 0) (hps : ps.length = n) (h : BindI d n m ps) : Binds K fd ps [] := by
  obtain ⟨oc, od, qual, dV, kV, doc, pm, an, ct, osl, cda, cc, cl, cld, csl, ccl, cdd, xs, ccs, file, tf, rfl, lk, hcd, lcd, hxs, hfile, lcc, hD⟩ := T.ex
  rcases hD with ⟨e, _⟩ | ⟨_, Tt, o, its, n', rfl, lT, oT, rT⟩
  · cases m with
    | zero => exact absurd rfl hm
    | succ m => cases e
  · intro s us X hl
    rw [List.append_nil] at hl ⊢
    have l1 : its.length = m := by rw [← rT.length, List.length_replicate]
    obtain ⟨k, e1, e2⟩ := h Tt qual kV doc pm an cda ct cc us its (by rw [hl, hps]) l1
    refine BindsTo.of_looks fun M => ?_
    rw [e1]
    exact looks_items X lT oT (.of_pure e2)
theorem IniK.dexc1 (c : IniK P K d) (G : mg d.x = some (.ref (He.ga K d.x))) (x : Str) {p0 p1 p2 p3 p4 p5 p6 p7 p8 p9 : Pos} {ar : Arg} (hb : d.body = xb1 x p0 p1 p2 p3 p4 p5 p6 p7 p8 p9) (hnd : d.nd = 1) (hfs : x ∈ d.fs) (S : XScope ["self", x] d.scope)
    (hdb : (x == ("__debug__" : Str)) = false) (hcd : (x == ("__classdict__" : Str)) = false) (hp : (d.params.posonlyargs ++ d.params.args).head? = some ar) (har : ar.arg = "self") (hi : SupOk d.scope (.Name x p5) [] p0 p1 p2 p3 p4) (hB : BindI d 2 1 ["self", x]) :
    DExc P w K mg base (k + 1) d.x (He.ga K d.x) (g1 x) := by
  obtain ⟨fd, T⟩ := c.ini
  rw [hnd] at T
  have B := binds_ini (ps := ["self", x]) (n := 2) T (by decide) rfl hB
  rw [hb] at T
  refine ⟨G, T.O, _, fd, ["self", x], sp1 (He.ga K d.x) x, T.iC, T.tI, fn_x1 T S (c.no x hfs) hdb hcd hp har hi, B, fun ds fs e => ?_⟩
  match ds, e with
  | [y], e =>
    cases e
    refine ⟨by simp, fun F vs rs => ?_⟩
    obtain ⟨v, rfl, rv⟩ := rep1 rs
    exact ⟨[(x, v)], .cons ⟨rfl, rv⟩ .nil, fun a H Q E ea q => ⟨a, v, rfl, ea, q⟩⟩
theorem IniK.dexc2 (c : IniK P K d) (G : mg d.x = some (.ref (He.ga K d.x))) (x1 x2 : Str) {p0 p1 p2 p3 p4 p5 p6 p7 p8 p9 p10 p11 p12 p13 p14 : Pos} {ar : Arg} (hb : d.body = xb2 x1 x2 p0 p1 p2 p3 p4 p5 p6 p7 p8 p9 p10 p11 p12 p13 p14) (hnd : d.nd = 2) (hf1 : x1 ∈ d.fs) (hf2 : x2 ∈ d.fs) (S : XScope ["self", x1, x2] d.scope)
    (hdb1 : (x1 == ("__debug__" : Str)) = false) (hcd1 : (x1 == ("__classdict__" : Str)) = false) (hdb2 : (x2 == ("__debug__" : Str)) = false) (hcd2 : (x2 == ("__classdict__" : Str)) = false)
    (hp : (d.params.posonlyargs ++ d.params.args).head? = some ar) (har : ar.arg = "self") (hi : SupOk d.scope (.Name x1 p5) [.Name x2 p10] p0 p1 p2 p3 p4) (hB : BindI d 3 2 ["self", x1, x2]) :
    DExc P w K mg base (k + 1) d.x (He.ga K d.x) (g2 x1 x2) := by
  obtain ⟨fd, T⟩ := c.ini
  rw [hnd] at T
  have B := binds_ini (ps := ["self", x1, x2]) (n := 3) T (by decide) rfl hB
  rw [hb] at T
  refine ⟨G, T.O, _, fd, ["self", x1, x2], sp2 (He.ga K d.x) x1 x2, T.iC, T.tI, fn_x2 T S (c.no x1 hf1) (c.no x2 hf2) hdb1 hcd1 hdb2 hcd2 hp har hi, B, fun ds fs e => ?_⟩
  match ds, e with
  | [y1, y2], e =>
    cases e
    refine ⟨by simp, fun F vs rs => ?_⟩
    obtain ⟨v1, r1, rfl, rv1, rs⟩ := rs.consV
    obtain ⟨v2, rfl, rv2⟩ := rep1 rs
    exact ⟨[(x2, v2), (x1, v1)], .cons ⟨rfl, rv2⟩ (.cons ⟨rfl, rv1⟩ .nil), fun a H Q E ea q => ⟨a, v1, v2, rfl, ea, q⟩⟩
end
theorem xfree_of {sc : Scope} (h : ∀ p ∈ sc.names, p.2 = .free → p.1 = ("__class__" : Str)) : ∀ y, sc.names.lookup y = some .free → y = ("__class__" : Str) := fun y e => h _ (PySem.mem_of_lookup e) rfl
abbrev dW (W : DXK) : DW := fun C fs _ M => W C fs M
/-! ### checks of the text's classes -/
def iclsB (K : Frag) (C : Addr) : Bool := He.eqO (PySem.W.findIn K (.ref C) "__class__") (some (some (.builtin "object.__class__"))) && (He.eqO (PySem.W.specialIn K (.builtin "object.__class__") "__get__") (some (some (.builtin "getset_descriptor.__get__"))) &&
  (decide (PySem.W.takesIn K (.builtin "object.__class__") = some true) && decide (PySem.W.mroIn K C (.type "object") = some true)))
theorem iclsB_ok {K : Frag} {x : Str} (h0 : (He.Fa.cls x).ok K = true) (h : iclsB K (He.ga K x) = true) : ICls K (He.ga K x) := by
  obtain ⟨h1, h⟩ := He.ba h
  obtain ⟨h2, h⟩ := He.ba h
  obtain ⟨h3, h4⟩ := He.ba h
  exact ⟨He.cls_ok h0, He.eqO_ok h1, He.eqO_ok h2, of_decide_eq_true h3, of_decide_eq_true h4⟩
/-- the getter of a property -/
def pg (K : Frag) (x f : Str) : Addr := match PySem.W.recIn K (He.ma K (He.ga K x) f) "property" with
  | some (.ref g :: _) => g
  | _ => 0
def propB (K : Frag) (x f : Str) : Bool := He.eqO (PySem.W.findIn K (.ref (He.ga K x)) f) (some (some (.ref (He.ma K (He.ga K x) f)))) && (He.eqO (PySem.W.specialIn K (.ref (He.ma K (He.ga K x) f)) "__get__") (some (some (.builtin "property.__get__"))) &&
  (decide (PySem.W.takesIn K (.ref (He.ma K (He.ga K x) f)) = some true) && (match PySem.W.recIn K (He.ma K (He.ga K x) f) "property" with
    | some (.ref g :: _) => true
    | _ => false)))
theorem propB_ok {K : Frag} {x f : Str} (h : propB K x f = true) : PropOf K (He.ga K x) f (He.ma K (He.ga K x) f) (pg K x f) := by
  obtain ⟨h1, h⟩ := He.ba h
  obtain ⟨h2, h⟩ := He.ba h
  obtain ⟨h3, h4⟩ := He.ba h
  refine ⟨He.eqO_ok h1, He.eqO_ok h2, of_decide_eq_true h3, ?_⟩
  unfold pg
  split at h4
  · rename_i g rest e
    rw [e]; exact ⟨rest, rfl⟩
  · cases h4
def kitB' (K : Frag) (a b : Value) (r : Bool) : Bool := decide (PySem.W.kitOne K a b = some r)
def subB (K : Frag) (a b : Value) (r : Bool) : Bool := decide (PySem.W.subIn K a b = some r)
end DH
set_option Elab.async false
set_option linter.all false
set_option maxRecDepth 100000
/-! DP1: unfolding readings; plain facts about values -/
namespace DL
open PySem PySem.Spec L2 DH
section
variable {M : DM} {Q : DK} {i j : Int} {x y : Str} {a b : Bool}
@[simp] theorem put_two {M : DM} {p : Addr} {m n : MO} : put (put M p m) p n = put M p n := put_put
@[simp] theorem put_at {M : DM} {p : Addr} {m : MO} : put M p m p = some m := put_same
@[simp] theorem dAdd_ii : dAdd (.int i) (.int j) M Q = Q (.int (i + j)) M := rfl
@[simp] theorem dAdd_ss : dAdd (.str x) (.str y) M Q = (x.length + y.length ≤ sizeLine ∧ Q (.str (x ++ y)) M) := rfl
@[simp] theorem dSub_ii : dSub (.int i) (.int j) M Q = Q (.int (i - j)) M := by simp [dSub, dII]
@[simp] theorem dMul_ii : dMul (.int i) (.int j) M Q = (CMul i j ∧ Q (.int (i * j)) M) := rfl
@[simp] theorem dMod_ii : dMod (.int i) (.int j) M Q = (0 < j ∧ Q (.int (i % j)) M) := rfl
@[simp] theorem dFdiv_ii : dFdiv (.int i) (.int j) M Q = (CDiv i j ∧ Q (.int (i / j)) M) := rfl
@[simp] theorem dPow_ii : dPow (.int i) (.int j) M Q = (CPowB i j ∧ Q (.int (i ^ j.toNat)) M) := rfl
@[simp] theorem dLt_ii : dCmp .Lt (.int i) (.int j) M Q = Q (.bl (decide (i < j))) M := by simp [dCmp, res, lay, like, cmpD, ltD]
@[simp] theorem dGt_ii : dCmp .Gt (.int i) (.int j) M Q = Q (.bl (decide (j < i))) M := by simp [dCmp, res, lay, like, cmpD, ltD]
@[simp] theorem dLe_ii : dCmp .LtE (.int i) (.int j) M Q = Q (.bl (decide (i ≤ j))) M := by
  have e : (!decide (j < i)) = decide (i ≤ j) := by rw [← decide_not]; exact decide_eq_decide.mpr Int.not_lt
  simp only [dCmp, res, lay, like, cmpD, ltD, e, Bool.and_self, true_and]
@[simp] theorem dGe_ii : dCmp .GtE (.int i) (.int j) M Q = Q (.bl (decide (j ≤ i))) M := by
  have e : (!decide (i < j)) = decide (j ≤ i) := by rw [← decide_not]; exact decide_eq_decide.mpr Int.not_lt
  simp only [dCmp, res, lay, like, cmpD, ltD, e, Bool.and_self, true_and]
@[simp] theorem dEq_ii : dEq (.int i) (.int j) M Q = Q (.bl (decide (i = j))) M := by
  have e : (i == j) = decide (i = j) := rfl
  simp only [dEq, res, lay, eqD, e, Bool.and_self, true_and]
@[simp] theorem dNe_ii : dNe (.int i) (.int j) M Q = Q (.bl (!decide (i = j))) M := by
  have e : (i == j) = decide (i = j) := rfl
  simp only [dNe, res, lay, eqD, e, Bool.and_self, true_and]
@[simp] theorem dEq_ss : dEq (.str x) (.str y) M Q = Q (.bl (x == y)) M := by simp only [dEq, res, lay, eqD, Bool.and_self, true_and]
@[simp] theorem dNe_ss : dNe (.str x) (.str y) M Q = Q (.bl (!(x == y))) M := by simp only [dNe, res, lay, eqD, Bool.and_self, true_and]
@[simp] theorem dEq_bb : dEq (.bl a) (.bl b) M Q = Q (.bl (a == b)) M := by simp only [dEq, res, lay, eqD, Bool.and_self, true_and]
@[simp] theorem dNe_bb : dNe (.bl a) (.bl b) M Q = Q (.bl (!(a == b))) M := by simp only [dNe, res, lay, eqD, Bool.and_self, true_and]
@[simp] theorem dInt_i : dInt [.int i] M Q = Q (.int i) M := rfl
@[simp] theorem dInt_b : dInt [.bl a] M Q = Q (.int (if a then 1 else 0)) M := rfl
@[simp] theorem dBool_b : dBool [.bl a] M Q = Q (.bl a) M := rfl
theorem dIx_ref {p : Addr} {xs : List D} (h : M p = some (.lst xs)) : dIx (.ref p) (.int i) M Q = (match atI xs i with | some d => Q d M | none => False) := by
  unfold dIx asR res
  simp only [h] <;> cases atI xs i <;> rfl
@[simp] theorem dIx_lst {xs : List D} : dIx (.lst xs) (.int i) M Q = (match atI xs i with | some d => Q d M | none => False) := rfl
@[simp] theorem dIx_tup {xs : List D} : dIx (.tup xs) (.int i) M Q = (match atI xs i with | some d => Q d M | none => False) := rfl
@[simp] theorem dIx_str {z : Str} : dIx (.str z) (.int i) M Q = (z.length ≤ sizeLine ∧ match atI z.cps.toList i with | some c => Q (.str ⟨#[c]⟩) M | none => False) := rfl
@[simp] theorem dSl_str {z : Str} {lo hi : Option Int} : dSl (.str z) lo hi M Q = (z.length ≤ sizeLine ∧ Q (.str (cutS z lo hi)) M) := rfl
@[simp] theorem dIx_put {p : Addr} {xs : List D} : dIx (.ref p) (.int i) (put M p (.lst xs)) Q = (match atI xs i with | some d => Q d (put M p (.lst xs)) | none => False) := dIx_ref put_same
theorem dEq_of {x y : D} {b : Bool} (h : (lay 60 (res M x) && lay 60 (res M y)) = true) (e : eqD (res M x) (res M y) = b) (q : Q (.bl b) M) : dEq x y M Q := ⟨h, by rw [e]; exact q⟩
theorem dNe_of {x y : D} {b : Bool} (h : (lay 60 (res M x) && lay 60 (res M y)) = true) (e : eqD (res M x) (res M y) = b) (q : Q (.bl (!b)) M) : dNe x y M Q := ⟨h, by rw [e]; exact q⟩
end
theorem atI_lt {α : Type} {xs : List α} {i : Int} (h0 : 0 ≤ i) (h1 : i < xs.length) : atI xs i = some (xs[i.toNat]'(by omega)) := by
  unfold atI ixN
  rw [if_pos h0, if_pos h1]
  simp
theorem rng_zero {lo : Int} : rng lo 0 = [] := rfl
theorem rng_succ {lo : Int} {n : Nat} : rng lo (n + 1) = .int lo :: rng (lo + 1) n := by
  unfold rng
  rw [List.range_succ_eq_map, List.map_cons, List.map_map]
  congr 1
  · simp
  · apply List.map_congr_left
    intro k _
    simp only [Function.comp_apply, D.int.injEq]
    omega
theorem size63 : (63 : Nat) ≤ sizeLine := by rw [sizeLine_eq]; decide
theorem small {n : Nat} (h : n ≤ 1000000) : n ≤ sizeLine := by rw [sizeLine_eq]; omega
theorem eqL_refl_of {l : List D} (h : ∀ d ∈ l, eqD d d = true) : eqL l l = true := by
  induction l with
  | nil => rfl
  | cons x l ih =>
    simp only [eqL, Bool.and_eq_true]
    exact ⟨h x (List.mem_cons_self ..), ih fun d hd => h d (List.mem_cons_of_mem _ hd)⟩
/-- data are equal to themselves -/
theorem eqD_refl : ∀ {n : Nat} {d : D}, lay n d = true → eqD d d = true
  | _, .non, _ => rfl
  | _, .bl _, _ => by simp [eqD]
  | _, .int _, _ => by simp [eqD]
  | _, .str _, _ => by simp [eqD]
  | n + 1, .lst xs, h => by
    simp only [eqD]
    exact eqL_refl_of fun d hd => eqD_refl (n := n) (List.all_eq_true.mp (show xs.all (lay n) = true from h) d hd)
  | n + 1, .tup xs, h => by
    simp only [eqD]
    exact eqL_refl_of fun d hd => eqD_refl (n := n) (List.all_eq_true.mp (show xs.all (lay n) = true from h) d hd)
  | 0, .lst _, h => by simp [lay] at h
  | 0, .tup _, h => by simp [lay] at h
  | n, .ty _, h => by cases n <;> simp [lay] at h
  | n, .ref _, h => by cases n <;> simp [lay] at h
  | n, .ins _ _ _, h => by cases n <;> simp [lay] at h
  | n, .scr _, h => by cases n <;> simp [lay] at h
theorem lay_mono : ∀ {n m : Nat} {d : D}, n ≤ m → lay n d = true → lay m d = true
  | _, _, .non, _, _ => by simp [lay]
  | _, _, .bl _, _, _ => by simp [lay]
  | _, _, .int _, _, _ => by simp [lay]
  | _, _, .str _, _, _ => by simp [lay]
  | n + 1, m + 1, .lst xs, h, e => by
    simp only [lay] at e ⊢
    exact List.all_eq_true.mpr fun d hd => lay_mono (Nat.le_of_succ_le_succ h) (List.all_eq_true.mp e d hd)
  | n + 1, m + 1, .tup xs, h, e => by
    simp only [lay] at e ⊢
    exact List.all_eq_true.mpr fun d hd => lay_mono (Nat.le_of_succ_le_succ h) (List.all_eq_true.mp e d hd)
  | 0, _, .lst _, _, h => by simp [lay] at h
  | 0, _, .tup _, _, h => by simp [lay] at h
  | n + 1, 0, .lst _, h, _ => by omega
  | n + 1, 0, .tup _, h, _ => by omega
  | n, _, .ty _, _, h => by cases n <;> simp [lay] at h
  | n, _, .ref _, _, h => by cases n <;> simp [lay] at h
  | n, _, .ins _ _ _, _, h => by cases n <;> simp [lay] at h
  | n, _, .scr _, _, h => by cases n <;> simp [lay] at h
theorem up_mk {Q : DK} {d : D} {M : DM} (h : Q d M) : up Q d M := up.mk h
/-- values that are data without own classes -/
def plain : D → Bool
  | .non | .bl _ | .int _ | .str _ | .tup _ | .lst _ => true
  | _ => false
def isInt : D → Bool
  | .int _ => true
  | _ => false
def isBl : D → Bool
  | .bl _ => true
  | _ => false
def isStr : D → Bool
  | .str _ => true
  | _ => false
def isTup : D → Bool
  | .tup _ => true
  | _ => false
/-- isinstance against a built-in type, of plain values -/
theorem isi_int {K : Frag} {M : DM} {d : D} {Q : DK} (h : plain d = true) (q : Q (.bl (isInt d || isBl d)) M) : dIsi K [d, .ty "int"] M Q := by
  cases d <;> first | exact ⟨trivial, q⟩ | cases h
theorem isi_bool {K : Frag} {M : DM} {d : D} {Q : DK} (h : plain d = true) (q : Q (.bl (isBl d)) M) : dIsi K [d, .ty "bool"] M Q := by
  cases d <;> first | exact ⟨trivial, q⟩ | cases h
theorem isi_str {K : Frag} {M : DM} {d : D} {Q : DK} (h : plain d = true) (q : Q (.bl (isStr d)) M) : dIsi K [d, .ty "str"] M Q := by
  cases d <;> first | exact ⟨trivial, q⟩ | cases h
theorem isi_tuple {K : Frag} {M : DM} {d : D} {Q : DK} (h : plain d = true) (q : Q (.bl (isTup d)) M) : dIsi K [d, .ty "tuple"] M Q := by
  cases d <;> first | exact ⟨trivial, q⟩ | cases h
end DL
set_option Elab.async false
set_option linter.all false
set_option maxRecDepth 100000
/-! DH3: glue: from a def that keeps its promise to what its callers use -/
namespace DH
open PySem PySem.Spec L2 DX DL
/-- a comprehension's block, by a look at the names -/
def blkB (N : List Str) (sc scope : Scope) (own : List (Str × Nat)) : Bool := decide (scope.kind = .function) && (decide (∀ y ∈ scope.names, scope.names.lookup y.1 = some y.2) && (decide (∀ p ∈ own, N[p.2]? = some p.1) &&
  (decide (∀ y ∈ scope.names, y.2 = .free → sc.names.lookup y.1 = some .cell ∨ sc.names.lookup y.1 = some .free) && decide (∀ y ∈ scope.names, y.2 = .local ∨ y.2 = .cell → y.1 ∈ own.map (·.1) ∨ y.1 ∉ N))))
theorem blk_of {N : List Str} {sc scope : Scope} {own : List (Str × Nat)} (h : blkB N sc scope own = true) : BlkOk N sc scope own := by
  obtain ⟨h1, h⟩ := He.ba h
  obtain ⟨h2, h⟩ := He.ba h
  obtain ⟨h3, h⟩ := He.ba h
  obtain ⟨h4, h5⟩ := He.ba h
  exact ⟨of_decide_eq_true h1, of_decide_eq_true h2, of_decide_eq_true h3, of_decide_eq_true h4, of_decide_eq_true h5⟩
section
variable {P : Program} {w : World} {K : Frag} {mg : Str → Option Value} {base : Heap} {k : Nat} {x q : Str} {pa : Arguments} {bo : List Stmt} {sc : Scope} {dvs : List V} {f C : Addr} {ps : List Str} {dsp : DSp} {m : Str}
/-- the def at f keeps dsp -/
def Keeps (P : Program) (w : World) (K : Frag) (mg : Str → Option Value) (base : Heap) (k : Nat) (x q : Str) (pa : Arguments) (bo : List Stmt) (sc : Scope) (dvs : List V) (f : Addr) (ps : List Str) (dsp : DSp) : Prop :=
  ∃ fd, FunD K x q pa bo sc dvs [] f fd ∧ DFn P w K mg base k f fd ps dsp
/-- all parameters given, no defaults -/
def BindN (K : Frag) (x q : Str) (pa : Arguments) (bo : List Stmt) (sc : Scope) (f : Addr) (ps : List Str) : Prop := ∀ fd, FunD K x q pa bo sc [] [] f fd → Binds K fd ps []
theorem Keeps.cal (h : Keeps P w K mg base k x q pa bo sc [] f ps dsp) (b : BindN K x q pa bo sc f ps) (hm : mg x = some (.ref f)) : DCal P w K mg base k x dsp := by
  obtain ⟨fd, F, D⟩ := h
  exact ⟨f, fd, ps, [], [], [], dsp, hm, F.kp, D, b fd F, .nil, fun _ => RepL.nil, fun as M Q E h => by rw [List.append_nil]; exact h⟩
theorem Keeps.met (h : Keeps P w K mg base k m q pa bo sc [] f ps dsp) (b : BindN K m q pa bo sc f ps) (hc : Cls K C) (hm : Meth K C m f) : DMet P w K mg base k C m dsp := by
  obtain ⟨fd, F, D⟩ := h
  exact ⟨f, fd, ps, [], [], [], dsp, hc, hm, D, b fd F, .nil, fun _ => RepL.nil, fun as M Q E h => by rw [List.append_nil]; exact h⟩
theorem Keeps.prp {pr : Addr} (h : Keeps P w K mg base k m q pa bo sc [] f ps dsp) (b : BindN K m q pa bo sc f ps) (hc : Cls K C) (hm : PropOf K C m pr f) : DPrp P w K mg base k C m dsp := by
  obtain ⟨fd, F, D⟩ := h
  exact ⟨pr, f, fd, ps, hc, hm, D, b fd F⟩
theorem vals_rep {F : Hp} : ∀ {dd : List D} {vs : List V}, RepL K F dd vs → RepL K F dd vs := fun h => h
/-- the last values are left out: dd are their defaults -/
theorem Keeps.mak {dsp' : DSp} {dd : List D} (n j : Nat) (h : Keeps P w K mg base k "__init__" q pa bo sc dvs f ps dsp) (hd : dvs ≠ []) (hn : n + (dvs.length - j) = ps.length)
    (hb : ∀ (T : Addr) (kV doc pm : Value) (an : Option Addr) (cdv ct : Value) (us its : List Value), us.length = n → its.length = dvs.length →
      ∃ k, bindArgs (PySem.W.fnOf "__init__" q pa bo sc (.ref T) kV doc pm an cdv ct) ⟨us, []⟩ = seqItems? (.ref T) >>= k ∧ k (some its.toArray) = pure (ps.zip (us ++ its.drop j)))
    (hdd : ∀ F, RepL K F dd (dvs.drop j)) (hm : mg x = some (.ref C)) (hmk : Mk K C f)
    (hl : ∀ as M Q E, dsp' as M Q E → ∀ q, M q = none → dsp (.ref q :: (as ++ dd)) (put M q (.ins C [])) (fun v M2 => v = .non ∧ up Q (.ref q) M2) (upX E)) : DMak P w K mg base k x dsp' := by
  obtain ⟨fd, F, D⟩ := h
  obtain ⟨ds, hv, B⟩ := F.binds1 n j hd hn hb
  exact ⟨C, f, fd, ps, ds, dvs.drop j, dd, dsp, hm, hmk, D, B, hv, hdd, hl⟩
/-- without defaults -/
theorem Keeps.mak0 {dsp' : DSp} (h : Keeps P w K mg base k "__init__" q pa bo sc [] f ps dsp) (b : BindN K "__init__" q pa bo sc f ps) (hm : mg x = some (.ref C)) (hmk : Mk K C f)
    (hl : ∀ as M Q E, dsp' as M Q E → ∀ q, M q = none → dsp (.ref q :: as) (put M q (.ins C [])) (fun v M2 => v = .non ∧ up Q (.ref q) M2) (upX E)) : DMak P w K mg base k x dsp' := by
  obtain ⟨fd, F, D⟩ := h
  exact ⟨C, f, fd, ps, [], [], [], dsp, hm, hmk, D, b fd F, .nil, fun _ => RepL.nil, fun as M Q E h q hq => by rw [List.append_nil]; exact hl as M Q E h q hq⟩
theorem FrzTo.insP {M : DM} {p C : Addr} {fs : List (Str × D)} (h : M p = none) : FrzTo (put M p (.ins C fs)) (.ref p) M (insOf C fs) := by
  have := FrzTo.ins (M := put M p (.ins C fs)) (p := p) (C := C) (fs := fs) put_same
  rwa [drp_put h] at this
theorem DCal.lift {k' : Nat} (h : DCal P w K mg base k x dsp) (hk : k ≤ k') : DCal P w K mg base k' x dsp := by
  obtain ⟨f, fd, ps, ds, dvs, dd, dsp0, h1, h2, h3, r⟩ := h.ex
  exact ⟨f, fd, ps, ds, dvs, dd, dsp0, h1, h2, h3.mono hk, r⟩
end
end DH
set_option Elab.async false
set_option linter.all false
set_option maxRecDepth 100000
/-! DH4: the end of a law -/
namespace DH
open PySem PySem.Spec PyProof.Rows L2 DX DL
/-- a law's promise: of every script it tells True -/
def Tells (K : Frag) (dsp : DSp) : Prop := ∀ (ns : List Int), ns.length ≤ 63 → dsp [.scr (ns.map D.int)] (fun _ => none) (fun d _ => d = .bl true) (fun _ _ _ => False)
theorem repL_ints {K : Frag} {F : Hp} : ∀ ns : List Int, RepL K F (ns.map D.int) (ns.map V.int)
  | [] => RepL.nil
  | n :: ns => RepL.cons rep_int (repL_ints ns)
theorem Tells.low {K : Frag} {dsp : DSp} (h : Tells K dsp) {H : Hp} {a : Addr} {ns : List Int} (hl : ns.length ≤ 63) (hs : SqL K H a (ns.map V.int)) : lowSp K dsp [.ref a] H (fun v _ => v = .bl true) fun _ _ _ => False := by
  refine ⟨H, fun _ => none, [.scr (ns.map D.int)], fun d _ => d = .bl true, fun _ _ _ => False, ⟨Same.refl H, fun a m e => by cases e⟩, RepL.cons ?_ RepL.nil, h ns hl, fun d M F' H' v q _ _ x => ?_, fun cls d H' ⟨_, _, _, _, _, _, _, _, _, _, _, _, z⟩ => z.elim⟩
  · unfold Rep
    exact ⟨a, ns.map V.int, rfl, hs, repL_ints ns⟩
  · subst q
    unfold Rep at x
    exact x
theorem cx_none {P : Program} {w : World} {H : Hp} {s : Shared} {e : Value} {s' : Shared} (h : L2.CX P w [] H s (fun _ _ _ => False) e s') : False := by
  obtain ⟨_, _, _, _, _, _, _, _, _, _, _, _, z⟩ := h
  exact z
/-- the law's def keeps a promise that tells True -/
theorem walkD {l : PySem.W.OpenLaw} {k : Nat} {q : Program} {loose : List Str} {XP : (Str → Option Value) → Heap → Prop} {YP : World → Heap → Prop} {d : DefRec} {x : Str}
    (hn : l.most = some 63) (hdf : d.params.defaults = []) (hr : Room k callerA)
    (G : ∀ (w : World) (mg : Str → Option Value) (fa : Addr) (h : Heap), YP w h → h.Ns mainGlobals mg → mg d.name = some (.ref fa) →
      ∃ (K : Frag) (fd : FuncData) (dsp : DSp), K.In h ∧ (∀ (s : Shared) (u : Value), BindsTo s fd ⟨[u], []⟩ [(x, u)]) ∧ Tells K dsp ∧
        ∀ base : Heap, K.In base → base.Ns mainGlobals mg → DFn l.prog w K mg base k fa fd [x] dsp) :
    PySem.W.WalkO q loose XP YP l.row.toRowW d [] (fun f vs => PySem.call f vs) := by
  refine Att.attach_call hn hdf fun w s₀ s₁ mg mb fa o pm cd doc a vs ns G0 Y ho hd hcd hmg hobj hints hlen hg => ?_
  obtain ⟨K, fd, dsp, KX, hb, ht, hF⟩ := G w mg fa _ Y G0.T.g hmg
  exact law_call KX G0.T.g G0.T.b G0.T.builtins G0.T.nolimit hg hobj hints (Nat.le_trans hlen size63) hr hF hb (fun H _ hS => ht.low hlen hS) fun H e s' z => cx_none z
end DH
set_option Elab.async false
set_option linter.all false
set_option maxRecDepth 100000
set_option maxHeartbeats 4000000
/-! DS1: sets whose members are tuples (nested, of numbers and texts): the table -/
namespace DS
open PySem PySem.Spec PyProof.Rows L2 SeqAt
/-- the tuple at b is the key k -/
def Ky (h : Heap) (k : NestedKey) (b : Addr) : Prop := NestedIs h k (.ref b) ∧ k.depth ≤ 8
section
variable {P : Program} {w : World} {A : Around} {E : Value → Shared → Prop} {s : Shared}
/-- v is no thing of an own class, n levels down -/
def NoOwn (P : Program) (w : World) (n : Nat) (s : Shared) (v : Value) : Prop := ∀ (A : Around) (E : Value → Shared → Prop) (Q : Bool → Shared → Prop), Q false s → wpAny (model P w) A (ofAClassStatement n v) Q E s
theorem NoOwn.flat {n : Nat} {v : Value} (e : ofAClassStatement n v = pure false) : NoOwn P w n s v := fun A E Q q => by rw [e]; exact wpAny_pure q
theorem NoOwn.tup {n : Nat} {b : Addr} {ob : Obj} {us : Array Value} {m : Nat} (hb : s.heap.get? b = some ob) (hc : ob.cls = .type "tuple") (hd : ob.data = .seq us m) (all : ∀ v ∈ us.toList, NoOwn P w n s v) : NoOwn P w (n + 1) s (.ref b) := fun A E Q q => by
  have ty : s.TypeIs (.ref b) "tuple" := ⟨ob, hb, hc⟩
  unfold ofAClassStatement
  refine wpAny_bind (wpAny_typeOf ty ?_)
  dsimp only
  simp only [show (("tuple" : String) == "tuple") = true by decide, if_true, Bool.not_true, Bool.false_eq_true, if_false]
  try refine wpAny_bind (wpAny_pure ?_)
  try simp only [Bool.not_true, Bool.false_eq_true, if_false]
  show wpAny _ _ (seqItems? (.ref b) >>= _) _ _ s
  refine wpAny_bind (wpAny_seqItems hb hd ?_)
  dsimp only
  refine wpAny_bind ?_
  show wpAny _ _ (forIn us _ _) _ _ s
  rw [← Array.forIn_toList]
  refine wpAny_forIn_list _ (fun l r s1 => r.1 = none ∧ s1 = s ∧ ∀ v ∈ l, NoOwn P w n s v) _ (fun v l r s1 hy => ?_) (fun r s1 hy => ?_) _ _ ⟨rfl, rfl, all⟩
  · obtain ⟨h1, rfl, h3⟩ := hy
    refine wpAny_bind (h3 v (List.mem_cons_self ..) _ _ _ ?_)
    simp only [Bool.false_eq_true, if_false]
    exact wpAny_pure ⟨rfl, rfl, fun u hu => h3 u (List.mem_cons_of_mem _ hu)⟩
  · obtain ⟨r1, r2⟩ := r
    obtain ⟨h1, rfl, _⟩ := hy
    simp only at h1
    subst h1
    exact wpAny_pure q
mutual
theorem noOwn_key : ∀ (k : NestedKey) (v : Value) (n : Nat), NestedIs s.heap k v → k.depth ≤ n → NoOwn P w n s v
  | .none, _, n, h, _ => by cases h; exact .flat (by cases n <;> rfl)
  | .num i, _, n, h, _ => by cases h <;> exact .flat (by cases n <;> rfl)
  | .text y, _, n, h, _ => by cases h; exact .flat (by cases n <;> rfl)
  | .tup ks, _, n, h, hn => by
    cases h with
    | tup h1 h2 h3 h4 =>
      simp only [NestedKey.depth] at hn
      match n, hn with
      | 0, hn => omega
      | n + 1, hn => exact .tup h1 h2 h3 (noOwn_keys ks _ n h4 (by omega))
theorem noOwn_keys : ∀ (ks : List NestedKey) (vs : List Value) (n : Nat), NestedAll s.heap ks vs → NestedKey.depthAll ks ≤ n → ∀ v ∈ vs, NoOwn P w n s v
  | [], _, n, h, _, v, hv => by cases h; cases hv
  | k :: ks, _, n, h, hn, v, hv => by
    cases h with
    | cons h1 h2 =>
      simp only [NestedKey.depthAll] at hn
      rcases List.mem_cons.mp hv with rfl | hv
      · exact noOwn_key k _ n h1 (by omega)
      · exact noOwn_keys ks _ n h2 (by omega) v hv
end
/-- whether its hash is told by its value is answered, and nothing happens -/
def Asked (P : Program) (w : World) (n : Nat) (s : Shared) (v : Value) : Prop := ∀ (A : Around) (E : Value → Shared → Prop) (Q : Bool → Shared → Prop), (∀ b, Q b s) → wpAny (model P w) A (hashByValue n v) Q E s
theorem Asked.flat {n : Nat} {v : Value} {b : Bool} (e : hashByValue n v = pure b) : Asked P w n s v := fun A E Q q => by rw [e]; exact wpAny_pure (q b)
theorem Asked.tup {n : Nat} {b : Addr} {ob : Obj} {us : Array Value} {m : Nat} (hb : s.heap.get? b = some ob) (hc : ob.cls = .type "tuple") (hd : ob.data = .seq us m) (all : ∀ v ∈ us.toList, Asked P w n s v) : Asked P w (n + 1) s (.ref b) := fun A E Q q => by
  have ty : s.TypeIs (.ref b) "tuple" := ⟨ob, hb, hc⟩
  unfold hashByValue
  refine wpAny_bind (wpAny_specialOf ty F.slot_tuple_hash.lookup ?_)
  show wpAny _ _ (seqItems? (.ref b) >>= _) _ _ s
  refine wpAny_bind (wpAny_seqItems hb hd ?_)
  refine wpAny_bind ?_
  show wpAny _ _ (forIn us _ _) _ _ s
  rw [← Array.forIn_toList]
  refine wpAny_forIn_list _ (fun l r s1 => s1 = s ∧ ∀ v ∈ l, Asked P w n s v) _ (fun v l r s1 hy => ?_) (fun r s1 hy => ?_) _ _ ⟨rfl, all⟩
  · obtain ⟨rfl, h3⟩ := hy
    refine wpAny_bind (h3 v (List.mem_cons_self ..) _ _ _ fun b => ?_)
    cases b with
    | true =>
      simp only [Bool.not_true, Bool.false_eq_true, if_false]
      exact wpAny_pure ⟨rfl, fun u hu => h3 u (List.mem_cons_of_mem _ hu)⟩
    | false =>
      simp only [Bool.not_false, if_true]
      exact wpAny_pure (wpAny_pure (q false))
  · obtain ⟨r1, r2⟩ := r
    obtain ⟨rfl, _⟩ := hy
    cases r1 with
    | none => exact wpAny_pure (q _)
    | some z => exact wpAny_pure (q _)
mutual
theorem asked_key : ∀ (k : NestedKey) (v : Value) (n : Nat), NestedIs s.heap k v → k.depth ≤ n → Asked P w n s v
  | .none, _, n, h, _ => by cases h; exact .flat (b := true) (by cases n <;> rfl)
  | .num i, _, n, h, _ => by cases h <;> exact .flat (b := true) (by cases n <;> rfl)
  | .text y, _, n, h, _ => by cases h; exact .flat (b := false) (by cases n <;> rfl)
  | .tup ks, _, n, h, hn => by
    cases h with
    | tup h1 h2 h3 h4 =>
      simp only [NestedKey.depth] at hn
      match n, hn with
      | 0, hn => omega
      | n + 1, hn => exact .tup h1 h2 h3 (asked_keys ks _ n h4 (by omega))
theorem asked_keys : ∀ (ks : List NestedKey) (vs : List Value) (n : Nat), NestedAll s.heap ks vs → NestedKey.depthAll ks ≤ n → ∀ v ∈ vs, Asked P w n s v
  | [], _, n, h, _, v, hv => by cases h; cases hv
  | k :: ks, _, n, h, hn, v, hv => by
    cases h with
    | cons h1 h2 =>
      simp only [NestedKey.depthAll] at hn
      rcases List.mem_cons.mp hv with rfl | hv
      · exact asked_key k _ n h1 (by omega)
      · exact asked_keys ks _ n h2 (by omega) v hv
end
/-- a search among keys shows nothing -/
theorem unseen {k : NestedKey} {b : Addr} {Q : Bool → Shared → Prop} (hk : Ky s.heap k b) {ys : List Value} (hy : ∀ y ∈ ys, ∃ k' c, y = Value.ref c ∧ Ky s.heap k' c) (q : Q false s) : wpAny (model P w) A (searchCouldBeSeen (.ref b) ys) Q E s := by
  unfold searchCouldBeSeen
  refine wpAny_bind ?_
  refine wpAny_forIn_list _ (fun l r s1 => r.1 = none ∧ s1 = s ∧ ∀ y ∈ l, ∃ k' c, y = Value.ref c ∧ Ky s.heap k' c) _ (fun v l r s1 hz => ?_) (fun r s1 hz => ?_) _ _ ⟨rfl, rfl, hy⟩
  · obtain ⟨h1, rfl, h3⟩ := hz
    obtain ⟨k', c, rfl, hc⟩ := h3 v (List.mem_cons_self ..)
    have more : ∀ y ∈ l, ∃ k' c, y = Value.ref c ∧ Ky s1.heap k' c := fun u hu => h3 u (List.mem_cons_of_mem _ hu)
    dsimp only
    by_cases hv : (b == c || (carriedByValue (.ref b) && carriedByValue (.ref c))) = true
    · exact wp_if_pos hv (wpAny_pure ⟨rfl, rfl, more⟩)
    · refine wp_if_neg hv (wpAny_bind (quiet_key k _ 8 s1 hk.1 hk.2 _ _ _ ?_))
      simp only [Bool.not_true, Bool.false_eq_true, if_false]
      refine wpAny_bind (quiet_key k' _ 8 s1 hc.1 hc.2 _ _ _ ?_)
      simp only [Bool.not_true, Bool.false_eq_true, if_false]
      refine wpAny_bind (noOwn_key k _ 8 hk.1 hk.2 _ _ _ ?_)
      simp only [Bool.false_eq_true, if_false]
      refine wpAny_bind (noOwn_key k' _ 8 hc.1 hc.2 _ _ _ ?_)
      simp only [Bool.false_eq_true, if_false]
      exact wpAny_pure ⟨rfl, rfl, more⟩
  · obtain ⟨r1, r2⟩ := r
    obtain ⟨h1, rfl, _⟩ := hz
    simp only at h1
    subst h1
    exact wpAny_pure q
end
end DS
set_option Elab.async false
set_option linter.all false
set_option maxRecDepth 100000
set_option maxHeartbeats 4000000
/-! DS2: search and add -/
namespace DS
open PySem PySem.Spec PyProof.Rows L2 SeqAt
abbrev Row := Addr × NestedKey
abbrev hsh (w : World) (r : Row) : Int := r.2.hash w
def rws (w : World) (L : List Row) : List (Int × Value) := L.map fun r => (hsh w r, Value.ref r.1)
theorem rws_len {w : World} {L : List Row} : (rws w L).length = L.length := by unfold rws; rw [List.length_map]
/-- the object at a is a set with the rows L (what its members are is told elsewhere) -/
structure SetN (w : World) (h : Heap) (a : Addr) (L : List Row) (es : Array (Int × Value)) (ep : Nat) (t : SetTable) : Prop where
  ob : ∃ o, h.get? a = some o ∧ o.ExactSet ∧ o.data = .set es ep t
  rw_ : es.toList = rws w L
  tab : TabOk t (L.map (hsh w))
  nd : (L.map Prod.snd).Nodup
  led : w.params.followText "set-order" = true ∨ t.led = true
  room : L.length * 5 < t.mask * 3
  few : L.length < 64
/-- the members are keys -/
def Mem (h : Heap) (L : List Row) : Prop := ∀ r ∈ L, Ky h r.2 r.1
section
variable {P : Program} {w : World} {A : Around} {E : Value → Shared → Prop} {s : Shared} {a : Addr} {L : List Row} {es : Array (Int × Value)} {ep : Nat} {t : SetTable}
theorem SetN.sz (R : SetN w s.heap a L es ep t) : es.size = L.length := by rw [← Array.length_toList, R.rw_, rws_len]
theorem fits_of (h1 : t.place.size = es.size) (h2 : t.dummies = #[]) (h3 : es.size ≤ t.mask) : t.fits es.size = true := by
  unfold SetTable.fits SetTable.fill
  rw [h2, Bool.and_eq_true, beq_iff_eq, decide_eq_true_eq]
  exact ⟨h1, by show t.place.size + 0 ≤ t.mask; omega⟩
theorem SetN.fits (R : SetN w s.heap a L es ep t) : t.fits es.size = true := by
  have h1 := R.tab.sz
  rw [List.length_map] at h1
  have h3 := R.room
  exact fits_of (h1.trans R.sz.symm) R.tab.dm (by rw [R.sz]; omega)
theorem SetN.ent (R : SetN w s.heap a L es ep t) {i : Nat} {r : Row} (h : L[i]? = some r) : es[i]? = some (hsh w r, Value.ref r.1) := by
  rw [← Array.getElem?_toList, R.rw_, show rws w L = L.map fun r => (hsh w r, Value.ref r.1) from rfl, List.getElem?_map, h]
  rfl
theorem nth_dummy {m : Nat} : ∀ (n : Nat) (p : SetTable.Probe), p.dummy = none → (nth m p n).dummy = none
  | 0, p, h => h
  | n + 1, p, h => nth_dummy n (adv m p) (by unfold adv; split <;> exact h)
/-- the c-th step of the way of the hash θ -/
abbrev stp (t : SetTable) (θ : Int) (c : Nat) : SetTable.Probe := nth t.mask (runAt t.mask (SetTable.bits θ % (t.mask + 1)) (SetTable.bits θ)) c
theorem stp_j {θ : Int} {c : Nat} : (stp t θ c).j = way t.mask θ c := rfl
theorem stp_add {θ : Int} {c q : Nat} : nth t.mask (stp t θ c) q = stp t θ (c + q) := (nth_add t.mask c _ q).symm
theorem find_from (R : SetN w s.heap a L es ep t) (hm : Mem s.heap L) {x : Addr} {k : NestedKey} {θ : Int} (eθ : k.hash w = θ) (hx : Ky s.heap k x) (hu : A.units + 8 < cLine) {N : Nat} (hN : N < 10 * SetTable.turns t.mask) (hK : way t.mask θ N ∉ t.place.toList) (hB : ∀ c, c < N → way t.mask θ c ∈ t.place.toList)
    {Q : SetFound → Shared → Prop} (yes : k ∈ L.map Prod.snd → Q (.there none) s) (no : k ∉ L.map Prod.snd → Q (.free (way t.mask θ N) false) s) :
    ∀ (f c : Nat) (st : Option SetTable.Probe), st.getD (t.probeStart θ) = stp t θ c → c ≤ N → N - c < f → (∀ (i : Nat) r, L[i]? = some r → r.2 = k → ∃ c', c ≤ c' ∧ c' < N ∧ t.place.toList[i]? = some (way t.mask θ c')) →
      wpAny (model P w) A (setSearchFrom a (.ref x) θ true f st) Q E s
  | 0, _, _, _, _, h, _ => absurd h (Nat.not_lt_zero _)
  | f + 1, c, st, hst, hc, hf, back => by
    obtain ⟨ob, hob, hex, hdt⟩ := R.ob
    have gw : ¬ t.gaveWay = true := by
      unfold SetTable.gaveWay
      rw [mask_odd R.tab.mok]
      decide
    rw [setSearchFrom_succ]
    refine wpAny_bind (wpAny_setState_of hob hdt R.fits ?_)
    dsimp only
    refine wp_if_neg gw ?_
    try refine wpAny_bind (wpAny_pure ?_)
    have j1 : ∀ q, (nth t.mask (stp t θ c) q).j = way t.mask θ (c + q) := fun q => by rw [stp_add]
    have spec := go_spec t R.tab.ris R.tab.dm (fun i => (es[i]?.map (·.1)).getD 0) θ (10 * SetTable.turns t.mask) (N - c) (stp t θ c) (nth_dummy c _ rfl) (by omega) (fun q hq => by rw [j1]; exact hB _ (by omega)) (by rw [j1, show c + (N - c) = N by omega]; exact hK)
    have at_ : ∀ (i : Nat) r, L[i]? = some r → (es[i]?.map (·.1)).getD 0 = hsh w r := fun i r hr => by rw [R.ent hr]; rfl
    rcases spec with ⟨q, i, hq, hi, _, hno, hpr⟩ | ⟨hno, hpr⟩
    · have hp2 : t.probe (fun i => (es[i]?.map (·.1)).getD 0) θ (st.getD (t.probeStart θ)) = some (.candidate (way t.mask θ (c + q)) i (stp t θ (c + (q + 1)))) := by
        rw [hst, ← j1, ← stp_add]
        exact hpr
      rw [hp2]
      dsimp only
      rw [j1] at hi
      have hil : i < L.length := by
        have z1 := (List.getElem?_eq_some_iff.mp hi).1
        have z2 := R.tab.sz
        rw [List.length_map] at z2
        rw [Array.length_toList] at z1
        omega
      obtain ⟨r, hr⟩ : ∃ r, L[i]? = some r := ⟨_, List.getElem?_eq_getElem hil⟩
      have hrm := List.mem_of_getElem? hr
      have tail : wpAny (model P w) A (searchRest a (.ref x) θ true f es t (way t.mask θ (c + q)) i (stp t θ (c + (q + 1)))) Q E s := by
        unfold searchRest
        rw [R.ent hr]
        dsimp only
        refine wpAny_bind (wpAny_holding (eqAt_key r.2 k A s _ _ (hm r hrm).1 hx.1 (by have := (hm r hrm).2; omega) P w E _ ?_))
        rw [← NestedKey.decide_eq]
        refine wpAny_bind (wpAny_setState_of hob hdt R.fits ?_)
        dsimp only
        by_cases ek : r.2 = k
        · refine wp_if_pos (by simp [ek]) (wpAny_pure (yes ?_))
          exact List.mem_map.mpr ⟨r, hrm, ek⟩
        · refine wp_if_neg (by simp [ek]) ?_
          try refine wpAny_bind (wpAny_pure ?_)
          rw [sameMem]
          dsimp only
          have sl : t.slot (way t.mask θ (c + q)) = .live i := slot_live R.tab.ris hi
          simp only [if_true, sl, R.ent hr]
          refine wpAny_bind (wpAny_isSame_ref_self (wpAny_bind (wpAny_pure ?_)))
          simp only [if_true]
          refine wp_if_neg (by simp [ek]) ?_
          refine find_from R hm eθ hx hu hN hK hB yes no f (c + (q + 1)) _ rfl (by omega) (by omega) fun i0 r0 h0 e0 => ?_
          obtain ⟨c', b1, b2, b3⟩ := back i0 r0 h0 e0
          refine ⟨c', ?_, b2, b3⟩
          rcases Nat.lt_trichotomy c' (c + q) with z | z | z
          · exfalso
            refine hno (c' - c) i0 (by omega) (by rw [j1, show c + (c' - c) = c' by omega]; exact b3) ?_
            rw [← eθ, ← e0]
            exact at_ i0 r0 h0
          · exfalso
            rw [z] at b3
            have s0 := slot_live R.tab.ris b3
            rw [sl] at s0
            injection s0 with s0
            rw [← s0, hr] at h0
            cases h0
            exact ek e0
          · omega
      by_cases ld : t.led = true
      · refine wp_if_neg (by simp [ld]) ?_
        try refine wpAny_bind (wpAny_pure ?_)
        exact tail
      · refine wp_if_pos (by simp [ld]) (wpAny_bind (unseen hx (fun y hy => ?_) ?_))
        · obtain ⟨e, he, rfl⟩ := List.mem_map.mp hy
          have he2 : e ∈ es.toList := by
            have z : e ∈ es ∧ e.1 = θ := by simpa using he
            simpa using z.1
          rw [R.rw_] at he2
          obtain ⟨r2, hr2, rfl⟩ := List.mem_map.mp he2
          exact ⟨r2.2, r2.1, rfl, hm r2 hr2⟩
        · refine wp_if_neg (by decide) ?_
          try refine wpAny_bind (wpAny_pure ?_)
          exact tail
    · have hp2 : t.probe (fun i => (es[i]?.map (·.1)).getD 0) θ (st.getD (t.probeStart θ)) = some (.empty (way t.mask θ N) none) := by
        have e2 : way t.mask θ N = (nth t.mask (stp t θ c) (N - c)).j := by rw [j1, show c + (N - c) = N by omega]
        rw [hst, e2]
        exact hpr
      rw [hp2]
      dsimp only
      refine wpAny_pure (no fun hin => ?_)
      obtain ⟨r0, h0, e0⟩ := List.mem_map.mp hin
      obtain ⟨i0, hi0, rfl⟩ := List.getElem_of_mem h0
      have h00 : L[i0]? = some L[i0] := List.getElem?_eq_getElem hi0
      obtain ⟨c', b1, b2, b3⟩ := back i0 _ h00 e0
      refine hno (c' - c) i0 (by omega) (by rw [j1, show c + (c' - c) = c' by omega]; exact b3) ?_
      rw [← eθ, ← e0]
      exact at_ i0 _ h00
theorem find_at (R : SetN w s.heap a L es ep t) (hm : Mem s.heap L) {x : Addr} {k : NestedKey} {θ : Int} (eθ : k.hash w = θ) (hx : Ky s.heap k x) (hu : A.units + 8 < cLine) {Q : SetFound → Shared → Prop} (yes : k ∈ L.map Prod.snd → Q (.there none) s)
    (no : ∀ N, k ∉ L.map Prod.snd → way t.mask θ N ∉ t.place.toList → (∀ c, c < N → way t.mask θ c ∈ t.place.toList) → Q (.free (way t.mask θ N) false) s) : wpAny (model P w) A (setSearch a (.ref x) θ true) Q E s := by
  have hroom := R.room
  obtain ⟨N, hN, hK, hB⟩ := R.tab.first (by rw [List.length_map]; omega) θ
  have big : N < 100000 := by
    have : 10 * SetTable.turns t.mask ≤ 1420 := by
      unfold SetTable.turns
      rcases R.tab.mok with e | e | e <;> omega
    omega
  unfold setSearch
  refine find_from R hm eθ hx hu hN hK hB yes (fun hn => no N hn hK hB) 100000 0 none rfl (Nat.zero_le _) (by omega) fun i r hr e => ?_
  have hi : (L.map (hsh w))[i]? = some θ := by rw [List.getElem?_map, hr, ← eθ, ← e]; rfl
  have hil : i < t.place.toList.length := by
    have h1 := (List.getElem?_eq_some_iff.mp hr).1
    have h2 := R.tab.sz
    rw [List.length_map] at h2
    rw [Array.length_toList]
    omega
  have hj := List.getElem?_eq_getElem hil
  obtain ⟨c, hc, e2⟩ := R.tab.before hK hi hj
  exact ⟨c, Nat.zero_le _, hc, by rw [hj, e2]⟩
end
end DS
set_option Elab.async false
set_option linter.all false
set_option maxRecDepth 100000
set_option maxHeartbeats 4000000
/-! DS3: adding -/
namespace DS
open PySem PySem.Spec PyProof.Rows L2 SeqAt
section
variable {P : Program} {w : World} {A : Around} {E : Value → Shared → Prop} {s : Shared}
/-- a key stays one while the set is written -/
theorem Ky.same {h h' : Heap} {k : NestedKey} {a b : Addr} {o : Obj} {es : Array (Int × Value)} {ep : Nat} {t : SetTable} (x : Ky h k b) (ho : h.get? a = some o) (hd : o.data = .set es ep t) (sb : Heap.SameBut a h h') : Ky h' k b :=
  ⟨NestedIs.at (fun c ob vs n hc hv => by
    refine (sb.2 c fun e => ?_).trans hc
    subst e
    rw [ho] at hc
    cases hc
    rw [hd] at hv
    cases hv) k _ x.1, x.2⟩
theorem Ky.keep {h h' : Heap} {k : NestedKey} {b : Addr} (x : Ky h k b) (kp : ∀ c o, h.get? c = some o → h'.get? c = some o) : Ky h' k b := ⟨NestedIs.at (fun c ob vs n hc _ => kp c ob hc) k _ x.1, x.2⟩
theorem rws_ins (L : List Row) (p : Nat) (r : Row) : rws w (L.take p ++ r :: L.drop p) = (rws w L).take p ++ (hsh w r, Value.ref r.1) :: (rws w L).drop p := by
  unfold rws
  rw [List.map_append, List.map_cons, List.map_take, List.map_drop]
theorem get_range {α : Type} (L : List α) : ∀ n, n ≤ L.length → (List.range n).filterMap (fun i => L[i]?) = L.take n
  | 0, _ => rfl
  | n + 1, h => by
    have hn : n < L.length := h
    rw [List.range_succ, List.filterMap_append, get_range L n (Nat.le_of_lt hn), List.take_succ, List.filterMap_cons_some (List.getElem?_eq_getElem hn), List.getElem?_eq_getElem hn]
    rfl
theorem ord_rows (L : List Row) (es : Array (Int × Value)) (ord : Array Nat) (hr : es.toList = rws w L) (hp : ord.toList.Perm (List.range L.length)) :
    ∃ L2, (ord.filterMap (es[·]?)).toList = rws w L2 ∧ L2.Perm L ∧ L2.map (hsh w) = ord.toList.map fun i => (es.map (·.1)).getD i 0 := by
  have ent : ∀ i (h : i < L.length), es[i]? = some (hsh w L[i], Value.ref (L[i]).1) := fun i h => by
    rw [← Array.getElem?_toList, hr, show rws w L = L.map fun r => (hsh w r, Value.ref r.1) from rfl, List.getElem?_map, List.getElem?_eq_getElem h]
    rfl
  have key : ∀ l : List Nat, (∀ i ∈ l, i < L.length) → l.filterMap (fun i => es[i]?) = rws w (l.filterMap fun i => L[i]?) ∧ (l.filterMap fun i => L[i]?).map (hsh w) = l.map fun i => (es.map (·.1)).getD i 0 := by
    intro l
    induction l with
    | nil => intro _; exact ⟨rfl, rfl⟩
    | cons i l ih =>
      intro hl
      have hi := hl i (List.mem_cons_self ..)
      obtain ⟨e1, e2⟩ := ih fun j hj => hl j (List.mem_cons_of_mem _ hj)
      rw [List.filterMap_cons_some (ent i hi), List.filterMap_cons_some (List.getElem?_eq_getElem hi), e1, List.map_cons, List.map_cons, e2]
      refine ⟨rfl, ?_⟩
      have e5 : (es.map (·.1))[i]? = some (hsh w L[i]) := by rw [Array.getElem?_map, ent i hi]; rfl
      simp [Array.getD_eq_getD_getElem?, e5]
  obtain ⟨e1, e2⟩ := key ord.toList fun i hi => List.mem_range.mp (hp.mem_iff.mp hi)
  refine ⟨ord.toList.filterMap (fun i => L[i]?), by first | (rw [Array.toList_filterMap]; exact e1) | simpa using e1, ?_, e2⟩
  have h1 := hp.filterMap (fun i => L[i]?)
  rw [get_range L _ (Nat.le_refl _), List.take_length] at h1
  exact h1
variable {a : Addr} {L : List Row} {es : Array (Int × Value)} {ep : Nat} {t : SetTable}
/-- the table laid anew, larger -/
theorem relay_n {o : Obj} (ho : s.heap.get? a = some o) (hex : o.ExactSet) (hd : o.data = .set es ep t) (hrw : es.toList = rws w L) (h1 : t.place.size = es.size) (h2 : t.dummies = #[]) (h3 : es.size ≤ t.mask) (nd : (L.map Prod.snd).Nodup)
    (ld : w.params.followText "set-order" = true ∨ t.led = true) (few : L.length < 64) {wanted M : Nat} (hw : SetTable.sizeAbove wanted - 1 = M) (hM : MaskOk M) (hw2 : SetTable.sizeAbove wanted ≤ 128) (hn : L.length * 5 < M * 3) {Q : Unit → Shared → Prop}
    (hQ : ∀ h' L' es' ep' t', Heap.SameBut a s.heap h' → SetN w h' a L' es' ep' t' → L'.Perm L → Q () { s with heap := h' }) : wpAny (model P w) A (setRelay a wanted) Q E s := by
  have hsl : es.size = L.length := by rw [← Array.length_toList, hrw, rws_len]
  obtain ⟨t', ord, e, hp, T, em, el, _, ed⟩ := relaid_ok t (hs := es.map (·.1)) (wanted := wanted) hw hM (by rw [Array.size_map, hsl]; omega)
  rw [Array.size_map, hsl] at hp
  obtain ⟨L2, r1, r2, r3⟩ := ord_rows L es ord hrw hp
  rw [← r3] at T
  have hs2 : (ord.filterMap (es[·]?)).size = es.size := by rw [← Array.length_toList, r1, rws_len, r2.length_eq, hsl]
  rw [setRelay_eq]
  refine wpAny_bind (wpAny_setState_of ho hd (fits_of h1 h2 h3) ?_)
  dsimp only
  refine wp_if_neg (by rw [sizeLine_eq]; omega) ?_
  try refine wpAny_bind (wpAny_pure ?_)
  rw [e]
  dsimp only
  refine wpAny_bind (wp_if_neg (by rw [hs2]; simp) ?_)
  try refine wpAny_bind (wpAny_pure ?_)
  refine wpAny_pure ?_
  dsimp only
  refine wpAny_storeSet_of ho hd ?_ (by rw [hs2, hsl, sizeLine_eq]; omega)
  refine hQ _ L2 (ord.filterMap (es[·]?)) (ep + 1) t' (Heap.SameBut.update ..) ⟨⟨_, store_at ho hd, ⟨hex.1, hex.2.1, hex.2.2⟩, rfl⟩, r1, T, (r2.map Prod.snd).nodup_iff.mpr nd, by rw [el]; exact ld, by rw [r2.length_eq, em]; exact hn, by rw [r2.length_eq]; exact few⟩ r2
theorem put_unplain {t : SetTable} {hs : List Int} (T : TabOk t hs) (b : Bool) : TabOk (if b = true then t else { t with plain := false }) hs ∧ (if b = true then t else { t with plain := false }).mask = t.mask ∧ (if b = true then t else { t with plain := false }).led = t.led ∧
    (if b = true then t else { t with plain := false }).tooFull = t.tooFull := by
  cases b with
  | true => exact ⟨T, rfl, rfl, rfl⟩
  | false => exact ⟨⟨T.ris, T.dm, T.sz, T.mok, T.bd, T.reach⟩, rfl, rfl, rfl⟩
/-- one member more -/
theorem add_n (R : SetN w s.heap a L es ep t) (hm : Mem s.heap L) {x : Addr} {k : NestedKey} (hx : Ky s.heap k x) (hu : A.units + 8 < cLine) (few : L.length + 1 < 64) {Q : Bool → Shared → Prop}
    (hQ : ∀ b h' L' es' ep' t', Heap.SameBut a s.heap h' → SetN w h' a L' es' ep' t' → (k ∈ L.map Prod.snd → L' = L) → (k ∉ L.map Prod.snd → L'.Perm ((x, k) :: L)) → Q b { s with heap := h' }) :
    wpAny (model P w) A (setAddHashed a (.ref x) (k.hash w)) Q E s := by
  obtain ⟨o, ho, hex, hd⟩ := R.ob
  have hsl := R.sz
  have hroom := R.room
  unfold setAddHashed
  refine wpAny_holding ?_
  rw [show (100000 : Nat) = 99999 + 1 from rfl, setAddHashedIn_succ]
  refine wpAny_bind (wpAny_setState_of ho hd R.fits ?_)
  dsimp only
  refine wp_if_neg (by simp [byScan, Value.scannable]) ?_
  try refine wpAny_bind (wpAny_pure ?_)
  refine wpAny_bind (find_at R hm rfl hx hu (fun hin => ?_) fun N hout hK hB => ?_)
  · dsimp only
    exact wpAny_pure (hQ false s.heap L es ep t (Heap.SameBut.refl a s.heap) R (fun _ => rfl) fun z => absurd hin z)
  · dsimp only
    refine wpAny_bind (wpAny_setState_of ho hd R.fits ?_)
    dsimp only
    obtain ⟨q1, q2, q3, q4, q5, _, _, _, q9⟩ := R.tab.put hK hB
    generalize hpt : t.put (way t.mask (k.hash w) N) = pt at q1 q3 q4 q5 q9 ⊢
    obtain ⟨t1, p⟩ := pt
    dsimp only at q1 q3 q4 q5 q9 ⊢
    subst q1
    -- whether its hash is told by its value
    have ask : ∀ {α : Type} (b0 : Bool) (f : Bool → Sem α) (Q' : α → Shared → Prop), (∀ b, wpAny (model P w) A (f b) Q' E s) → wpAny (model P w) A (if b0 = true then hashByValue 8 (.ref x) >>= f else pure true >>= f) Q' E s := fun b0 f Q' h => by
      cases b0 with
      | true => exact wpAny_bind (asked_key k _ 8 hx.1 hx.2 _ _ _ fun b => h b)
      | false => exact wpAny_bind (wpAny_pure (h true))
    refine ask t1.plain _ _ fun bv => ?_
    obtain ⟨T1, u1, u2, u3⟩ := put_unplain q3 bv
    generalize (if bv = true then t1 else { t1 with plain := false }) = t2 at T1 u1 u2 u3 ⊢
    have hin : (SetTable.insertAt es (SetTable.below t.place (way t.mask (k.hash w) N)) (k.hash w, Value.ref x)).toList = rws w (L.take (SetTable.below t.place (way t.mask (k.hash w) N)) ++ (x, k) :: L.drop (SetTable.below t.place (way t.mask (k.hash w) N))) := by
      rw [SetTable.toList_insertAt, rws_ins, R.rw_]
    generalize SetTable.below t.place (way t.mask (k.hash w) N) = p at q2 T1 hin ⊢
    have pm : (L.take p ++ (x, k) :: L.drop p).Perm ((x, k) :: L) := put_perm L p (x, k)
    have hlen := pm.length_eq
    rw [List.length_cons] at hlen
    have ehs : (L.take p ++ (x, k) :: L.drop p).map (hsh w) = (L.map (hsh w)).take p ++ k.hash w :: (L.map (hsh w)).drop p := by rw [List.map_append, List.map_cons, List.map_take, List.map_drop]
    rw [← ehs] at T1
    have nd1 : ((L.take p ++ (x, k) :: L.drop p).map Prod.snd).Nodup := by
      refine (pm.map Prod.snd).nodup_iff.mpr ?_
      rw [List.map_cons]
      exact List.nodup_cons.mpr ⟨hout, R.nd⟩
    have hes : (SetTable.insertAt es p (k.hash w, Value.ref x)).size = L.length + 1 := by rw [← Array.length_toList, hin, rws_len, hlen]
    generalize SetTable.insertAt es p (k.hash w, Value.ref x) = es1 at hin hes ⊢
    generalize L.take p ++ (x, k) :: L.drop p = L1 at pm hlen T1 nd1 hin
    refine wpAny_bind (wpAny_storeSet_of ho hd ?_ (by rw [hes, sizeLine_eq]; omega))
    have sb : Heap.SameBut a s.heap (s.heap.update a (Obj.putSet es1 t2)) := Heap.SameBut.update ..
    have ho1 := store_at (es' := es1) (t' := t2) ho hd
    generalize s.heap.update a (Obj.putSet es1 t2) = h1 at sb ho1 ⊢
    have ld1 : w.params.followText "set-order" = true ∨ t2.led = true := by rw [u2, q5]; exact R.led
    have full : t2.tooFull = decide ((L.length + 1) * 5 ≥ t.mask * 3) := by
      rw [u3]
      unfold SetTable.tooFull
      rw [q9, List.length_map, q4]
    have m2 : t2.mask = t.mask := u1.trans q4
    by_cases hf : t2.tooFull = true
    · first
        | (refine wpAny_bind ?_; refine wp_if_pos (by simp [hf]) ?_)
        | (refine wp_if_pos (by simp [hf]) ?_; refine wpAny_bind ?_)
      have hfull : (L.length + 1) * 5 ≥ t.mask * 3 := of_decide_eq_true (full ▸ hf)
      rw [hsl]
      have hsz1 : t2.place.size = es1.size := by
        have h := T1.sz
        rw [List.length_map, hlen] at h
        rw [h, hes]
      have two : (t.mask = 7 ∧ L.length = 4) ∨ (t.mask = 31 ∧ L.length = 18) := by
        rcases R.tab.mok with e | e | e
        · exact .inl ⟨e, by rw [e] at hfull hroom; omega⟩
        · exact .inr ⟨e, by rw [e] at hfull hroom; omega⟩
        · exfalso; rw [e] at hfull; omega
      have go : ∀ M, SetTable.sizeAbove (SetTable.grown (L.length + 1)) - 1 = M → MaskOk M → SetTable.sizeAbove (SetTable.grown (L.length + 1)) ≤ 128 → (L.length + 1) * 5 < M * 3 →
          wpAny (model P w) A (setRelay a (SetTable.grown (L.length + 1))) (fun _ s' => wpAny (model P w) A (pure true) Q E s') E { s with heap := h1 } := fun M z1 z2 z3 z4 => by
        refine relay_n (s := { s with heap := h1 }) ho1 ⟨hex.1, hex.2.1, hex.2.2⟩ rfl hin hsz1 T1.dm (by rw [hes, m2]; rcases two with ⟨e, e2⟩ | ⟨e, e2⟩ <;> omega) nd1 ld1 (by rw [hlen]; exact few) z1 z2 z3 (by rw [hlen]; exact z4) ?_
        intro h2 L2 es2 ep2 t3 sb2 R2 pm2
        exact wpAny_pure (hQ true h2 L2 es2 ep2 t3 (sb.trans sb2) R2 (fun z => absurd z hout) fun _ => pm2.trans pm)
      rcases two with ⟨_, e2⟩ | ⟨_, e2⟩
      · exact go 31 (by rw [e2, size_20]) (.inr (.inl rfl)) (by rw [e2, size_20]; decide) (by omega)
      · exact go 127 (by rw [e2, size_76]) (.inr (.inr rfl)) (by rw [e2, size_76]; decide) (by omega)
    · first
        | refine wp_if_neg (by simp [hf]) ?_
        | (refine wpAny_bind ?_; refine wp_if_neg (by simp [hf]) ?_; refine wpAny_pure ?_)
      have nf : ¬ (L.length + 1) * 5 ≥ t.mask * 3 := fun z => hf (by rw [full]; exact decide_eq_true z)
      exact wpAny_pure (hQ true h1 L1 es1 (ep + 1) t2 sb ⟨⟨_, ho1, ⟨hex.1, hex.2.1, hex.2.2⟩, rfl⟩, hin, T1, nd1, ld1, by rw [hlen, m2]; omega, by rw [hlen]; exact few⟩ (fun z => absurd z hout) fun _ => pm)
theorem set_fresh {h : Heap} (ho : h.get? a = some { cls := .type "set", dict := none, data := .set #[] 0 (.fresh 0 0 (!w.params.followText "set-order")) }) : SetN w h a [] #[] 0 (.fresh 0 0 (!w.params.followText "set-order")) := by
  refine ⟨⟨_, ho, ⟨rfl, rfl, rfl⟩, rfl⟩, rfl, ⟨List.Pairwise.nil, rfl, rfl, .inl rfl, fun x hx => (by cases hx), fun i h j hi => (by simp at hi)⟩, List.nodup_nil, ?_, by show 0 * 5 < 7 * 3; decide, by show 0 < 64; decide⟩
  show _ ∨ (!w.params.followText "set-order") = true
  cases w.params.followText "set-order"
  · exact .inr rfl
  · exact .inl rfl
theorem SetN.keep {h h' : Heap} (R : SetN w h a L es ep t) (ha : ∀ o, h.get? a = some o → h'.get? a = some o) : SetN w h' a L es ep t := by
  obtain ⟨o, ho, r⟩ := R.ob
  exact ⟨⟨o, ha o ho, r⟩, R.rw_, R.tab, R.nd, R.led, R.room, R.few⟩
/-- set.add(a, x) as the model's own setAdd -/
theorem setAdd_n (R : SetN w s.heap a L es ep t) (hm : Mem s.heap L) {x : Addr} {k : NestedKey} (hx : Ky s.heap k x) (hu : A.units + 16 < cLine) (few : L.length + 1 < 64) {Q : Bool → Shared → Prop}
    (hQ : ∀ b h' tk L' es' ep' t', Heap.SameBut a s.heap h' → SetN w h' a L' es' ep' t' → (k ∈ L.map Prod.snd → L' = L) → (k ∉ L.map Prod.snd → L'.Perm ((x, k) :: L)) → s.toks ≤ tk → Q b { s with heap := h', toks := tk }) :
    wpAny (model P w) A (setAdd a (.ref x)) Q E s := by
  unfold setAdd
  refine wpAny_holding (wpAny_bind (pyHash_key k _ A s _ hx.1 (by have := hx.2; omega) ?_))
  exact add_n (s := { s with toks := s.toks + k.draws }) R hm hx (by omega) few fun b h' L' es' ep' t' h1 h2 h3 h4 => hQ b h' _ L' es' ep' t' h1 h2 h3 h4 (Nat.le_add_right _ _)
end
end DS
set_option Elab.async false
set_option linter.all false
set_option maxRecDepth 100000
set_option maxHeartbeats 4000000
/-! DS4: set(xs), len, sorted -/
namespace DS
open PySem PySem.Spec PyProof.Rows L2 SeqAt
/-- what a set has of the rows that were added -/
structure Has (ks L : List Row) : Prop where
  sub : ∀ r ∈ L, r ∈ ks
  all : ∀ r ∈ ks, r.2 ∈ L.map Prod.snd
  len : L.length ≤ ks.length
theorem Has.nil : Has [] [] := ⟨fun _ h => h, fun _ h => (by cases h), Nat.le_refl _⟩
theorem Has.old {ks L : List Row} {r : Row} (g : Has ks L) (hm : r.2 ∈ L.map Prod.snd) : Has (ks ++ [r]) L :=
  ⟨fun x hx => List.mem_append_left _ (g.sub x hx), fun x hx => by
    rcases List.mem_append.mp hx with z | z
    · exact g.all x z
    · rw [List.mem_singleton.mp z]; exact hm, by rw [List.length_append]; exact Nat.le_trans g.len (Nat.le_add_right _ _)⟩
theorem Has.new {ks L L' : List Row} {r : Row} (g : Has ks L) (pm : L'.Perm (r :: L)) : Has (ks ++ [r]) L' := by
  refine ⟨fun x hx => ?_, fun x hx => ?_, ?_⟩
  · rcases List.mem_cons.mp (pm.mem_iff.mp hx) with rfl | z
    · exact List.mem_append_right _ (List.mem_singleton.mpr rfl)
    · exact List.mem_append_left _ (g.sub x z)
  · rw [(pm.map Prod.snd).mem_iff, List.map_cons]
    rcases List.mem_append.mp hx with z | z
    · exact List.mem_cons_of_mem _ (g.all x z)
    · rw [List.mem_singleton.mp z]; exact List.mem_cons_self ..
  · rw [pm.length_eq, List.length_append]
    exact Nat.succ_le_succ g.len
theorem Has.step {ks L L' : List Row} {r : Row} (g : Has ks L) (c1 : r.2 ∈ L.map Prod.snd → L' = L) (c2 : r.2 ∉ L.map Prod.snd → L'.Perm (r :: L)) : Has (ks ++ [r]) L' := by
  rcases Classical.em (r.2 ∈ L.map Prod.snd) with c | c
  · rw [c1 c]; exact g.old c
  · exact g.new (c2 c)
section
variable {P : Program} {w : World} {A : Around} {E : Value → Shared → Prop} {s : Shared}
theorem take_one {α : Type} {l : List α} {i : Nat} {x : α} (h : l[i]? = some x) : l.take (i + 1) = l.take i ++ [x] := by
  rw [List.take_succ, h]; rfl
/-- set.update's own loop -/
theorem upd_loop {I : Addr} {fp wr : List Addr} {G : Array GenState → Array GenState → Prop} {n : Nat} {Pv : Nat → Value → Prop} {St : Nat → Shared → Prop} {R : Result → Shared → Prop} (W : WalksS P w A.in1 I fp wr G n Pv St) (D : Addr) (hD : D ∉ fp) (ks : List Row) (hn : n = ks.length) (few : ks.length < 64)
    (val : ∀ i v, Pv i v → ∃ r, ks[i]? = some r ∧ v = .ref r.1) (h0 : Heap) (hk : Mem h0 ks) (hD0 : h0.get? D = none) (hw0 : ∀ b ∈ wr, h0.get? b = none) (hu : A.in1.units + 16 < cLine) :
    ∀ (m i : Nat) (s : Shared), n - i = m → i ≤ n → St i s → (∀ b o, h0.get? b = some o → s.heap.get? b = some o) → (∃ L es ep t, SetN w s.heap D L es ep t ∧ Has (ks.take i) L) →
      (∀ s' L es ep t, Moved (D :: wr) G s s' → SetN w s'.heap D L es ep t → Has ks L → (∀ b o, h0.get? b = some o → s'.heap.get? b = some o) → R (.ok (.ret .none)) s') →
      codeAny (model P w) A (.builtin "set.update.loop" ⟨[.ref D, .ref I], []⟩) R s := by
  have hDw : D ∉ wr := fun h => hD (W.sub _ h)
  have more : ∀ b ∈ wr, b ∈ D :: wr := fun b hb => List.mem_cons_of_mem _ hb
  have kept : ∀ {s s' : Shared}, Moved wr G s s' → (∀ b o, h0.get? b = some o → s.heap.get? b = some o) → ∀ b o, h0.get? b = some o → s'.heap.get? b = some o := fun mv kp b o e =>
    mv.heap b o (fun hb => by rw [hw0 b hb] at e; cases e) (kp b o e)
  intro m
  induction m with
  | zero =>
    intro i s hm hi hst kp ⟨L, es, ep, t, R1, g⟩ fin
    obtain rfl : i = n := by omega
    refine codeAny_builtin F.entry_set_update_loop ?_
    rw [Around.under_plainId F.plain_set_update_loop _]
    show wpAny _ A.in1 (pyNext (.ref I) >>= _) _ _ s
    refine wpAny_bind (W.done s _ _ hst fun s1 mv => ?_)
    show wpAny _ A.in1 (ret Value.none) _ _ s1
    rw [hn, List.take_length] at g
    exact wpAny_pure (fin s1 L es ep t (mv.mono more) (R1.keep fun o e => mv.heap D o hDw e) g (kept mv kp))
  | succ m ih =>
    intro i s hm hi hst kp ⟨L, es, ep, t, R1, g⟩ fin
    have hlt : i < n := by omega
    refine codeAny_builtin F.entry_set_update_loop ?_
    rw [Around.under_plainId F.plain_set_update_loop _]
    show wpAny _ A.in1 (pyNext (.ref I) >>= _) _ _ s
    refine wpAny_bind (W.item i s _ _ hlt hst fun v s1 hP hst1 mv => ?_)
    obtain ⟨r, hr, rfl⟩ := val i v hP
    have kp1 := kept mv kp
    have hin : ∀ x ∈ L, x ∈ ks := fun x hx => List.mem_of_mem_take (g.sub x hx)
    have mem1 : Mem s1.heap L := fun x hx => (hk x (hin x hx)).keep kp1
    have hx : Ky s1.heap r.2 r.1 := (hk r (List.mem_of_getElem? hr)).keep kp1
    show wpAny _ A.in1 (holding [Value.ref r.1] (setAdd D (.ref r.1)) >>= _) _ _ s1
    refine wpAny_bind (wpAny_holding (setAdd_n (R1.keep fun o e => mv.heap D o hDw e) mem1 hx hu (by
      have := g.len
      rw [List.length_take] at this
      omega) fun b h' tk L' es' ep' t' sb R2 c1 c2 htk => ?_))
    have kp2 : ∀ b o, h0.get? b = some o → h'.get? b = some o := fun b o e => (sb.2 b (fun z => by rw [z, hD0] at e; cases e)).trans (kp1 b o e)
    refine wpAny_pure ⟨plainId_quiet F.plain_set_update_loop _, ih (i + 1) _ (by omega) hlt (W.frame _ s1 _ _ hst1 htk fun b hb o e => ?_) kp2 ⟨L', es', ep', t', R2, by rw [take_one hr]; exact g.step c1 c2⟩ fun s2 L2 es2 ep2 t2 mv2 R3 g3 kp3 => ?_⟩
    · rw [sb.2 b (fun h : b = D => hD (by rw [← h]; exact hb))]; exact e
    · refine fin s2 L2 es2 ep2 t2 (Moved.trans W.gtrans ((mv.mono more).then_heap htk fun b o hb e => ?_) mv2) R3 g3 kp3
      rw [sb.2 b (fun h : b = D => hb (by rw [h]; exact List.mem_cons_self ..))]; exact e
abbrev freshSet (w : World) : Obj := { cls := .type "set", dict := none, data := .set #[] 0 (.fresh 0 0 (!w.params.followText "set-order")) }
/-- set(xs), xs a list -/
theorem call_setN {l : Addr} {items : Array Value} (ks : List Row) {Q : Value → Shared → Prop} (hh : A.handled = none) (hl : s.heap.IsList l items) (hit : items.toList = ks.map fun r => Value.ref r.1) (hk : Mem s.heap ks) (few : ks.length < 64) (hu : A.units + 19 < cLine)
    (fin : ∀ (h' : Heap) (tk : Nat) L es ep t, SetN w h' s.heap.objs.size L es ep t → Has ks L → (∀ b o, s.heap.get? b = some o → h'.get? b = some o) → Q (.ref s.heap.objs.size) { s with heap := h', toks := tk }) :
    wpAny (model P w) A (call (.type "set") [.ref l]) Q E s := by
  have hisz : items.size = ks.length := by rw [← Array.length_toList, hit, List.length_map]
  obtain ⟨c, tl, hmro⟩ := F.called_set.mro
  have hmade := F.called_set.made
  have hsub := F.called_set.sub
  refine wpAny_call (codeAny_of_tree ?_)
  show wpAny _ _ (callAny (.type "set") _) _ _ _
  refine wpAny_pure ⟨Code.quiet_builtin _ (by decide +kernel), codeAny_builtin F.entry_type_call ?_⟩
  rw [Around.under_plain (weight_type_call_type "set" [.ref l] []) rfl]
  have h1 := F.called_set.notType
  have h2 := F.called_set.canCreate
  have hct := F.typeCall_set_1 (.ref l)
  repeat (any_goals (first | assumption | wp_step))
  refine codeAny_mono (code_set_led1 (.ref l) (E := E) (Q₁ := fun u s1 => u = .ref s.heap.objs.size ∧ s1 = { s with heap := s.heap.push (freshSet w) }) ⟨rfl, rfl⟩) fun r s1 hr => ?_
  cases r with
  | error e => exact hr
  | ok fl =>
    cases fl with
    | ret u =>
      obtain ⟨rfl, rfl⟩ := hr
      have hS : (s.heap.push (freshSet w)).get? s.heap.objs.size = some (freshSet w) := Heap.get?_push_size _ rfl
      have hT : Shared.TypeIs { s with heap := s.heap.push (freshSet w) } (.ref s.heap.objs.size) "set" := ⟨_, hS, rfl⟩
      have hli := F.called_set.init.lookup
      have hbi := F.called_set.init.bind (.ref s.heap.objs.size)
      repeat (any_goals (first | assumption | wp_step))
      refine codeAny_mono (codeAny_call_builtin (R := wants (fun r s2 => r = .none ∧ ∃ h' tk L es ep t, s2 = { s with heap := h', toks := tk } ∧ SetN w h' s.heap.objs.size L es ep t ∧ Has ks L ∧ (∀ b o, s.heap.get? b = some o → h'.get? b = some o)) E) F.called_set.init.plain F.entry_set_init (check_set_init_1 hT ?_)) fun r2 s2 hr2 => ?_
      · obtain ⟨ol, hol, hcl, nl, hdl⟩ := hl
        obtain ⟨ocls, odict, odata, oslots⟩ := ol
        simp only at hcl hdl
        subst hcl; subst hdl
        have hol' : (s.heap.push (freshSet w)).get? l = some { cls := .type "list", dict := odict, data := .seq items nl, slots := oslots } := Heap.get?_push_of_some _ hol
        have hsls := F.sub_list_set
        have hslf := F.sub_list_frozenset
        have hne : (Value.type "list" == Value.type "dict") = false := by decide
        have hl1 : (s.heap.push (freshSet w)).IsList l items := ⟨_, hol', rfl, nl, rfl⟩
        unfold Builtin.«set.__init__» noKeywords Builtin.Frozenset.updateFrom
        generalize hPI : pyIter = PI
        wp_walk
        subst hPI
        refine wpAny_pyIter_list hl1 (wpAny_bind (wpAny_runValue ?_))
        have hlS : l < s.heap.objs.size := Heap.lt_size hol
        have hh3 : A.in1.in1.in1.handled = none := by simp [hh]
        have none_of : ∀ b, s.heap.objs.size ≤ b → s.heap.get? b = none := fun b hb => Heap.get?_none_of_le hb
        have hneI : l ≠ (s.heap.push (freshSet w)).objs.size := by rw [Heap.size_push]; exact Nat.ne_of_lt (Nat.lt_succ_of_lt hlS)
        have hSf : s.heap.objs.size ∉ [(s.heap.push (freshSet w)).objs.size, l] := by
          rw [Heap.size_push]; simp only [List.mem_cons, List.not_mem_nil, or_false, not_or]
          exact ⟨Nat.ne_of_lt (Nat.lt_succ_self _), Nat.ne_of_gt hlS⟩
        have val : ∀ (i : Nat) (v : Value), items[i]? = some v → ∃ r, ks[i]? = some r ∧ v = .ref r.1 := fun i v hv => by
          have q : items.toList[i]? = some v := by rw [Array.getElem?_toList]; exact hv
          rw [hit, List.getElem?_map] at q
          cases hq : ks[i]? with
          | none => rw [hq] at q; cases q
          | some r => rw [hq] at q; exact ⟨r, rfl, (Option.some.inj q).symm⟩
        refine upd_loop ((Walks.list hh3 _ l hneI items).toS) s.heap.objs.size hSf ks hisz few val s.heap hk (none_of _ (Nat.le_refl _))
          (fun b hb => none_of b (by rw [List.mem_singleton.mp hb, Heap.size_push]; exact Nat.le_succ _)) (by exact hu) (items.size - 0) 0 _ (by omega) (Nat.zero_le _)
          ⟨⟨_, Heap.get?_push_size _ rfl, rfl, rfl⟩, (hl1.push _)⟩ (fun b o e => Heap.get?_push_of_some _ (Heap.get?_push_of_some _ e)) ?gA ?gB
        case gA => exact ⟨[], #[], 0, _, set_fresh (Heap.get?_push_of_some _ hS), by rw [List.take_zero]; exact .nil⟩
        case gB =>
          intro s3 L es ep t mv R3 g3 kp
          obtain ⟨h', g2, d', tk', os'⟩ := s3
          have eg : g2 = s.gens := mv.gens
          have ed : d' = s.drawn := mv.drawn
          have eo : os' = s.os := mv.os
          subst eg; subst ed; subst eo
          show wpAny _ _ _ _ _ _
          refine wpAny_pure ?_
          show wpAny _ _ (ret Value.none) _ _ _
          exact wpAny_pure ⟨rfl, h', tk', L, es, ep, t, rfl, R3, g3, kp⟩
      · cases r2 with
        | error e => exact hr2
        | ok fl2 =>
          cases fl2 with
          | ret r =>
            obtain ⟨rfl, h', tk, L, es, ep, t, rfl, R3, g3, kp⟩ := hr2
            repeat (any_goals (first | assumption | wp_step))
            exact fin _ _ _ _ _ _ R3 g3 kp
          | _ => exact hr2.elim
    | _ => exact hr.elim
end
end DS
set_option Elab.async false
set_option linter.all false
set_option maxRecDepth 100000
set_option maxHeartbeats 4000000
/-! DS5: deep values as the library's data and keys; their order -/
namespace DS
open PySem PySem.Spec PyProof.Rows L2 DL SeqAt
mutual
def enc : D → PyData
  | .bl b => .bool b
  | .int i => .int i
  | .str x => .str x
  | .lst xs => .list (encs xs)
  | .tup xs => .tuple (encs xs)
  | _ => .none
def encs : List D → List PyData
  | [] => []
  | x :: xs => enc x :: encs xs
end
theorem encs_map : ∀ xs : List D, encs xs = xs.map enc
  | [] => rfl
  | x :: xs => by rw [encs, encs_map xs]; rfl
mutual
/-- the key that a value is -/
def nk : D → NestedKey
  | .bl b => .num (if b = true then 1 else 0)
  | .int i => .num i
  | .str x => .text x
  | .tup xs => .tup (nks xs)
  | _ => .none
def nks : List D → List NestedKey
  | [] => []
  | x :: xs => nk x :: nks xs
end
/-- numbers, texts, tuples of such, n deep -/
def kp : Nat → D → Bool
  | _, .int _ => true
  | _, .str _ => true
  | n + 1, .tup xs => xs.all (kp n)
  | _, _ => false
mutual
theorem reads_of {h : Heap} : ∀ {d : D} {n : Nat} {u : Value}, lay n d = true → At h d u → ∃ as, Reads h u (enc d) as
  | .non, _, _, _, a => by unfold At at a; subst a; exact ⟨[], .none⟩
  | .bl b, _, _, _, a => by unfold At at a; subst a; exact ⟨[], .bool b⟩
  | .int i, _, _, _, a => by unfold At at a; obtain ⟨t, rfl⟩ := a; exact ⟨[], .int i t⟩
  | .str x, _, _, _, a => by unfold At at a; obtain ⟨t, rfl⟩ := a; exact ⟨[], .str x t⟩
  | .lst xs, n + 1, _, l, a => by
    unfold At at a
    obtain ⟨p, its, rfl, ⟨o, h1, h2, m, h3⟩, r⟩ := a
    obtain ⟨as, q⟩ := readsL_of (n := n) (fun x hx => List.all_eq_true.mp (show xs.all (lay n) = true from l) x hx) r
    exact ⟨p :: as, .list h1 h2 h3 q⟩
  | .tup xs, n + 1, _, l, a => by
    unfold At at a
    obtain ⟨p, its, rfl, ⟨o, h1, h2, m, h3⟩, r⟩ := a
    obtain ⟨as, q⟩ := readsL_of (n := n) (fun x hx => List.all_eq_true.mp (show xs.all (lay n) = true from l) x hx) r
    exact ⟨as, .tuple h1 h2 h3 q⟩
  | .lst _, 0, _, l, _ => by simp [lay] at l
  | .tup _, 0, _, l, _ => by simp [lay] at l
  | .ty _, n, _, l, _ => by cases n <;> simp [lay] at l
  | .ref _, n, _, l, _ => by cases n <;> simp [lay] at l
  | .ins _ _ _, n, _, l, _ => by cases n <;> simp [lay] at l
  | .scr _, n, _, l, _ => by cases n <;> simp [lay] at l
theorem readsL_of {h : Heap} : ∀ {xs : List D} {n : Nat} {us : List Value}, (∀ x ∈ xs, lay n x = true) → AtL h xs us → ∃ as, ReadsAll h us (encs xs) as
  | [], _, _, _, a => by unfold AtL at a; subst a; exact ⟨[], .nil⟩
  | x :: xs, n, _, l, a => by
    unfold AtL at a
    obtain ⟨u, r, rfl, a1, a2⟩ := a
    obtain ⟨as, q1⟩ := reads_of (l x (List.mem_cons_self ..)) a1
    obtain ⟨bs, q2⟩ := readsL_of (fun y hy => l y (List.mem_cons_of_mem _ hy)) a2
    exact ⟨as ++ bs, .cons q1 q2⟩
end
theorem kp_lay : ∀ {n : Nat} {d : D}, kp n d = true → lay n d = true
  | _, .int _, _ => by simp [lay]
  | _, .str _, _ => by simp [lay]
  | n + 1, .tup xs, h => List.all_eq_true.mpr fun x hx => kp_lay (List.all_eq_true.mp (show xs.all (kp n) = true from h) x hx)
  | 0, .tup _, h => by simp [kp] at h
  | n, .non, h => by cases n <;> simp [kp] at h
  | n, .bl _, h => by cases n <;> simp [kp] at h
  | n, .lst _, h => by cases n <;> simp [kp] at h
  | n, .ty _, h => by cases n <;> simp [kp] at h
  | n, .ref _, h => by cases n <;> simp [kp] at h
  | n, .ins _ _ _, h => by cases n <;> simp [kp] at h
  | n, .scr _, h => by cases n <;> simp [kp] at h
mutual
theorem nested_of {h : Heap} : ∀ {d : D} {n : Nat} {u : Value}, kp n d = true → At h d u → NestedIs h (nk d) u ∧ (nk d).depth ≤ n
  | .int i, _, _, _, a => by unfold At at a; obtain ⟨t, rfl⟩ := a; exact ⟨.int i t, by simp [nk, NestedKey.depth]⟩
  | .str x, _, _, _, a => by unfold At at a; obtain ⟨t, rfl⟩ := a; exact ⟨.text x t, by simp [nk, NestedKey.depth]⟩
  | .tup xs, n + 1, _, l, a => by
    unfold At at a
    obtain ⟨p, its, rfl, ⟨o, h1, h2, m, h3⟩, r⟩ := a
    obtain ⟨q1, q2⟩ := nestedL_of (n := n) (fun x hx => List.all_eq_true.mp (show xs.all (kp n) = true from l) x hx) r
    exact ⟨.tup h1 h2 h3 q1, by simp only [nk, NestedKey.depth]; omega⟩
  | .tup _, 0, _, l, _ => by simp [kp] at l
  | .non, n, _, l, _ => by cases n <;> simp [kp] at l
  | .bl _, n, _, l, _ => by cases n <;> simp [kp] at l
  | .lst _, n, _, l, _ => by cases n <;> simp [kp] at l
  | .ty _, n, _, l, _ => by cases n <;> simp [kp] at l
  | .ref _, n, _, l, _ => by cases n <;> simp [kp] at l
  | .ins _ _ _, n, _, l, _ => by cases n <;> simp [kp] at l
  | .scr _, n, _, l, _ => by cases n <;> simp [kp] at l
theorem nestedL_of {h : Heap} : ∀ {xs : List D} {n : Nat} {us : List Value}, (∀ x ∈ xs, kp n x = true) → AtL h xs us → NestedAll h (nks xs) us ∧ NestedKey.depthAll (nks xs) ≤ n
  | [], _, _, _, a => by unfold AtL at a; subst a; exact ⟨.nil, by simp [nks, NestedKey.depthAll]⟩
  | x :: xs, n, _, l, a => by
    unfold AtL at a
    obtain ⟨u, r, rfl, a1, a2⟩ := a
    obtain ⟨q1, q2⟩ := nested_of (l x (List.mem_cons_self ..)) a1
    obtain ⟨q3, q4⟩ := nestedL_of (fun y hy => l y (List.mem_cons_of_mem _ hy)) a2
    exact ⟨.cons q1 q3, by simp only [nks, NestedKey.depthAll]; omega⟩
end
mutual
theorem nk_inj : ∀ {d e : D} {n m : Nat}, kp n d = true → kp m e = true → nk d = nk e → d = e
  | .int i, e, n, m, h1, h2, q => by
    cases e <;> first | (cases m <;> simp [kp] at h2; done) | (simp [nk] at q; try rw [q])
  | .str i, e, n, m, h1, h2, q => by
    cases e <;> first | (cases m <;> simp [kp] at h2; done) | (simp [nk] at q; try rw [q])
  | .tup xs, e, n + 1, m, h1, h2, q => by
    cases e with
    | tup ys =>
      cases m with
      | zero => simp [kp] at h2
      | succ m =>
        simp only [nk, NestedKey.tup.injEq] at q
        rw [nks_inj (n := n) (m := m) (fun x hx => List.all_eq_true.mp (show xs.all (kp n) = true from h1) x hx) (fun x hx => List.all_eq_true.mp (show ys.all (kp m) = true from h2) x hx) q]
    | int _ => simp [nk] at q
    | str _ => simp [nk] at q
    | _ => cases m <;> simp [kp] at h2
  | .tup _, e, 0, m, h1, h2, q => by simp [kp] at h1
  | .non, e, n, m, h1, _, _ => by cases n <;> simp [kp] at h1
  | .bl _, e, n, m, h1, _, _ => by cases n <;> simp [kp] at h1
  | .lst _, e, n, m, h1, _, _ => by cases n <;> simp [kp] at h1
  | .ty _, e, n, m, h1, _, _ => by cases n <;> simp [kp] at h1
  | .ref _, e, n, m, h1, _, _ => by cases n <;> simp [kp] at h1
  | .ins _ _ _, e, n, m, h1, _, _ => by cases n <;> simp [kp] at h1
  | .scr _, e, n, m, h1, _, _ => by cases n <;> simp [kp] at h1
theorem nks_inj : ∀ {xs ys : List D} {n m : Nat}, (∀ x ∈ xs, kp n x = true) → (∀ y ∈ ys, kp m y = true) → nks xs = nks ys → xs = ys
  | [], [], _, _, _, _, _ => rfl
  | [], _ :: _, _, _, _, _, q => by simp [nks] at q
  | _ :: _, [], _, _, _, _, q => by simp [nks] at q
  | x :: xs, y :: ys, n, m, h1, h2, q => by
    simp only [nks, List.cons.injEq] at q
    rw [nk_inj (h1 x (List.mem_cons_self ..)) (h2 y (List.mem_cons_self ..)) q.1, nks_inj (fun z hz => h1 z (List.mem_cons_of_mem _ hz)) (fun z hz => h2 z (List.mem_cons_of_mem _ hz)) q.2]
end
/-! ### the order -/
mutual
theorem eqv_enc : ∀ {d e : D}, like d e = true → PyData.eqv (enc d) (enc e) = eqD d e
  | .int _, e, h => by cases e <;> simp [like] at h; simp [enc, PyData.eqv, eqD]
  | .bl _, e, h => by cases e <;> simp [like] at h; simp [enc, PyData.eqv, eqD]
  | .str _, e, h => by cases e <;> simp [like] at h; simp [enc, PyData.eqv, eqD]
  | .lst xs, e, h => by
    cases e <;> simp [like] at h
    simp only [enc, PyData.eqv, eqD]
    exact eqvL_enc h
  | .tup xs, e, h => by
    cases e <;> simp [like] at h
    simp only [enc, PyData.eqv, eqD]
    exact eqvL_enc h
  | .non, e, h => by cases e <;> simp [like] at h
  | .ty _, e, h => by cases e <;> simp [like] at h
  | .ref _, e, h => by cases e <;> simp [like] at h
  | .ins _ _ _, e, h => by cases e <;> simp [like] at h
  | .scr _, e, h => by cases e <;> simp [like] at h
theorem eqvL_enc : ∀ {xs ys : List D}, likeL xs ys = true → PyData.eqvAll (encs xs) (encs ys) = eqL xs ys
  | [], [], _ => by simp [encs, PyData.eqvAll, eqL]
  | [], _ :: _, _ => by simp [encs, PyData.eqvAll, eqL]
  | _ :: _, [], _ => by simp [encs, PyData.eqvAll, eqL]
  | x :: xs, y :: ys, h => by
    simp only [likeL, Bool.and_eq_true] at h
    simp only [encs, PyData.eqvAll, eqL, eqv_enc h.1, eqvL_enc h.2]
end
mutual
theorem alike_enc : ∀ {d e : D}, like d e = true → PySem.W.alike (enc d) (enc e) = true
  | .int _, e, h => by cases e <;> simp [like] at h; simp [enc, PySem.W.alike]
  | .bl _, e, h => by cases e <;> simp [like] at h; simp [enc, PySem.W.alike]
  | .str _, e, h => by cases e <;> simp [like] at h; simp [enc, PySem.W.alike]
  | .lst xs, e, h => by
    cases e <;> simp [like] at h
    simp only [enc, PySem.W.alike]
    exact alikeL_enc h
  | .tup xs, e, h => by
    cases e <;> simp [like] at h
    simp only [enc, PySem.W.alike]
    exact alikeL_enc h
  | .non, e, h => by cases e <;> simp [like] at h
  | .ty _, e, h => by cases e <;> simp [like] at h
  | .ref _, e, h => by cases e <;> simp [like] at h
  | .ins _ _ _, e, h => by cases e <;> simp [like] at h
  | .scr _, e, h => by cases e <;> simp [like] at h
theorem alikeL_enc : ∀ {xs ys : List D}, likeL xs ys = true → PySem.W.alikeAll (encs xs) (encs ys) = true
  | [], _, _ => by simp [encs, PySem.W.alikeAll]
  | _ :: _, [], _ => by simp [encs, PySem.W.alikeAll]
  | x :: xs, y :: ys, h => by
    simp only [likeL, Bool.and_eq_true] at h
    simp only [encs, PySem.W.alikeAll, alike_enc h.1, alikeL_enc h.2, Bool.and_self]
end
mutual
theorem lt_enc : ∀ {d e : D}, like d e = true → PySem.W.dataLt (enc d) (enc e) = ltD d e
  | .int _, e, h => by cases e <;> simp [like] at h; simp [enc, PySem.W.dataLt_int, ltD]
  | .bl a, e, h => by
    cases e <;> simp [like] at h
    rename_i b
    simp only [enc, PySem.W.dataLt_bool, ltD]
    cases a <;> cases b <;> decide
  | .str _, e, h => by cases e <;> simp [like] at h; simp [enc, PySem.W.dataLt_str, ltD]
  | .lst xs, e, h => by
    cases e <;> simp [like] at h
    simp only [enc, PySem.W.dataLt_list, ltD]
    exact ltL_enc h
  | .tup xs, e, h => by
    cases e <;> simp [like] at h
    simp only [enc, PySem.W.dataLt_tuple, ltD]
    exact ltL_enc h
  | .non, e, h => by cases e <;> simp [like] at h
  | .ty _, e, h => by cases e <;> simp [like] at h
  | .ref _, e, h => by cases e <;> simp [like] at h
  | .ins _ _ _, e, h => by cases e <;> simp [like] at h
  | .scr _, e, h => by cases e <;> simp [like] at h
theorem ltL_enc : ∀ {xs ys : List D}, likeL xs ys = true → PyProof.Rows.lexLt itemOrd (PySem.W.keyToksAll (encs xs)) (PySem.W.keyToksAll (encs ys)) = ltL xs ys
  | [], [], _ => by simp only [encs, ltL]; decide +kernel
  | [], y :: ys, _ => by
    simp only [encs, ltL, PySem.W.keyToksAll]
    rw [PySem.W.lex_atom (by simp)]
    decide +kernel
  | x :: xs, [], _ => by
    simp only [encs, ltL, PySem.W.keyToksAll]
    rw [PySem.W.lex_atom (by simp)]
    decide +kernel
  | x :: xs, y :: ys, h => by
    simp only [likeL, Bool.and_eq_true] at h
    simp only [encs, ltL]
    rw [PySem.W.dataLt_cons (alike_enc h.1), eqv_enc h.1, lt_enc h.1, ltL_enc h.2]
end
end DS
set_option Elab.async false
set_option linter.all false
set_option maxRecDepth 100000
set_option maxHeartbeats 4000000
/-! DS6: sorted lists -/
namespace DS
open PySem PySem.Spec PyProof.Rows L2 DL SeqAt
/-- any two can be compared -/
def alikeD (xs : List D) : Prop := ∀ x ∈ xs, ∀ y ∈ xs, like x y = true
/-- all are tuples that have an item, or none is a tuple -/
def tupsD (xs : List D) : Prop := (∀ x ∈ xs, ∃ y r, x = .tup (y :: r)) ∨ ∀ x ∈ xs, isTup x = false
structure Sb (xs : List D) : Prop where
  al : alikeD xs
  tu : tupsD xs
  ly : ∀ x ∈ xs, lay 40 x = true
def srt (xs : List D) : List D := xs.mergeSort (PySem.W.dataLe false enc)
theorem srt_perm (xs : List D) : (srt xs).Perm xs := List.mergeSort_perm ..
theorem ltD_toks {x y : D} (h : like x y = true) : ltD x y = (listOrd itemOrd).blt (PySem.W.keyToks (enc x)) (PySem.W.keyToks (enc y)) := (lt_enc h).symm
theorem srt_asc {xs : List D} (h : alikeD xs) : (srt xs).Pairwise fun a b => ltD b a = false := by
  refine List.Pairwise.imp_of_mem (fun {a b} ha hb le => ?_) (PySem.W.sort_pairwise (PySem.W.sortLe_total (listOrd itemOrd) false fun b => PySem.W.keyToks (enc b)) xs)
  have ha := (srt_perm xs).mem_iff.mp ha
  have hb := (srt_perm xs).mem_iff.mp hb
  rw [ltD_toks (h b hb a ha)]
  have le2 : (!(listOrd itemOrd).blt (PySem.W.keyToks (enc b)) (PySem.W.keyToks (enc a))) = true := le
  simpa using le2
/-! ### the order of data -/
theorem ltD_irrefl {x : D} (h : like x x = true) : ltD x x = false := by rw [ltD_toks h]; exact (listOrd itemOrd).irrefl _
theorem ltD_trans {x y z : D} (h1 : like x y = true) (h2 : like y z = true) (h3 : like x z = true) (a : ltD x y = true) (b : ltD y z = true) : ltD x z = true := by
  rw [ltD_toks h1] at a
  rw [ltD_toks h2] at b
  rw [ltD_toks h3]
  exact (listOrd itemOrd).trans _ _ _ a b
theorem ltD_asym {x y : D} (h1 : like x y = true) (h2 : like y x = true) (hx : like x x = true) (a : ltD x y = true) : ltD y x = false := by
  cases b : ltD y x with
  | false => rfl
  | true => have z := ltD_irrefl hx; rw [ltD_trans h1 h2 hx a b] at z; exact z
theorem eqD_of_not {x y : D} (h1 : like x y = true) (h2 : like y x = true) (a : ltD x y = false) (b : ltD y x = false) : eqD x y = true := by
  rw [ltD_toks h1] at a
  rw [ltD_toks h2] at b
  have e := (listOrd itemOrd).total _ _ a b
  rw [← eqv_enc h1]
  cases q : PyData.eqv (enc x) (enc y) with
  | true => rfl
  | false =>
    have z := (PySem.W.toks_eqv _ _ (alike_enc h1)).2 q [.inl 0] [.inl 1]
    rw [e] at z
    rw [PySem.W.lex_pre] at z
    have z2 : PyProof.Rows.lexLt itemOrd (PySem.W.keyToks (enc y)) (PySem.W.keyToks (enc y)) = false := (listOrd itemOrd).irrefl _
    rw [z2] at z
    exact absurd z (by decide +kernel)
mutual
theorem eqD_kp : ∀ {d e : D} {n m : Nat}, kp n d = true → kp m e = true → eqD d e = true → d = e
  | .int i, e, n, m, h1, h2, q => by
    cases e <;> first | (cases m <;> simp [kp] at h2; done) | (simp [eqD] at q; try rw [q])
  | .str i, e, n, m, h1, h2, q => by
    cases e <;> first | (cases m <;> simp [kp] at h2; done) | (simp [eqD] at q; try rw [q])
  | .tup xs, e, n + 1, m, h1, h2, q => by
    cases e with
    | tup ys =>
      cases m with
      | zero => simp [kp] at h2
      | succ m =>
        simp only [eqD] at q
        rw [eqL_kp (n := n) (m := m) (fun x hx => List.all_eq_true.mp (show xs.all (kp n) = true from h1) x hx) (fun x hx => List.all_eq_true.mp (show ys.all (kp m) = true from h2) x hx) q]
    | int _ => simp [eqD] at q
    | str _ => simp [eqD] at q
    | _ => cases m <;> simp [kp] at h2
  | .tup _, e, 0, m, h1, h2, q => by simp [kp] at h1
  | .non, e, n, m, h1, _, _ => by cases n <;> simp [kp] at h1
  | .bl _, e, n, m, h1, _, _ => by cases n <;> simp [kp] at h1
  | .lst _, e, n, m, h1, _, _ => by cases n <;> simp [kp] at h1
  | .ty _, e, n, m, h1, _, _ => by cases n <;> simp [kp] at h1
  | .ref _, e, n, m, h1, _, _ => by cases n <;> simp [kp] at h1
  | .ins _ _ _, e, n, m, h1, _, _ => by cases n <;> simp [kp] at h1
  | .scr _, e, n, m, h1, _, _ => by cases n <;> simp [kp] at h1
theorem eqL_kp : ∀ {xs ys : List D} {n m : Nat}, (∀ x ∈ xs, kp n x = true) → (∀ y ∈ ys, kp m y = true) → eqL xs ys = true → xs = ys
  | [], [], _, _, _, _, _ => rfl
  | [], _ :: _, _, _, _, _, q => by simp [eqL] at q
  | _ :: _, [], _, _, _, _, q => by simp [eqL] at q
  | x :: xs, y :: ys, n, m, h1, h2, q => by
    simp only [eqL, Bool.and_eq_true] at q
    rw [eqD_kp (h1 x (List.mem_cons_self ..)) (h2 y (List.mem_cons_self ..)) q.1, eqL_kp (fun z hz => h1 z (List.mem_cons_of_mem _ hz)) (fun z hz => h2 z (List.mem_cons_of_mem _ hz)) q.2]
end
theorem ltD_tri {x y : D} {n m : Nat} (hx : kp n x = true) (hy : kp m y = true) (h1 : like x y = true) (h2 : like y x = true) (ne : x ≠ y) (a : ltD y x = false) : ltD x y = true := by
  cases b : ltD x y with
  | true => rfl
  | false => exact absurd (eqD_kp hx hy (eqD_of_not h1 h2 b a)) ne
/-- different things in order stand strictly in order -/
theorem strict {xs : List D} {n : Nat} (hk : ∀ x ∈ xs, kp n x = true) (al : alikeD xs) (nd : xs.Nodup) (h : xs.Pairwise fun a b => ltD b a = false) : xs.Pairwise fun a b => ltD a b = true :=
  (List.Pairwise.and nd h).imp_of_mem fun {a b} ha hb z => ltD_tri (hk a ha) (hk b hb) (al a ha b hb) (al b hb a ha) z.1 z.2
/-- strictly in order and the same things: the same list -/
theorem asc_unique {xs ys : List D} (al : alikeD (xs ++ ys)) (hx : xs.Pairwise fun a b => ltD a b = true) (hy : ys.Pairwise fun a b => ltD a b = true) (h : ∀ d, d ∈ xs ↔ d ∈ ys) : xs = ys := by
  have lk : ∀ {a b}, a ∈ xs ++ ys → b ∈ xs ++ ys → like a b = true := fun ha hb => al _ ha _ hb
  have ndx : xs.Nodup := hx.imp_of_mem fun {a b} ha hb z e => by
    subst e
    have := ltD_irrefl (lk (List.mem_append_left _ ha) (List.mem_append_left _ ha))
    rw [z] at this
    cases this
  have ndy : ys.Nodup := hy.imp_of_mem fun {a b} ha hb z e => by
    subst e
    have := ltD_irrefl (lk (List.mem_append_right _ ha) (List.mem_append_right _ ha))
    rw [z] at this
    cases this
  refine List.Perm.eq_of_pairwise (le := fun a b => ltD a b = true ∨ a = b) (fun a b ha hb h1 h2 => ?_) (hx.imp fun z => .inl z) (hy.imp fun z => .inl z) ((List.perm_ext_iff_of_nodup ndx ndy).mpr h)
  rcases h1 with h1 | h1
  · rcases h2 with h2 | h2
    · have ha' := List.mem_append_left ys ha
      have hb' := List.mem_append_right xs hb
      have := ltD_asym (lk ha' hb') (lk hb' ha') (lk ha' ha') h1
      rw [h2] at this
      cases this
    · exact h2.symm
  · exact h1
/-! ### sorted(xs) -/
theorem each_of {K : PySem.W.Frag} {F : Hp} : ∀ {xs : List D} {vs : List V} {us : List Value}, RepL K F xs vs → Vals vs us → PySem.W.EachIs (fun u d => ∃ v, RelV v u ∧ Rep K F d v) us xs
  | [], _, _, r, q => by
    have := r.nilV
    subst this
    cases q
    exact .nil
  | x :: xs, _, _, r, q => by
    obtain ⟨v, w, rfl, r1, r2⟩ := r.consV
    cases q with
    | cons q1 q2 => exact .cons ⟨v, q1, r1⟩ (each_of r2 q2)
theorem of_each {K : PySem.W.Frag} {F : Hp} : ∀ {xs : List D} {us : List Value}, PySem.W.EachIs (fun u d => ∃ v, RelV v u ∧ Rep K F d v) us xs → ∃ vs, Vals vs us ∧ RepL K F xs vs
  | [], _, h => by cases h; exact ⟨[], .nil, RepL.nil⟩
  | x :: xs, _, h => by
    cases h with
    | cons h1 h2 =>
      obtain ⟨v, r, q⟩ := h1
      obtain ⟨vs, rs, qs⟩ := of_each h2
      exact ⟨v :: vs, .cons r rs, RepL.cons q qs⟩
theorem allAlike {xs : List D} (h : alikeD xs) : PySem.W.AllAlike (xs.map enc) := fun d hd e he => by
  obtain ⟨x, hx, rfl⟩ := List.mem_map.mp hd
  obtain ⟨y, hy, rfl⟩ := List.mem_map.mp he
  exact alike_enc (h x hx y hy)
theorem like_not_non {x : D} (h : like x x = true) : enc x ≠ .none := by
  cases x <;> simp [like] at h <;> simp [enc]
theorem sortable {xs : List D} (al : alikeD xs) (h : tupsD xs) : PySem.W.Sortable (xs.map enc) := by
  rcases h with h | h
  · refine .inl fun d hd => ?_
    obtain ⟨x, hx, rfl⟩ := List.mem_map.mp hd
    obtain ⟨y, r, rfl⟩ := h x hx
    exact ⟨enc y, encs r, by simp [enc, encs]⟩
  · refine .inr fun d hd => ?_
    obtain ⟨x, hx, rfl⟩ := List.mem_map.mp hd
    refine ⟨like_not_non (al x hx x hx), fun ys e => ?_⟩
    have := h x hx
    cases x <;> simp [enc] at e <;> simp [isTup] at this
mutual
theorem depth_enc : ∀ {d : D} {n : Nat}, lay n d = true → (enc d).depth ≤ n
  | .non, _, _ => by simp [enc, PyData.depth]
  | .bl _, _, _ => by simp [enc, PyData.depth]
  | .int _, _, _ => by simp [enc, PyData.depth]
  | .str _, _, _ => by simp [enc, PyData.depth]
  | .lst xs, n + 1, l => by
    simp only [enc, PyData.depth]
    have := depthL_enc (n := n) (fun x hx => List.all_eq_true.mp (show xs.all (lay n) = true from l) x hx)
    omega
  | .tup xs, n + 1, l => by
    simp only [enc, PyData.depth]
    have := depthL_enc (n := n) (fun x hx => List.all_eq_true.mp (show xs.all (lay n) = true from l) x hx)
    omega
  | .lst _, 0, l => by simp [lay] at l
  | .tup _, 0, l => by simp [lay] at l
  | .ty _, n, l => by cases n <;> simp [lay] at l
  | .ref _, n, l => by cases n <;> simp [lay] at l
  | .ins _ _ _, n, l => by cases n <;> simp [lay] at l
  | .scr _, n, l => by cases n <;> simp [lay] at l
theorem depthL_enc : ∀ {xs : List D} {n : Nat}, (∀ x ∈ xs, lay n x = true) → PyData.depthAll (encs xs) ≤ n
  | [], _, _ => by simp [encs, PyData.depthAll]
  | x :: xs, n, l => by
    simp only [encs, PyData.depthAll]
    have h1 := depth_enc (l x (List.mem_cons_self ..))
    have h2 := depthL_enc (fun y hy => l y (List.mem_cons_of_mem _ hy))
    omega
end
section
variable {X : Cx} {F0 : Hp}
def dSorted : DN := fun ds M Q => match ds with
  | [x] => (match asR M x with | some xs => Sb xs ∧ Q (.lst (srt xs)) M | none => False)
  | _ => False
theorem cr_dsorted (hu : X.A.units + 64 < cLine) : CallR X (.builtin "sorted") (lowN X.K F0 dSorted) := by
  intro pins s σ H xs us Q I rv h
  obtain ⟨F, M, ds, QD, e0, r, rs, q, m⟩ := h
  unfold dSorted at q
  split at q
  · obtain ⟨v, rfl, h1⟩ := rep1 rs
    split at q
    · rename_i zs ez
      obtain ⟨hs, q⟩ := q
      obtain ⟨a, vs, rfl, ha, rl⟩ := asR_at r h1 ez
      obtain rfl := Vals.ref1 rv
      obtain ⟨its, rv2, hl, hz⟩ := I.list ha
      have ev : PySem.W.EachIs (fun u d => ∃ v, RelV v u ∧ Rep X.K F d v) its zs := each_of rl rv2
      have er : PySem.W.EachIs (fun u d => ∃ as, Reads s.heap u (enc d) as) its zs := (PySem.W.each_mem ev).mono fun u d ⟨⟨v, q1, q2⟩, hd⟩ => reads_of (hs.ly d hd) (at_of I (hs.ly d hd) (q2.mono r.sub) q1)
      refine PySem.W.sorted_data (enc := enc) hl.isList ev er (allAlike hs.al) (sortable hs.al hs.tu) (by rw [rl.length]; exact hz) (fun b hb => by have := depth_enc (hs.ly b hb); omega) fun out hlen eo => ?_
      obtain ⟨ws, qw, rw'⟩ := of_each (xs := srt zs) eo
      obtain ⟨ep, he⟩ := PyProof.Rows.sortedAll_at s.heap its out.toArray
      have hn : H (s.heap.objs.size + 1) = none := I.hok.fresh (Nat.le_succ _)
      obtain ⟨s1, s2, s3⟩ := ice_lst r hn rw'
      have hwl : ws.length ≤ sizeLine := by
        rw [← rw'.length, (srt_perm zs).length_eq, rl.length]
        exact hz
      exact ⟨.ref _, upd H (s.heap.objs.size + 1) (.lst ws), I.laid (t' := s.toks) (fun _ _ => PyProof.Rows.sortedAll_old) (Nat.le_succ _) ⟨hwl, out, ep, qw, he⟩, rfl, m _ M _ _ _ q s1 s2 s3⟩
    · exact q.elim
  · exact q.elim
end
end DS
set_option Elab.async false
set_option linter.all false
set_option maxRecDepth 100000
set_option maxHeartbeats 4000000
/-! DS7: len(set(xs)), sorted(set(xs)) -/
namespace DS
open PySem PySem.Spec PyProof.Rows L2 DL SeqAt
/-- tuples that are keys -/
def ks8 (xs : List D) : Bool := xs.all fun x => isTup x && kp 8 x
theorem ks8_kp {xs : List D} (h : ks8 xs = true) {x : D} (hx : x ∈ xs) : kp 8 x = true := by
  have := List.all_eq_true.mp h x hx
  simp only [Bool.and_eq_true] at this
  exact this.2
theorem perm_map_inv {α β : Type} {f : α → β} {vs ws : List β} (p : vs.Perm ws) : ∀ l : List α, ws = l.map f → ∃ l' : List α, l'.Perm l ∧ vs = l'.map f := by
  induction p with
  | nil =>
    intro l e
    have : l = [] := by simpa using e.symm
    subst this
    exact ⟨[], .refl _, rfl⟩
  | cons x p ih =>
    intro l e
    cases l with
    | nil => cases e
    | cons y l =>
      simp only [List.map_cons, List.cons.injEq] at e
      obtain ⟨l', p', e'⟩ := ih l e.2
      exact ⟨y :: l', p'.cons y, by rw [e.1, e']; rfl⟩
  | swap x y l0 =>
    intro l e
    match l, e with
    | a :: b :: l, e =>
      simp only [List.map_cons, List.cons.injEq] at e
      exact ⟨b :: a :: l, List.Perm.swap a b l, by rw [e.1, e.2.1, e.2.2]; rfl⟩
  | trans _ _ ih1 ih2 =>
    intro l e
    obtain ⟨l2, p2, e2⟩ := ih2 l e
    obtain ⟨l1, p1, e1⟩ := ih1 l2 e2
    exact ⟨l1, p1.trans p2, e1⟩
abbrev Zed := Addr × D
abbrev toRow (z : Zed) : Row := (z.1, nk z.2)
section
variable {X : Cx} {F0 : Hp} {pins : List (Addr × Obj)} {σ : L2.St} {H F : Hp} {M : DM} {s : Shared}
theorem zeds (I : Inv X pins σ H s) (r : Rel X.K F M H) : ∀ {xs : List D} {vs : List V} {us : List Value}, ks8 xs = true → RepL X.K F xs vs → Vals vs us →
    ∃ zs : List Zed, us = zs.map (fun z => Value.ref z.1) ∧ xs = zs.map Prod.snd ∧ (∀ z ∈ zs, Rep X.K F z.2 (.ref z.1)) ∧ Mem s.heap (zs.map toRow)
  | [], _, _, _, rl, q => by
    have := rl.nilV
    subst this
    cases q
    exact ⟨[], rfl, rfl, fun _ h => (by cases h), fun _ h => (by cases h)⟩
  | x :: xs, _, _, hk, rl, q => by
    obtain ⟨v, w, rfl, r1, r2⟩ := rl.consV
    cases q with
    | cons q1 q2 =>
      rename_i u us
      have hk' : (isTup x && kp 8 x) = true ∧ ks8 xs = true := by simpa [ks8, List.all_cons] using hk
      obtain ⟨zs, e1, e2, e3, e4⟩ := zeds I r hk'.2 r2 q2
      obtain ⟨ht, hp⟩ := Bool.and_eq_true_iff.mp hk'.1
      have ha := at_of I (kp_lay hp) (r1.mono r.sub) q1
      have hn := nested_of hp ha
      cases x with
      | tup ys =>
        have r1' := r1
        unfold Rep at r1
        obtain ⟨a, _, rfl, _, _⟩ := r1
        obtain rfl : u = Value.ref a := q1
        refine ⟨(a, .tup ys) :: zs, by rw [e1]; rfl, by rw [e2]; rfl, fun z hz => ?_, fun z hz => ?_⟩
        · rcases List.mem_cons.mp hz with rfl | hz
          · exact r1'
          · exact e3 z hz
        · rcases List.mem_cons.mp hz with rfl | hz
          · exact hn
          · exact e4 z hz
      | _ => cases ht
/-- the rows that a set has, as values -/
theorem back_rows {zs : List Zed} : ∀ {L : List Row}, (∀ r ∈ L, r ∈ zs.map toRow) → ∃ L' : List Zed, L = L'.map toRow ∧ ∀ z ∈ L', z ∈ zs
  | [], _ => ⟨[], rfl, fun _ h => (by cases h)⟩
  | r :: L, h => by
    obtain ⟨z, hz, rfl⟩ := List.mem_map.mp (h r (List.mem_cons_self ..))
    obtain ⟨L', e, h'⟩ := back_rows fun q hq => h q (List.mem_cons_of_mem _ hq)
    refine ⟨z :: L', by rw [e]; rfl, fun y hy => ?_⟩
    rcases List.mem_cons.mp hy with rfl | hy
    · exact hz
    · exact h' y hy
theorem set_members {zs L' : List Zed} {L : List Row} (hk : ks8 (zs.map Prod.snd) = true) (g : Has (zs.map toRow) L) (e : L = L'.map toRow) (sub : ∀ z ∈ L', z ∈ zs) (nd : (L.map Prod.snd).Nodup) : (L'.map Prod.snd).Nodup ∧ ∀ d, d ∈ L'.map Prod.snd ↔ d ∈ zs.map Prod.snd := by
  have em : L.map Prod.snd = (L'.map Prod.snd).map nk := by rw [e, List.map_map, List.map_map]; rfl
  refine ⟨List.Pairwise.of_map nk (fun _ _ hne e => hne (congrArg nk e)) (em ▸ nd), fun d => ⟨fun hd => ?_, fun hd => ?_⟩⟩
  · obtain ⟨z, hz, rfl⟩ := List.mem_map.mp hd
    exact List.mem_map.mpr ⟨z, sub z hz, rfl⟩
  · obtain ⟨z, hz, rfl⟩ := List.mem_map.mp hd
    have h1 := g.all (toRow z) (List.mem_map.mpr ⟨z, hz, rfl⟩)
    rw [em] at h1
    obtain ⟨d', hd', e'⟩ := List.mem_map.mp h1
    obtain ⟨y, hy, rfl⟩ := List.mem_map.mp hd'
    rw [← nk_inj (ks8_kp hk (List.mem_map.mpr ⟨y, sub y hy, rfl⟩)) (ks8_kp hk (List.mem_map.mpr ⟨z, hz, rfl⟩)) e']
    exact hd'
/-! ### len(set(xs)) -/
def dLenSet (ta : DTE) : DTE := fun δ M Q => ta δ M fun d M1 => match asR M1 d with
  | some xs => ks8 xs = true ∧ xs.length < 64 ∧ ∀ ys : List D, ys.Nodup → (∀ d, d ∈ ys ↔ d ∈ xs) → Q (.int ys.length) M1
  | none => False
theorem dpe_lenSet {a : Expr} {ta : DTE} {p p2 q pos : Pos} (hc : X.calm = true) (hu : X.A.units + 64 < cLine) (hm : X.mg "len" = none) (hm2 : X.mg "set" = none) (ha : DPE X F0 a ta) (hg : Gl X "len" := by rfl) (hg2 : Gl X "set" := by rfl)
    (na : starEach [a] X.env = (false, eval a X.env) :: starEach [] X.env := by rfl) : DPE X F0 (.Call (.Name "len" p) [.Call (.Name "set" p2) [a] [] q] [] pos) (dLenSet ta) := by
  refine ⟨fun pins s σ H Q I h => ?_⟩
  obtain ⟨F, δ, M, QD, e0, r, sl, h, m⟩ := h
  refine Call_ (ld_blt I hg hm boot_len (PyProof.Rows.callWith_builtin1 (PyProof.Rows.args_cons ?_ rfl) rfl rfl))
  refine Call_ (ld_blt I hg2 hm2 boot_set (PyProof.Rows.callWith_type1 (PyProof.Rows.args_cons (thn (ha.run pins s σ H _ I ⟨F, δ, M, _, e0, r, sl, h, fun d M1 F1 H1 v q1 e1 r1 rv => (show ∃ F1 M1 xs vs a, Same F F1 ∧ Rel X.K F1 M1 H1 ∧ v = V.ref a ∧ SqL X.K H1 a vs ∧ RepL X.K F1 xs vs ∧ ks8 xs = true ∧ xs.length < 64 ∧ ∀ ys : List D, ys.Nodup → (∀ d, d ∈ ys ↔ d ∈ xs) → QD (.int ys.length) M1 from by
      split at q1
      · rename_i xs ex
        obtain ⟨a, vs, rfl, h1, h2⟩ := asR_at r1 rv ex
        exact ⟨F1, M1, xs, vs, a, e1, r1, rfl, h1, h2, q1⟩
      · exact q1.elim)⟩) fun u s1 ⟨v, H1, I1, rv1, F1, M1, xs, vs, a, e1, r1, ev, hs, rl, hk, h64, q1⟩ => PyProof.Rows.args_nil ?_) na) na rfl))
  subst ev
  obtain rfl : u = Value.ref a := rv1
  obtain ⟨its, rv2, hl, hz⟩ := I1.list hs
  obtain ⟨zs, e2, e3, e4, e5⟩ := zeds I1 r1 hk rl rv2
  have hlen : zs.length = xs.length := by rw [e3, List.length_map]
  refine call_setN (zs.map toRow) (I1.ok.hd hc) hl.isList (by rw [List.toList_toArray, e2, List.map_map]; rfl) e5 (by rw [List.length_map, hlen]; exact h64) (by omega) fun h' tk L es ep t R g kp => ?_
  obtain ⟨L', eL, sub⟩ := back_rows g.sub
  obtain ⟨nd, mem⟩ := set_members (by rw [← e3]; exact hk) g eL sub R.nd
  refine PyProof.Rows.args_nil ?_
  obtain ⟨o, ho, hex, hd⟩ := R.ob
  have I2 : Inv X pins σ H1 { s1 with heap := h', toks := tk } := I1.kept kp
  have hn : es.size = L'.length := by rw [R.sz (s := { s1 with heap := h' }), eL, List.length_map]
  have hfew := R.few
  refine call_len_set ho hex hd (R.fits (s := { s1 with heap := h' })) (by rw [hn]; rw [eL, List.length_map] at hfew; omega) ⟨.int L'.length, H1, I2.tok _, ⟨_, by rw [hn]⟩, ?_⟩
  have q2 := q1 (L'.map Prod.snd) nd (by rw [e3]; exact mem)
  rw [List.length_map] at q2
  exact m _ M1 F1 H1 _ q2 e1 r1 rep_int
end
end DS
set_option Elab.async false
set_option linter.all false
set_option maxRecDepth 100000
set_option maxHeartbeats 4000000
/-! DS8: sorted(set(xs)) -/
namespace DS
open PySem PySem.Spec PyProof.Rows L2 DL SeqAt
mutual
theorem reads_kp {h : Heap} : ∀ {d : D} {n : Nat} {u : Value}, kp n d = true → At h d u → Reads h u (enc d) []
  | .int i, _, _, _, a => by unfold At at a; obtain ⟨t, rfl⟩ := a; exact .int i t
  | .str x, _, _, _, a => by unfold At at a; obtain ⟨t, rfl⟩ := a; exact .str x t
  | .tup xs, n + 1, _, l, a => by
    unfold At at a
    obtain ⟨p, its, rfl, ⟨o, h1, h2, m, h3⟩, r⟩ := a
    exact .tuple h1 h2 h3 (readsL_kp (n := n) (fun x hx => List.all_eq_true.mp (show xs.all (kp n) = true from l) x hx) r)
  | .tup _, 0, _, l, _ => by simp [kp] at l
  | .non, n, _, l, _ => by cases n <;> simp [kp] at l
  | .bl _, n, _, l, _ => by cases n <;> simp [kp] at l
  | .lst _, n, _, l, _ => by cases n <;> simp [kp] at l
  | .ty _, n, _, l, _ => by cases n <;> simp [kp] at l
  | .ref _, n, _, l, _ => by cases n <;> simp [kp] at l
  | .ins _ _ _, n, _, l, _ => by cases n <;> simp [kp] at l
  | .scr _, n, _, l, _ => by cases n <;> simp [kp] at l
theorem readsL_kp {h : Heap} : ∀ {xs : List D} {n : Nat} {us : List Value}, (∀ x ∈ xs, kp n x = true) → AtL h xs us → ReadsAll h us (encs xs) []
  | [], _, _, _, a => by unfold AtL at a; subst a; exact .nil
  | x :: xs, n, _, l, a => by
    unfold AtL at a
    obtain ⟨u, r, rfl, a1, a2⟩ := a
    have q := ReadsAll.cons (reads_kp (l x (List.mem_cons_self ..)) a1) (readsL_kp (fun y hy => l y (List.mem_cons_of_mem _ hy)) a2)
    simpa [encs] using q
end
theorem each_zeds {R : Value → D → Prop} : ∀ {zs : List Zed}, (∀ z ∈ zs, R (.ref z.1) z.2) → PySem.W.EachIs R (zs.map fun z => Value.ref z.1) (zs.map Prod.snd)
  | [], _ => .nil
  | z :: zs, h => .cons (h z (List.mem_cons_self ..)) (each_zeds fun y hy => h y (List.mem_cons_of_mem _ hy))
section
variable {X : Cx} {F0 : Hp} {pins : List (Addr × Obj)} {σ : L2.St} {H F : Hp} {M : DM} {s : Shared}
theorem sort_run {a : Addr} {L' : List Zed} {es : Array (Int × Value)} {ep : Nat} {t : SetTable} {QD : DK} {Q : VK} (hc : X.calm = true) (hu : X.A.units + 64 < cLine) (I : Inv X pins σ H s) (r : Rel X.K F M H) (R : SetN X.w s.heap a (L'.map toRow) es ep t)
    (hrep : ∀ z ∈ L', Rep X.K F z.2 (.ref z.1)) (hk : ks8 (L'.map Prod.snd) = true) (al : alikeD (L'.map Prod.snd)) (ne : ∀ x ∈ L'.map Prod.snd, ∃ y q, x = .tup (y :: q)) (nd : (L'.map Prod.snd).Nodup) (m : DL.Meets X.K F QD Q)
    (q : ∀ ys : List D, (ys.Pairwise fun a b => ltD a b = true) → (∀ d, d ∈ ys ↔ d ∈ L'.map Prod.snd) → QD (.lst ys) M) : wpAny (model X.prog X.w) X.A (call (.builtin "sorted") [.ref a]) (EP X pins σ Q) X.xe s := by
  obtain ⟨o, ho, hex, hd⟩ := R.ob
  have hfew := R.few
  have hsz := R.sz
  refine Calls.call_function_entry kind_sorted plain_sorted entry_sorted (args_sorted1 _) ?_
  unfold Builtin.«sorted»
  refine wpAny_bind (m := checkCount "sorted" 1 1 _) (wpAny_pure ?_)
  refine wpAny_bind (collect_set (A := X.A.in1) (I.ok.hd hc) ⟨o, ho, hex.1, hd⟩ R.fits (by unfold scanBound; omega) R.tab.ris R.led fun s1 vs k1 hz g1 o1 pm => ?_)
  have hes : es.toList.map (·.2) = L'.map fun z => Value.ref z.1 := by
    rw [R.rw_, rws, List.map_map, List.map_map]
    rfl
  rw [hes] at pm
  obtain ⟨L2, pL, rfl⟩ := perm_map_inv pm L' rfl
  have memL : ∀ {z}, z ∈ L2 → z ∈ L' := fun h => pL.mem_iff.mp h
  have memD : ∀ {d}, d ∈ L2.map Prod.snd → d ∈ L'.map Prod.snd := fun h => (pL.map Prod.snd).mem_iff.mp h
  have hlen : L2.length < 64 := by rw [pL.length_eq]; rw [List.length_map] at hfew; exact hfew
  refine wpAny_bind (wpAny_newList ?_ (by rw [List.length_map, sizeLine_eq]; omega))
  have I1 : Inv X pins σ H s1 := I.call' (ch := []) o1 (Un.kept k1) (I.hok.kept k1) (by rw [g1]; exact I.bare) (fun _ z => nomatch z)
  have hoL : (s1.heap.push (seqObj "list" (L2.map fun z => Value.ref z.1).toArray 0)).get? s1.heap.objs.size = some (seqObj "list" (L2.map fun z => Value.ref z.1).toArray 0) := Heap.get?_push_size _ rfl
  have kpz : ∀ z ∈ L2, kp 8 z.2 = true := fun z hz => ks8_kp hk (List.mem_map.mpr ⟨z, memL hz, rfl⟩)
  have I2 : Inv X pins σ H { s1 with heap := s1.heap.push (seqObj "list" (L2.map fun z => Value.ref z.1).toArray 0) } := I1.kept fun b u e => Heap.get?_push_of_some _ e
  have er : ∀ z ∈ L2, Reads (s1.heap.push (seqObj "list" (L2.map fun z => Value.ref z.1).toArray 0)) (.ref z.1) (enc z.2) [] := fun z hz => reads_kp (kpz z hz) (at_of I2 (kp_lay (kpz z hz)) ((hrep z (memL hz)).mono r.sub) rfl)
  have al2 : alikeD (L2.map Prod.snd) := fun x hx y hy => al x (memD hx) y (memD hy)
  refine wpAny_bind (wpAny_holding (PySem.W.list_sort_data (s := { s1 with heap := s1.heap.push (seqObj "list" (L2.map fun z => Value.ref z.1).toArray 0) }) (R := fun u d => ∃ v, RelV v u ∧ Rep X.K F d v) (enc := enc) (bs := L2.map Prod.snd) hoL
    (each_zeds fun z hz => ⟨.ref z.1, rfl, hrep z (memL hz)⟩) (each_zeds fun z hz => ⟨[], er z hz, by simp⟩) (allAlike al2) (sortable al2 (.inl fun x hx => ne x (memD hx))) (by rw [List.length_map, sizeLine_eq]; omega)
    (fun d hd => by
      obtain ⟨z, hz, rfl⟩ := List.mem_map.mp hd
      have := depth_enc (kp_lay (kpz z hz))
      have e1 : X.A.in1.units = X.A.units + 1 := rfl
      omega) fun out hol eo => ?_))
  obtain ⟨ws, qw, rw'⟩ := of_each (xs := srt (L2.map Prod.snd)) eo
  obtain ⟨c, hcl⟩ := sortedHeap_at (vs := L2.map fun z => Value.ref z.1) (out := out.toArray) hoL
  have hn : H s1.heap.objs.size = none := I1.hok.fresh (Nat.le_refl _)
  obtain ⟨s1', s2', s3'⟩ := ice_lst r hn rw'
  have hwl : ws.length ≤ sizeLine := by
    rw [← rw'.length, (srt_perm _).length_eq, List.length_map, sizeLine_eq]
    omega
  refine wpAny_pure ⟨_, rfl, .ref s1.heap.objs.size, upd H s1.heap.objs.size (.lst ws), ?_, rfl, m _ M _ _ _ (q (srt (L2.map Prod.snd)) ?_ fun d => ?_) s1' s2' s3'⟩
  · refine I1.laid (t' := s1.toks) (fun b u e => ?_) (Nat.le_refl _) ⟨hwl, out, c, qw, hcl⟩
    have hlt := Heap.lt_size e
    rw [sortedHeap_old (Nat.ne_of_lt hlt) (by rw [size_push']; exact Nat.lt_succ_of_lt hlt)]
    exact Heap.get?_push_of_some _ e
  · have pm := srt_perm (L2.map Prod.snd)
    refine strict (n := 8) (fun x hx => ?_) (fun x hx y hy => al2 x (pm.mem_iff.mp hx) y (pm.mem_iff.mp hy)) (pm.nodup_iff.mpr ((pL.map Prod.snd).nodup_iff.mpr nd)) (srt_asc al2)
    obtain ⟨z, hz, rfl⟩ := List.mem_map.mp (pm.mem_iff.mp hx)
    exact kpz z hz
  · rw [(srt_perm (L2.map Prod.snd)).mem_iff, (pL.map Prod.snd).mem_iff]
/-- tuples, keys, comparable, none empty -/
structure Sk (xs : List D) : Prop where
  ks : ks8 xs = true
  al : alikeD xs
  ne : ∀ x ∈ xs, ∃ y q, x = .tup (y :: q)
  few : xs.length < 64
def dSortedSet (ta : DTE) : DTE := fun δ M Q => ta δ M fun d M1 => match asR M1 d with
  | some xs => Sk xs ∧ ∀ ys : List D, (ys.Pairwise fun a b => ltD a b = true) → (∀ d, d ∈ ys ↔ d ∈ xs) → Q (.lst ys) M1
  | none => False
theorem Sk.sub {xs ys : List D} (h : Sk xs) (hs : ∀ d ∈ ys, d ∈ xs) (hl : ys.length < 64) : Sk ys :=
  ⟨List.all_eq_true.mpr fun x hx => List.all_eq_true.mp h.ks x (hs x hx), fun x hx y hy => h.al x (hs x hx) y (hs y hy), fun x hx => h.ne x (hs x hx), hl⟩
theorem boot_sorted : bootBuiltins "sorted" = some (.builtin "sorted") := by decide +kernel
theorem dpe_sortedSet {a : Expr} {ta : DTE} {p p2 q pos : Pos} (hc : X.calm = true) (hu : X.A.units + 64 < cLine) (hm : X.mg "sorted" = none) (hm2 : X.mg "set" = none) (ha : DPE X F0 a ta) (hg : Gl X "sorted" := by rfl) (hg2 : Gl X "set" := by rfl)
    (na : starEach [a] X.env = (false, eval a X.env) :: starEach [] X.env := by rfl) : DPE X F0 (.Call (.Name "sorted" p) [.Call (.Name "set" p2) [a] [] q] [] pos) (dSortedSet ta) := by
  refine ⟨fun pins s σ H Q I h => ?_⟩
  obtain ⟨F, δ, M, QD, e0, r, sl, h, m⟩ := h
  refine Call_ (ld_blt I hg hm boot_sorted (PyProof.Rows.callWith_builtin1 (PyProof.Rows.args_cons ?_ rfl) rfl rfl))
  refine Call_ (ld_blt I hg2 hm2 boot_set (PyProof.Rows.callWith_type1 (PyProof.Rows.args_cons (thn (ha.run pins s σ H _ I ⟨F, δ, M, _, e0, r, sl, h, fun d M1 F1 H1 v q1 e1 r1 rv => (show ∃ F1 M1 xs vs a, Same F F1 ∧ Rel X.K F1 M1 H1 ∧ v = V.ref a ∧ SqL X.K H1 a vs ∧ RepL X.K F1 xs vs ∧ Sk xs ∧ ∀ ys : List D, (ys.Pairwise fun a b => ltD a b = true) → (∀ d, d ∈ ys ↔ d ∈ xs) → QD (.lst ys) M1 from by
      split at q1
      · rename_i xs ex
        obtain ⟨a, vs, rfl, h1, h2⟩ := asR_at r1 rv ex
        exact ⟨F1, M1, xs, vs, a, e1, r1, rfl, h1, h2, q1⟩
      · exact q1.elim)⟩) fun u s1 ⟨v, H1, I1, rv1, F1, M1, xs, vs, a, e1, r1, ev, hs, rl, hk, q1⟩ => PyProof.Rows.args_nil ?_) na) na rfl))
  subst ev
  obtain rfl : u = Value.ref a := rv1
  obtain ⟨its, rv2, hl, hz⟩ := I1.list hs
  obtain ⟨zs, e2, e3, e4, e5⟩ := zeds I1 r1 hk.ks rl rv2
  have hlen : zs.length = xs.length := by rw [e3, List.length_map]
  refine call_setN (zs.map toRow) (I1.ok.hd hc) hl.isList (by rw [List.toList_toArray, e2, List.map_map]; rfl) e5 (by rw [List.length_map, hlen]; exact hk.few) (by omega) fun h' tk L es ep t R g kp => ?_
  obtain ⟨L', eL, sub⟩ := back_rows g.sub
  obtain ⟨nd, mem⟩ := set_members (by rw [← e3]; exact hk.ks) g eL sub R.nd
  refine PyProof.Rows.args_nil ?_
  have I2 : Inv X pins σ H1 { s1 with heap := h', toks := tk } := I1.kept kp
  have hk2 : Sk (L'.map Prod.snd) := hk.sub (fun d hd => by rw [e3]; exact (mem d).mp hd) (by have := R.few; rw [eL, List.length_map] at this; rw [List.length_map]; exact this)
  subst eL
  exact sort_run (s := { s1 with heap := h', toks := tk }) hc hu I2 r1 R (fun z hz => e4 z (sub z hz)) hk2.ks hk2.al hk2.ne nd (m.mono e1) fun ys h1 h2 => q1 ys h1 fun d => by rw [h2, mem, e3]
end
end DS
set_option Elab.async false
set_option linter.all false
set_option maxRecDepth 100000
set_option maxHeartbeats 4000000
/-! DS9: {elt for target in iter if ..}, the members tuples -/
namespace DS
open PySem PySem.Spec PyProof.Rows L2 DL SeqAt
/-- the set at D has the members of L -/
def SetNO (w : World) (D : Addr) (L : List Zed) : HO := .ext fun h => ∃ es ep t, SetN w h D (L.map toRow) es ep t
theorem setNO_new {P : Program} {w : World} {H : Hp} {h : Heap} {D : Addr} {L : List Zed} (R : ∃ es ep t, SetN w h D (L.map toRow) es ep t) : ObjOk P w H h D (SetNO w D L) := by
  have R0 := R
  obtain ⟨es, ep, t, R⟩ := R
  obtain ⟨o, ho, _⟩ := R.ob
  exact ⟨R0, ⟨o, ho⟩, fun h1 h2 ⟨es, ep, t, q⟩ k => ⟨es, ep, t, q.keep k⟩⟩
/-- one member more: nothing, or a new one at some place -/
def More (z : Zed) (L L2 : List Zed) : Prop := (nk z.2 ∈ L.map (fun y => nk y.2) → L2 = L) ∧ (nk z.2 ∉ L.map (fun y => nk y.2) → L2.Perm (z :: L))
section
variable {X : Cx}
theorem setNO_get {pins : List (Addr × Obj)} {σ : L2.St} {H : Hp} {s : Shared} {D : Addr} {L : List Zed} (I : Inv X pins σ H s) (h : H D = some (SetNO X.w D L)) : ∃ es ep t, SetN X.w s.heap D (L.map toRow) es ep t := (I.hok D _ h).1
theorem add_zed {pins : List (Addr × Obj)} {σ : L2.St} {H : Hp} {s : Shared} {E : Value → Shared → Prop} {D : Addr} {L : List Zed} {z : Zed} {Q : Value → Shared → Prop} (I : Inv X pins σ H s) (hu : X.A.units + 64 < cLine) (hD : H D = some (SetNO X.w D L)) (few : L.length + 1 < 64)
    (hL : ∀ y ∈ L, Rep X.K H y.2 (.ref y.1) ∧ kp 8 y.2 = true) (hz : Rep X.K H z.2 (.ref z.1) ∧ kp 8 z.2 = true) (fin : ∀ s' L2, More z L L2 → Inv X pins σ (upd H D (SetNO X.w D L2)) s' → Q .none s') :
    wpAny (model X.prog X.w) X.A (call (.builtin "set.add") [.ref D, .ref z.1]) Q E s := by
  obtain ⟨es, ep, t, R⟩ := setNO_get I hD
  obtain ⟨o, ho, hex, hd⟩ := R.ob
  have ky : ∀ y : Zed, Rep X.K H y.2 (.ref y.1) → kp 8 y.2 = true → Ky s.heap (nk y.2) y.1 := fun y h1 h2 => nested_of h2 (at_of I (kp_lay h2) h1 rfl)
  have mem : Mem s.heap (L.map toRow) := fun r hr => by
    obtain ⟨y, hy, rfl⟩ := List.mem_map.mp hr
    exact ky y (hL y hy).1 (hL y hy).2
  have ty : s.TypeIs (.ref D) "set" := ⟨o, ho, hex.1⟩
  refine wpAny_call_entry F.slot_set_add ty F.entry_set_add ?_ (F.args_set_add_2 _ _)
  unfold Builtin.«set.add» Builtin.Frozenset.oneOther
  simp only [List.isEmpty_nil, bind_assoc]
  unfold Builtin.Frozenset.addrOf
  have e1 : X.A.in1.units = X.A.units + 1 := rfl
  refine wpAny_bind (wpAny_pure ?_)
  try dsimp only
  refine wpAny_bind (wpAny_pure ?_)
  try dsimp only
  refine wpAny_bind ?_
  refine setAdd_n R mem (ky z hz.1 hz.2) (by omega) (by rw [List.length_map]; exact few) fun b h' tk L' es' ep' t' sb R2 c1 c2 htk => ?_
  have em : (L.map toRow).map Prod.snd = L.map (fun y => nk y.2) := by rw [List.map_map]; rfl
  rw [em] at c1 c2
  obtain ⟨L2, eL, mo⟩ : ∃ L2 : List Zed, L' = L2.map toRow ∧ More z L L2 := by
    rcases Classical.em (nk z.2 ∈ L.map (fun y => nk y.2)) with c | c
    · exact ⟨L, c1 c, fun _ => rfl, fun n => absurd c n⟩
    · obtain ⟨L2, p2, e2⟩ := perm_map_inv (f := toRow) (c2 c) (z :: L) rfl
      exact ⟨L2, e2, fun n => absurd n c, fun _ => p2⟩
  subst eL
  have he : ∃ u, h'.get? D = some u := by
    obtain ⟨u, hu, _⟩ := R2.ob
    exact ⟨u, hu⟩
  show wpAny _ _ (ret Value.none) _ _ _
  exact wpAny_pure ⟨_, rfl, fin _ L2 mo (I.write (e := D) (t' := tk) (by rw [hD]; trivial) (.inl rfl) (fun c u hc q => (sb.2 c hc).trans q) he (setNO_new ⟨es', ep', t', R2⟩))⟩
end
end DS
set_option Elab.async false
set_option linter.all false
set_option maxRecDepth 100000
set_option maxHeartbeats 4000000
/-! DS10: the rule of a set comprehension -/
namespace DS
open PySem PySem.Spec PyProof.Rows L2 DL SeqAt PpSet
structure AddOk (K : PySem.W.Frag) (w : World) (D : Addr) (z : Zed) (L : List Zed) (H : Hp) : Prop where
  at_ : H D = some (SetNO w D L)
  few : L.length + 1 < 64
  old : ∀ y ∈ L, Rep K H y.2 (.ref y.1) ∧ kp 8 y.2 = true
  new : Rep K H z.2 (.ref z.1) ∧ kp 8 z.2 = true
/-- D: the new set -/
def tScN (K : PySem.W.Frag) (w : World) (wi : TI) (g : TG) (tt : TT) (te : TE) (vs : List Nat) : TE := fun σ H Q => wi σ H fun J H1 => ∀ D, H1 D = none → ∃ W : Nat → Nat → Hp → Prop, (∃ m, W 0 m (upd H1 D (SetNO w D []))) ∧ ∀ i m H2, W i m H2 →
  (J.stop i H2 ∧ Q (.ref D) H2) ∨ (J.go i H2 ∧ ∃ Nx : Hp → Prop, (∀ H', Nx H' → ∃ m', m' < m ∧ W (i + 1) m' H') ∧ ∀ x H', J.yld i H2 x H' → g x (wipe σ vs) H' fun σ2 H3 => wipe σ2 vs = wipe σ vs ∧ tt σ2 H3 fun b H4 =>
    if b = true then te σ2 H4 fun y H5 => ∃ z L, y = .ref z.1 ∧ AddOk K w D z L H5 ∧ ∀ L2, More z L L2 → Nx (upd H5 D (SetNO w D L2)) else Nx H4)
section
variable {X : Cx}
abbrev BlkPG (X : Cx) (scope : Scope) (tg : Expr) (g : TG) : Prop := ∀ (s : Shared) (H : Hp) (C : Addr) (cl : List (PySem.Str × Addr)) (fp : List Addr), PG (X.blk s H scope (compEnvC scope cl C X.env) fp) tg g
abbrev BlkPTs (X : Cx) (scope : Scope) (ifs : List Expr) (t : TT) : Prop := ∀ (s : Shared) (H : Hp) (C : Addr) (cl : List (PySem.Str × Addr)) (fp : List Addr), PTs (X.blk s H scope (compEnvC scope cl C X.env) fp) ifs t
abbrev BlkPE (X : Cx) (scope : Scope) (e : Expr) (t : TE) : Prop := ∀ (s : Shared) (H : Hp) (C : Addr) (cl : List (PySem.Str × Addr)) (fp : List Addr), PE (X.blk s H scope (compEnvC scope cl C X.env) fp) e t
theorem pe_scN {elt tg iter : Expr} {ifs : List Expr} {scope : Scope} {own : List (PySem.Str × Nat)} {pos : Pos} {wi : TI} {g : TG} {tt : TT} {te : TE} (hc : X.calm = true) (hu : X.A.units + 64 < cLine) (hN : X.N.Nodup) (ok : BlkOk X.N X.env.scope scope own) (hi : PI X tg iter wi)
    (hg : BlkPG X scope tg g) (ht : BlkPTs X scope ifs tt) (he : BlkPE X scope elt te) (hs : ∀ x, foldedSetIterable iter X.env x = pure x := by intro _; rfl) :
    PE X (.SetComp elt [⟨tg, iter, ifs, 0⟩] scope pos) (tScN X.K X.w wi g tt te (own.map (·.2))) := by
  refine ⟨fun pins s σ H Q I h => ?_⟩
  rw [eval_SetComp]
  have cells : ∀ y ∈ scope.names, y.2 = .free → ∃ c, X.env.cells.lookup y.1 = some c := fun y hy e => (ok.free y hy e).elim (fun k => I.ok.has _ (.inl k)) fun k => I.ok.has _ (.inr k)
  refine wpAny_comprehension_free rfl hs (closure_ok cells) ok.kind (fun y hy e => by rw [ok.uniq y hy, e]) (thn (hi.run pins s σ H _ I h) fun xv s1 hx => thn hx fun itv s2 h2 => ?_)
  obtain ⟨it, fp, tn, J, H2, e, I2, T, st2, f2, q⟩ := h2
  subst e
  refine newSet_ok (newEnv_comp ?_)
  obtain ⟨D, hD⟩ : ∃ D, s2.heap.objs.size = D := ⟨_, rfl⟩
  rw [hD]
  have hDn : H2 D = none := I2.hok.fresh (Nat.le_of_eq hD)
  obtain ⟨W, ⟨m0, w0⟩, turn⟩ := q D hDn
  obtain ⟨s3, hs3⟩ : ∃ s3 : Shared, ({ s2 with heap := s2.heap.push (freshSet X.w) } : Shared) = s3 := ⟨_, rfl⟩
  have h3 : s3.heap = s2.heap.push (freshSet X.w) := by rw [← hs3]
  have I3 : Inv X pins σ (upd H2 D (SetNO X.w D [])) s3 := by
    rw [← hs3, ← hD]
    exact I2.laid (t' := s2.toks) (fun b o e => Heap.get?_push_of_some _ e) (Nat.le_refl _) (setNO_new ⟨_, _, _, set_fresh (Heap.get?_push_size _ rfl)⟩)
  have f3 : ∀ b ∈ fp, FpOk X pins (upd H2 D (SetNO X.w D [])) b ∧ b < s3.heap.objs.size := fun b hb => by
    obtain ⟨o, e, _⟩ := T.obj _ _ st2 b hb
    have hlt := Heap.lt_size e
    refine ⟨⟨?_, (f2 b hb).2⟩, by rw [h3, Heap.size_push]; exact Nat.lt_succ_of_lt hlt⟩
    rw [upd_ne (by rw [← hD]; exact Nat.ne_of_lt hlt)]
    exact (f2 b hb).1
  have st3 : tn 0 s3.heap := T.keep _ _ _ st2 fun b _ o e => by rw [h3]; exact Heap.get?_push_of_some _ e
  have I4 := block_start I3 ok hN f3
  rw [hs3]
  obtain ⟨H3, hH3⟩ : ∃ H3, upd H2 D (SetNO X.w D []) = H3 := ⟨_, rfl⟩
  rw [hH3] at I3 I4 w0 f3
  have hg' := hg s3 H3 s3.heap.objs.size (cellsFrom (s3.heap.objs.size + 1) scope.names (cloFrom X.env.cells scope.names [])) fp
  have ht' := ht s3 H3 s3.heap.objs.size (cellsFrom (s3.heap.objs.size + 1) scope.names (cloFrom X.env.cells scope.names [])) fp
  have he' := he s3 H3 s3.heap.objs.size (cellsFrom (s3.heap.objs.size + 1) scope.names (cloFrom X.env.cells scope.names [])) fp
  have nfp : ∀ b ∈ fp, H3 b = none := fun b hb => (f3 b hb).1.1
  obtain ⟨ce, hce⟩ : ∃ ce, compEnvC scope (cellsFrom (s3.heap.objs.size + 1) scope.names (cloFrom X.env.cells scope.names [])) s3.heap.objs.size X.env = ce := ⟨_, rfl⟩
  rw [hce] at I4 hg' ht' he'
  have cL : ce.locals = s3.heap.objs.size := by subst hce; rfl
  obtain ⟨s4, hs4⟩ : ∃ s4 : Shared, ({ s3 with heap := pushCells (s3.heap.push { cls := .type "dict", data := .dict #[] }) scope.names } : Shared) = s4 := ⟨_, rfl⟩
  have st4 : tn 0 s4.heap := T.keep _ _ _ st3 fun b _ o e => by rw [← hs4]; exact pushCells_keeps _ _ _ _ (Heap.get?_push_of_some _ e)
  rw [hs4] at I4
  show codeAny _ _ (.compStart (.SetComp elt [⟨tg, iter, ifs, 0⟩] scope pos) 0 (.ref it) (.ref D) (compEnvC scope (cellsFrom (s3.heap.objs.size + 1) scope.names (cloFrom X.env.cells scope.names [])) s3.heap.objs.size X.env)) _ ({ s3 with heap := pushCells (s3.heap.push { cls := .type "dict", data := .dict #[] }) scope.names } : Shared)
  rw [hce, hs4]
  have fpok : ∀ {σ' : L2.St} {H' : Hp} {s' : Shared}, Inv (X.blk s3 H3 scope ce fp) [] σ' H' s' → (∀ b ∈ fp, H' b = none) → ∀ b ∈ fp, FpOk (X.blk s3 H3 scope ce fp) [] H' b := fun {σ' H' s'} I' hn b hb =>
    ⟨hn b hb, (I'.ok.exf b hb).1, I'.ok.exfs b hb, .inl hb, fun x c e => (I'.ok.exf b hb).2 x c e, fun p hp => absurd (show p ∈ ([] : List (Addr × Obj)) ++ [] from hp) (by simp)⟩
  have loop : codeAny (model X.prog X.w) X.A (.compLoop (.SetComp elt [⟨tg, iter, ifs, 0⟩] scope pos) 0 (.ref it) (.ref D) ce) (compPost (model X.prog X.w) X.A X.xe none (EP X pins σ Q) (.ref D) s3.heap.objs.size) s4 := by
    refine compLoopS_any (fun n s' => ∃ i H', Inv (X.blk s3 H3 scope ce fp) [] (wipe σ (own.map (·.2))) H' s' ∧ tn i s'.heap ∧ (∀ b ∈ fp, H' b = none) ∧ W i n H') ?_ m0 ⟨0, H3, I4, st4, nfp, w0⟩
    rintro n s5 ⟨i, H5, I5, st5, n5, w5⟩
    rcases turn i n H5 w5 with ⟨stop, qq⟩ | ⟨go, Nx, hNx, step⟩
    · refine thnF (T.done (X.blk s3 H3 scope ce fp) rfl rfl rfl hc i [] s5 _ H5 (fun _ _ => False) I5 (fpok I5 n5) st5 stop) fun r s6 ⟨hr, I6⟩ => ?_
      subst hr
      have I7 : Inv X pins σ H5 s6 := I3.call' (ch := fp) I6.os I6.base I6.hok I6.bare fun b hb => ⟨(f3 b hb).1.2.2.2.1, (f3 b hb).1.2.1, (f3 b hb).1.2.2.2.2.1, (f3 b hb).1.2.2.2.2.2⟩
      have nC : H5 s3.heap.objs.size = none := by
        have z : H5 ce.locals = none := I6.free
        rwa [cL] at z
      obtain ⟨m, hn, _⟩ := I6.loc
      have hn : s6.heap.Ns ce.locals m := hn
      rw [cL] at hn
      refine ⟨m, hn, fun h'' sb => ?_⟩
      obtain ⟨g0, g1, g2, g3, g4, g5⟩ := I3.fpOk (pins := pins) (Nat.le_refl _) nC
      exact ⟨.ref D, H5, I7.turned (t' := s6.toks) (fun b o hb e => (sb.2 b hb).trans e) g0 g1 g3 g4 g5, rfl, qq⟩
    · refine thnF (T.item (X.blk s3 H3 scope ce fp) rfl rfl rfl hc i [] s5 _ H5 (fun _ _ => False) I5 (fpok I5 n5) st5 go) fun r s6 ⟨u, hr, h6⟩ => ?_
      subst hr
      refine thnF h6 fun _ s7 ⟨x, H7, I7, r7, y7, st7, n7⟩ => ?_
      have I7' := I7.pinned (fpok I7 n7) (T.obj _ _ st7)
      refine thnF (hg'.run _ s7 _ H7 x u _ I7' r7 (step x H7 y7)) fun _ s8 ⟨σ8, H8, I8, hw8, q8⟩ => ?_
      refine thnF (ht'.run _ s8 σ8 H8 _ I8 q8) fun b s9 ⟨H9, I9, q9⟩ => ?_
      have fin : ∀ {s' : Shared} {H' : Hp}, Inv (X.blk s3 H3 scope ce fp) ([] ++ pinsAt fp s7.heap) σ8 H' s' → Nx H' → ∃ m, m < n ∧ ∃ i H', Inv (X.blk s3 H3 scope ce fp) [] (wipe σ (own.map (·.2))) H' s' ∧ tn i s'.heap ∧ (∀ b ∈ fp, H' b = none) ∧ W i m H' := fun {s' H'} I' nx => by
        obtain ⟨m', hm, w'⟩ := hNx H' nx
        have pin : ∀ b ∈ fp, ∀ o, s7.heap.get? b = some o → s'.heap.get? b = some o ∧ H' b = none := fun b hb o e =>
          let z := I'.pin (b, o) (List.mem_append_right _ (List.mem_append_right _ (mem_pinsAt hb e)))
          ⟨z.1, z.2.1⟩
        refine ⟨m', hm, i + 1, H', (I'.unpinned (pins := [])).weak (by rw [← hw8, wipe_length]) (fun j v e => ?_), T.keep _ _ _ st7 fun b hb o e => (pin b hb o e).1, fun b hb => ?_, w'⟩
        · rw [← hw8] at e
          exact (wipe_some e).1
        · obtain ⟨o, e, _⟩ := T.obj _ _ st7 b hb
          exact (pin b hb o e).2
      cases b with
      | false =>
        simp only [Bool.false_eq_true, if_false] at q9 ⊢
        exact fin I9 q9
      | true =>
        simp only [if_true] at q9 ⊢
        refine thnF (he'.run _ s9 σ8 H9 _ I9 q9) fun v s10 ⟨yv, H10, I10, r10, z, L, ey, ao, nx⟩ => ?_
        subst ey
        obtain rfl : v = Value.ref z.1 := r10
        exact add_zed (X := X.blk s3 H3 scope ce fp) I10 hu ao.at_ ao.few ao.old ao.new fun s11 L2 mo I11 => fin I11 (nx L2 mo)
  exact codeAny_compStart_set loop (T.self X.A 0 _ _ _ st4 loop)
end
end DS
set_option Elab.async false
set_option linter.all false
set_option maxRecDepth 100000
set_option maxHeartbeats 4000000
/-! DS11: sorted({elt for x in iter if ..}) over deep values -/
namespace DS
open PySem PySem.Spec PyProof.Rows L2 DL SeqAt
/-- the same but at D, where F has a thing of its own kind -/
structure But (D : Addr) (F F' : Hp) : Prop where
  at_ : ∃ φ, F D = some (.ext φ)
  nc : ∀ q, F D ≠ some (LamX.CodeO D q)
  ne : ∀ b, b ≠ D → F' b = F b
section
variable {K : PySem.W.Frag} {D : Addr} {F F' : Hp}
theorem But.get (h : But D F F') {b : Addr} {u : HO} (e : F b = some u) (n : ∀ φ, u ≠ .ext φ) : F' b = some u := by
  have hb : b ≠ D := fun z => by
    obtain ⟨φ, q⟩ := h.at_
    rw [z, q] at e
    cases e
    exact n φ rfl
  rw [h.ne b hb, e]
theorem But.rd (h : But D F F') {b : Addr} {u : HO} (e : Rd F b u) (n : ∀ φ, u ≠ .ext φ) : Rd F' b u := by
  rcases e with e | ⟨o, e⟩
  · exact .inl (h.get e n)
  · exact .inr ⟨o, h.get e fun φ => by simp⟩
mutual
theorem But.rep (h : But D F F') : ∀ {d : DL.D} {v : V}, Rep K F d v → Rep K F' d v
  | .non, _, q => q
  | .bl _, _, q => q
  | .int _, _, q => q
  | .str _, _, q => q
  | .ty _, _, q => q
  | .ref _, _, q => q
  | .tup xs, _, q => by
    unfold Rep at q ⊢
    obtain ⟨a, vs, h1, h2, h3⟩ := q
    exact ⟨a, vs, h1, h2.imp (fun z => h.rd z fun φ => by simp) id, But.repL h h3⟩
  | .lst xs, _, q => by
    unfold Rep at q ⊢
    obtain ⟨a, vs, h1, h2, h3⟩ := q
    exact ⟨a, vs, h1, h.get h2 (fun φ => by simp), But.repL h h3⟩
  | .scr xs, _, q => by
    unfold Rep at q ⊢
    obtain ⟨a, vs, h1, h2, h3⟩ := q
    exact ⟨a, vs, h1, h2.imp (fun z => h.rd z fun φ => by simp) id, But.repL h h3⟩
  | .ins C ns xs, _, q => by
    unfold Rep at q ⊢
    obtain ⟨a, dx, vs, h1, h2, h3, h4⟩ := q
    exact ⟨a, dx, vs, h1, h.get h2 (fun φ => by simp), h3, But.repL h h4⟩
theorem But.repL (h : But D F F') : ∀ {xs : List DL.D} {vs : List V}, RepL K F xs vs → RepL K F' xs vs
  | [], _, q => q
  | x :: xs, _, q => by
    unfold RepL at q ⊢
    obtain ⟨v, r, h1, h2, h3⟩ := q
    exact ⟨v, r, h1, But.rep h h2, But.repL h h3⟩
end
theorem But.repM (h : But D F F') : ∀ {m : MO} {o : HO}, RepM K F m o → RepM K F' m o
  | .lst _, _, ⟨vs, e, r⟩ => ⟨vs, e, h.repL r⟩
  | .ins _ _, _, ⟨dx, vs, e, r⟩ => ⟨dx, vs, e, Paired.mapP r fun _ _ z => ⟨z.1, h.rep z.2⟩⟩
  | .dK _, _, ⟨vs, e, r⟩ => ⟨vs, e, Paired.mapP r fun _ _ z => ⟨z.1, h.rep z.2⟩⟩
  | .dT _, _, ⟨vs, e, r⟩ => ⟨vs, e, Paired.mapP r fun _ _ z => ⟨z.1, h.rep z.2⟩⟩
  | .tab q, _, ⟨ps, e, t, r⟩ => ⟨ps, e, t, fun pos cv hc => by
    obtain ⟨c, h1, h2⟩ := r pos cv hc
    have hb : c ≠ D := fun z => h.nc q (by rw [← z]; exact h2)
    exact ⟨c, h1, by rw [h.ne c hb]; exact h2⟩⟩
/-- a set is no code object -/
theorem setNO_nc {w : World} {L : List Zed} (e : F D = some (SetNO w D L)) : ∀ q, F D ≠ some (LamX.CodeO D q) := fun q z => by
  rw [e] at z
  have z : SetNO w D L = LamX.CodeO D q := Option.some.inj z
  unfold SetNO LamX.CodeO at z
  injection z with z
  have hg : (Heap.mk (Array.replicate (D + 1) ({ cls := .none, data := .fields #[.none, .str q 0] } : Obj)) {}).get? D = some { cls := .none, data := .fields #[.none, .str q 0] } := by
    have e1 : (Array.replicate (D + 1) ({ cls := .none, data := .fields #[.none, .str q 0] } : Obj))[D]? = some { cls := .none, data := .fields #[.none, .str q 0] } := by
      rw [Array.getElem?_replicate, if_pos (Nat.lt_succ_self D)]
    unfold Heap.get?
    simp only [e1]
  have h2 := congrFun z (Heap.mk (Array.replicate (D + 1) ({ cls := .none, data := .fields #[.none, .str q 0] } : Obj)) {})
  have h3 : ∃ (oc : Obj) (vs : Array Value) (t : Tok), (Heap.mk (Array.replicate (D + 1) ({ cls := .none, data := .fields #[.none, .str q 0] } : Obj)) {}).get? D = some oc ∧ oc.data = .fields vs ∧ vs[1]? = some (.str q t) := ⟨_, _, _, hg, rfl, rfl⟩
  obtain ⟨es, ep, t, hN⟩ := h2.mpr h3
  obtain ⟨o, ho, _, hd⟩ := hN.ob
  rw [hg] at ho
  cases ho
  cases hd
theorem upd_but {u : HO} (h : ∃ φ, F D = some (.ext φ)) (nc : ∀ q, F D ≠ some (LamX.CodeO D q)) : But D F (upd F D u) := ⟨h, nc, fun b hb => upd_ne hb⟩
theorem Rel.at_but {M : DM} {H : Hp} {u : HO} (r : Rel K F M H) (h : ∃ φ, F D = some (.ext φ)) (nc : ∀ q, F D ≠ some (LamX.CodeO D q)) : Rel K (upd F D u) M (upd H D u) := by
  refine ⟨same_upd2 r.sub, fun a m e => ?_⟩
  obtain ⟨h1, o, h2, h3⟩ := r.mr a m e
  have ha : a ≠ D := fun z => by
    obtain ⟨φ, q⟩ := h
    rw [z, q] at h1
    cases h1
  exact ⟨by rw [upd_ne ha]; exact h1, o, by rw [upd_ne ha]; exact h2, (upd_but h nc).repM h3⟩
end
/-- the comprehension's turns: acc what was added so far -/
def scR (st : DStep) (keep : DM → Prop) (δ : DSt) (fin : List DL.D → DM → Prop) : List DL.D → List DL.D → DM → Prop
  | [], acc, M => keep M ∧ fin acc M
  | x :: r, acc, M => keep M ∧ st x δ M fun o M1 => match o with
    | some d => (isTup d && kp 8 d) = true ∧ acc.length + 1 < 64 ∧ scR st keep δ fin r (acc ++ [d]) M1
    | none => scR st keep δ fin r acc M1
def ascOf (xs : List DL.D) (Q : DK) (M : DM) : Prop := ∀ ys : List DL.D, (ys.Pairwise fun a b => ltD a b = true) → (∀ d, d ∈ ys ↔ d ∈ xs) → Q (.lst ys) M
def dSortedSc (st : DStep) (ti : DTI) : DTE := fun δ M Q => ti δ M fun xs keep M1 => scR st keep δ (fun acc M2 => Sk acc ∧ ascOf acc Q M2) xs [] M1
/-- the set of L has the members acc -/
structure Accs (K : PySem.W.Frag) (F : Hp) (acc : List DL.D) (L : List Zed) : Prop where
  rep : ∀ z ∈ L, Rep K F z.2 (.ref z.1) ∧ kp 8 z.2 = true
  mem : ∀ d, d ∈ acc ↔ d ∈ L.map Prod.snd
  nd : (L.map Prod.snd).Nodup
  len : L.length ≤ acc.length
theorem Accs.more {K : PySem.W.Frag} {F : Hp} {acc : List DL.D} {L L2 : List Zed} {z : Zed} (h : Accs K F acc L) (hz : Rep K F z.2 (.ref z.1) ∧ kp 8 z.2 = true) (mo : More z L L2) : Accs K F (acc ++ [z.2]) L2 := by
  rcases Classical.em (nk z.2 ∈ L.map (fun y => nk y.2)) with c | c
  · rw [mo.1 c]
    refine ⟨h.rep, fun d => ?_, h.nd, by rw [List.length_append]; exact Nat.le_trans h.len (Nat.le_add_right _ _)⟩
    rw [List.mem_append, List.mem_singleton, h.mem]
    refine ⟨fun q => q.elim id fun e => ?_, .inl⟩
    obtain ⟨y, hy, e2⟩ := List.mem_map.mp c
    rw [e, ← nk_inj (h.rep y hy).2 hz.2 e2]
    exact List.mem_map.mpr ⟨y, hy, rfl⟩
  · have p := mo.2 c
    have pm := p.map Prod.snd
    refine ⟨fun y hy => ?_, fun d => ?_, pm.nodup_iff.mpr ?_, ?_⟩
    · rcases List.mem_cons.mp (p.mem_iff.mp hy) with rfl | hy
      · exact hz
      · exact h.rep y hy
    · rw [pm.mem_iff, List.map_cons, List.mem_append, List.mem_singleton, List.mem_cons, h.mem]
      exact Or.comm
    · rw [List.map_cons]
      refine List.nodup_cons.mpr ⟨fun q => c ?_, h.nd⟩
      obtain ⟨y, hy, e⟩ := List.mem_map.mp q
      exact List.mem_map.mpr ⟨y, hy, by rw [e]⟩
    · rw [p.length_eq, List.length_append]
      exact Nat.succ_le_succ h.len
section
variable {X : Cx} {F0 : Hp} {pos : Pos}
variable {elt tg iter : Expr} {ifs : List Expr} {scope : Scope} {ti : DTI} {tt : DTT} {te : DTE}
theorem dpe_sortedSc (i : Nat) {x : Str} {px p : Pos} {pos' : Pos} (hc : X.calm = true) (hu : X.A.units + 64 < cLine) (hN : X.N.Nodup) (hm : X.mg "sorted" = none) (ok : BlkOk X.N X.env.scope scope [(x, i)]) (hi : DPI X F0 (.Name x px) iter ti)
    (hg : BlkPG X scope (.Name x px) (gName i)) (ht : BlkPTs X scope ifs (liftT X.K F0 tt)) (he : BlkPE X scope elt (liftE X.K F0 te)) (hs : ∀ x, foldedSetIterable iter X.env x = pure x := by intro _; rfl) (hgl : Gl X "sorted" := by rfl) :
    DPE X F0 (.Call (.Name "sorted" p) [.SetComp elt [⟨.Name x px, iter, ifs, 0⟩] scope pos'] [] pos) (dSortedSc (st1 i tt te) ti) := by
  refine ⟨fun pins s σ H Q I h => ?_⟩
  obtain ⟨F, δ, M, QD, e0, r, sl, h, m⟩ := h
  have P := pe_scN (own := [(x, i)]) (pos := pos') hc hu hN ok hi hg ht he hs
  refine Call_ (ld_blt I hgl hm boot_sorted (PyProof.Rows.callWith_builtin1 (PyProof.Rows.args_cons (thn (P.run pins s σ H (fun v H9 => ∃ D F9 M9 acc L, v = V.ref D ∧ H9 D = some (SetNO X.w D L) ∧ Same F F9 ∧ Rel X.K F9 M9 H9 ∧ Accs X.K F9 acc L ∧ Sk acc ∧ ascOf acc QD M9) I ?_) fun u s1 ⟨v, H9, I9, rv, D, F9, M9, acc, L, ev, hD, e9, r9, ac, sk, q9⟩ => PyProof.Rows.args_nil ?_) rfl) rfl rfl))
  · refine ⟨F, δ, M, _, e0, r, sl, h, fun xs keep M1 F1 H1 J q e1 r1 it => fun D hD => ?_⟩
    have hF1 : F1 D = none := r1.freeF hD
    have ext : ∀ L, ∃ φ, SetNO X.w D L = HO.ext φ := fun L => ⟨_, rfl⟩
    have up : ∀ {G : Hp} {u : HO}, Same F1 G → Same F1 (upd G D u) := fun {G u} e b o hb => by
      rw [upd_ne (ne_of_none hb hF1)]
      exact e b o hb
    refine ⟨fun k n H2 => n + k = xs.length ∧ ∃ F2 M2 acc L, Same F1 F2 ∧ Rel X.K F2 M2 H2 ∧ F2 D = some (SetNO X.w D L) ∧ Accs X.K F2 acc L ∧ scR (st1 i tt te) keep δ (fun acc M2 => Sk acc ∧ ascOf acc QD M2) (xs.drop k) acc M2,
      ⟨xs.length, rfl, upd F1 D (SetNO X.w D []), M1, [], [], same_add hF1, r1.ice hD, upd_same, ⟨fun z hz => (by cases hz), fun d => by simp, List.nodup_nil, Nat.le_refl _⟩, by simpa using q⟩, ?_⟩
    rintro k n H2 ⟨hn, F2, M2, acc, L, e2, r2, f2, ac, q2⟩
    by_cases hk : k < xs.length
    · have hx : xs[k]? = some xs[k] := by simp [hk]
      rw [List.drop_eq_getElem_cons hk] at q2
      obtain ⟨kp2, q2⟩ := q2
      obtain ⟨go, yl⟩ := (it k F2 M2 H2 e2 r2 kp2).1 _ hx
      refine .inr ⟨go, fun H' => ∃ F2 M2 acc L, Same F1 F2 ∧ Rel X.K F2 M2 H' ∧ F2 D = some (SetNO X.w D L) ∧ Accs X.K F2 acc L ∧ scR (st1 i tt te) keep δ (fun acc M2 => Sk acc ∧ ascOf acc QD M2) (xs.drop (k + 1)) acc M2, fun H' z => ⟨n - 1, by omega, by omega, z⟩, fun v H' y => ?_⟩
      obtain ⟨F3, e3, r3, rv⟩ := yl v H' y
      refine st1_ok (F0 := F0) F3 _ v δ σ M2 H' _ _ _ (e0.trans (e1.trans (e2.trans e3))) r3 (sl.mono (e1.trans (e2.trans e3))) rv q2 (fun d M4 F4 H4 w q4 e4 r4 rw' => ?_) (fun M4 F4 H4 q4 e4 r4 => ?_)
      · obtain ⟨hd, hl, q4⟩ := q4
        obtain ⟨hd1, hd2⟩ := Bool.and_eq_true_iff.mp hd
        have fD : F4 D = some (SetNO X.w D L) := e4 _ _ (e3 _ _ f2)
        obtain ⟨a, rfl⟩ : ∃ a, w = V.ref a := by
          cases d with
          | tup ys =>
            have rw2 := rw'
            unfold Rep at rw2
            obtain ⟨a, _, e, _⟩ := rw2
            exact ⟨a, e⟩
          | _ => cases hd1
        have ac4 : Accs X.K F4 acc L := ⟨fun z hz => ⟨(ac.rep z hz).1.mono (e3.trans e4), (ac.rep z hz).2⟩, ac.mem, ac.nd, ac.len⟩
        refine ⟨(a, d), L, rfl, ⟨r4.sub _ _ fD, by have := ac.len; omega, fun y hy => ⟨(ac4.rep y hy).1.mono r4.sub, (ac4.rep y hy).2⟩, rw'.mono r4.sub, hd2⟩, fun L2 mo => ?_⟩
        have bt : But D F4 (upd F4 D (SetNO X.w D L2)) := upd_but ⟨_, fD⟩ (setNO_nc fD)
        have ac5 := ac4.more (z := (a, d)) ⟨rw', hd2⟩ mo
        exact ⟨upd F4 D (SetNO X.w D L2), M4, acc ++ [d], L2, up (e2.trans (e3.trans e4)), Rel.at_but r4 ⟨_, fD⟩ (setNO_nc fD), upd_same, ⟨fun z hz => ⟨bt.rep (ac5.rep z hz).1, (ac5.rep z hz).2⟩, ac5.mem, ac5.nd, ac5.len⟩, q4⟩
      · exact ⟨F4, M4, acc, L, e2.trans (e3.trans e4), r4, e4 _ _ (e3 _ _ f2), ⟨fun z hz => ⟨(ac.rep z hz).1.mono (e3.trans e4), (ac.rep z hz).2⟩, ac.mem, ac.nd, ac.len⟩, q4⟩
    · have hd : xs.drop k = [] := List.drop_eq_nil_of_le (by omega)
      rw [hd] at q2
      exact .inl ⟨(it k F2 M2 H2 e2 r2 q2.1).2 (by omega), D, F2, M2, acc, L, rfl, r2.sub _ _ f2, e1.trans e2, r2, ac, q2.2.1, q2.2.2⟩
  · subst ev
    obtain rfl : u = Value.ref D := rv
    obtain ⟨es, ep, t, R⟩ := setNO_get I9 hD
    have hk2 : Sk (L.map Prod.snd) := sk.sub (fun d hd => (ac.mem d).mpr hd) (by have := R.few; rw [List.length_map] at this; rw [List.length_map]; exact this)
    exact sort_run hc hu I9 r9 R (fun z hz => (ac.rep z hz).1) hk2.ks hk2.al hk2.ne ac.nd (m.mono e9) fun ys h1 h2 => q9 ys h1 fun d => by rw [h2, ac.mem]
end
end DS
set_option Elab.async false
set_option linter.all false
set_option maxRecDepth 100000
set_option maxHeartbeats 4000000
/-! DN1: x in y -/
namespace DL
open PySem PySem.Spec L2 PyProof.Rows
mutual
theorem At.inj {h : Heap} : ∀ {d e : D} {u : Value}, At h d u → At h e u → d = e
  | .non, e, u, a, b => by unfold At at a; subst a; cases e <;> simp [At] at b ⊢
  | .bl _, e, u, a, b => by unfold At at a; subst a; cases e <;> simp [At] at b ⊢; exact b
  | .int _, e, u, a, b => by unfold At at a; obtain ⟨t, rfl⟩ := a; cases e <;> simp [At] at b ⊢; exact b
  | .str _, e, u, a, b => by unfold At at a; obtain ⟨t, rfl⟩ := a; cases e <;> simp [At] at b ⊢; exact b
  | .lst xs, e, u, a, b => by
    unfold At at a
    obtain ⟨p, its, rfl, ⟨o, ho, hc, n, hd⟩, a⟩ := a
    cases e
    case lst ys =>
      unfold At at b
      obtain ⟨q, its2, e0, ⟨o2, ho2, hc2, n2, hd2⟩, b⟩ := b
      cases e0
      rw [ho] at ho2; cases ho2
      rw [hd] at hd2
      injection hd2 with e1 _
      subst e1
      rw [AtL.inj a b]
    case tup ys =>
      unfold At at b
      obtain ⟨q, its2, e0, ⟨o2, ho2, hc2, n2, hd2⟩, b⟩ := b
      cases e0
      rw [ho] at ho2; cases ho2
      rw [hc] at hc2; simp at hc2
    all_goals (exfalso; unfold At at b; first | exact b | (obtain ⟨_, b⟩ := b; cases b; done) | (cases b; done))
  | .tup xs, e, u, a, b => by
    unfold At at a
    obtain ⟨p, its, rfl, ⟨o, ho, hc, n, hd⟩, a⟩ := a
    cases e
    case tup ys =>
      unfold At at b
      obtain ⟨q, its2, e0, ⟨o2, ho2, hc2, n2, hd2⟩, b⟩ := b
      cases e0
      rw [ho] at ho2; cases ho2
      rw [hd] at hd2
      injection hd2 with e1 _
      subst e1
      rw [AtL.inj a b]
    case lst ys =>
      unfold At at b
      obtain ⟨q, its2, e0, ⟨o2, ho2, hc2, n2, hd2⟩, b⟩ := b
      cases e0
      rw [ho] at ho2; cases ho2
      rw [hc] at hc2; simp at hc2
    all_goals (exfalso; unfold At at b; first | exact b | (obtain ⟨_, b⟩ := b; cases b; done) | (cases b; done))
  | .ty _, e, u, a, b => by unfold At at a; exact a.elim
  | .ref _, e, u, a, b => by unfold At at a; exact a.elim
  | .ins _ _ _, e, u, a, b => by unfold At at a; exact a.elim
  | .scr _, e, u, a, b => by unfold At at a; exact a.elim
theorem AtL.inj {h : Heap} : ∀ {xs ys : List D} {us : List Value}, AtL h xs us → AtL h ys us → xs = ys
  | [], ys, _, a, b => by
    unfold AtL at a
    subst a
    cases ys with
    | nil => rfl
    | cons y ys => unfold AtL at b; obtain ⟨_, _, e, _⟩ := b; cases e
  | x :: xs, ys, _, a, b => by
    unfold AtL at a
    obtain ⟨u, r, rfl, a1, a2⟩ := a
    cases ys with
    | nil => unfold AtL at b; cases b
    | cons y ys =>
      unfold AtL at b
      obtain ⟨u', r', e, b1, b2⟩ := b
      cases e
      rw [At.inj a1 b1, AtL.inj a2 b2]
end
/-- whether what the value reads as is equal to x -/
noncomputable def eqAs (h : Heap) (x : D) (u : Value) : Bool := open Classical in if q : ∃ d, At h d u then eqD q.choose x else false
theorem eqAs_at {h : Heap} {x d : D} {u : Value} (a : At h d u) : eqAs h x u = eqD d x := by
  have q : ∃ d, At h d u := ⟨d, a⟩
  unfold eqAs
  rw [dif_pos q, At.inj q.choose_spec a]
theorem any_as {h : Heap} {x : D} : ∀ {xs : List D} {us : List Value}, AtL h xs us → us.any (eqAs h x) = xs.any (fun d => eqD d x)
  | [], _, a => by unfold AtL at a; subst a; rfl
  | y :: xs, _, a => by
    unfold AtL at a
    obtain ⟨u, r, rfl, a1, a2⟩ := a
    rw [List.any_cons, List.any_cons, eqAs_at a1, any_as a2]
theorem AtL.mem {h : Heap} : ∀ {xs : List D} {us : List Value}, AtL h xs us → ∀ u ∈ us, ∃ d ∈ xs, At h d u
  | [], _, a, u, hu => by unfold AtL at a; subst a; cases hu
  | y :: xs, _, a, u, hu => by
    unfold AtL at a
    obtain ⟨v, r, rfl, a1, a2⟩ := a
    rcases List.mem_cons.mp hu with rfl | hu
    · exact ⟨y, List.mem_cons_self .., a1⟩
    · obtain ⟨d, hd, q⟩ := AtL.mem a2 u hu
      exact ⟨d, List.mem_cons_of_mem _ hd, q⟩
section
variable {X : Cx} {F0 : Hp}
/-- is the thing among them -/
def inD (x : D) (xs : List D) : Bool := xs.any fun d => eqD d x
def dInN (neg : Bool) : D2 := fun x y M Q => match y with
  | .str z => (match x with | .str i => (match i.cps.toList with | [c] => Q (.bl (if neg then !decide (c ∈ z.cps.toList) else decide (c ∈ z.cps.toList))) M | _ => False) | _ => False)
  | .tup xs => (lay 60 (res M x) && xs.all (lay 60)) = true ∧ Q (.bl (if neg then !inD (res M x) xs else inD (res M x) xs)) M
  | y => (match asR M y with | some xs => (lay 60 (res M x) && xs.all (lay 60)) = true ∧ Q (.bl (if neg then !inD (res M x) xs else inD (res M x) xs)) M | none => False)
def dIn : D2 := dInN false
def dNotIn : D2 := dInN true
theorem str_one {i : Str} {c : Nat} (h : i.cps.toList = [c]) : i = ⟨#[c]⟩ := PySem.W.str_of_cps (by rw [h])
theorem op_dinN {neg : Bool} {op : CmpOp} (hop : op = if neg then .NotIn else .In) (hu : X.A.units + 64 < cLine) : DOp X F0 (compareOp op) (dInN neg) := by
  intro pins s σ H x y u w Q I rx ry h
  obtain ⟨F, M, d, e, QD, e0, r, rd, re, q, m⟩ := h
  have e1 : X.A.in1.units = X.A.units + 1 := rfl
  -- data among items
  have key : ∀ (zs : List D) (vs : List V) (a : Addr) (lst : Bool), w = .ref a → (if lst then SqL X.K H a vs else SqT X.K H a vs) → RepL X.K F zs vs → (lay 60 (res M d) && zs.all (lay 60)) = true → QD (.bl (if neg then !inD (res M d) zs else inD (res M d) zs)) M →
      wpAny (model X.prog X.w) X.A (compareOp op u w) (EP X pins σ Q) X.xe s := by
    intro zs vs a lst hw hs rl hl qq
    subst hw
    obtain ⟨l1, l2⟩ := Bool.and_eq_true_iff.mp hl
    have ad := at_of I l1 (res_rep r rd) rx
    have items : ∀ its : List Value, Vals vs its → AtL s.heap zs its := fun its rv => atL_of I (List.all_eq_true.mp l2) (rl.mono r.sub) rv
    have eq1 : ∀ its : List Value, AtL s.heap zs its → ∀ y, y ∈ its.toArray → SeqAt.EqAt X.A.in1 s y u (eqAs s.heap (res M d) y) := fun its al y hy => by
      obtain ⟨z, hz, az⟩ := AtL.mem al y (by simpa using hy)
      rw [eqAs_at az]
      exact (eq_at az ad (List.all_eq_true.mp l2 z hz) l1 (by omega)).2
    have fin : ∀ its : List Value, AtL s.heap zs its → its.toArray.any (eqAs s.heap (res M d)) = inD (res M d) zs := fun its al => by
      rw [show its.toArray.any (eqAs s.heap (res M d)) = its.any (eqAs s.heap (res M d)) by simp]
      exact any_as al
    have done : ∀ b, b = (if neg then !inD (res M d) zs else inD (res M d) zs) → EP X pins σ Q (.bool b) s := fun b hb => fin2 (v := .bl b) I r m qq (by rw [← hb]; exact rep_bl) rfl
    cases lst with
    | true =>
      obtain ⟨its, rv, pl, hz⟩ := I.list (show SqL X.K H a vs from hs)
      have al := items its rv
      cases neg with
      | true => subst hop; exact SeqAt.notIn_listAt _ pl.isList (eq1 its al) (done _ (by rw [fin its al]; rfl))
      | false => subst hop; exact SeqAt.in_listAt _ pl.isList (eq1 its al) (done _ (by rw [fin its al]; rfl))
    | false =>
      obtain ⟨its, rv, pl, hz⟩ := I.tuple (show SqT X.K H a vs from hs)
      have al := items its rv
      cases neg with
      | true => subst hop; exact SeqAt.notIn_tupleAt _ pl (eq1 its al) (done _ (by rw [fin its al]; rfl))
      | false => subst hop; exact SeqAt.in_tupleAt _ pl (eq1 its al) (done _ (by rw [fin its al]; rfl))
  unfold dInN at q
  split at q
  · rename_i z
    split at q
    · rename_i i
      split at q
      · rename_i c hc
        have := str_one hc
        subst this
        unfold Rep at rd re
        subst rd
        subst re
        cases neg with
        | true =>
          subst hop
          exact op_notIn_sign pins s σ H _ _ u w Q I rx ry ⟨c, z, rfl, rfl, m _ M F H _ q (Same.refl F) r rep_bl⟩
        | false =>
          subst hop
          exact op_in_sign pins s σ H _ _ u w Q I rx ry ⟨c, z, rfl, rfl, m _ M F H _ q (Same.refl F) r rep_bl⟩
      · exact q.elim
    · exact q.elim
  · rename_i xs
    unfold Rep at re
    obtain ⟨a, vs, rfl, h2, rl⟩ := re
    obtain rfl : w = Value.ref a := ry
    exact key xs vs a false rfl (SqT_mono r.sub h2) rl q.1 q.2
  · split at q
    · rename_i xs ex
      obtain ⟨a, vs, rfl, h2, rl⟩ := asR_at r re ex
      obtain rfl : w = Value.ref a := ry
      exact key xs vs a true rfl h2 rl q.1 q.2
    · exact q.elim
theorem op_din (hu : X.A.units + 64 < cLine) : DOp X F0 (compareOp .In) dIn := op_dinN (neg := false) rfl hu
theorem op_dnin (hu : X.A.units + 64 < cLine) : DOp X F0 (compareOp .NotIn) dNotIn := op_dinN (neg := true) rfl hu
end
end DL
set_option Elab.async false
set_option linter.all false
set_option maxRecDepth 100000
set_option maxHeartbeats 4000000
/-! DN2: what own classes say of x(..), x + y, x[k], len(x), x += y -/
namespace DL
open PySem PySem.Spec L2 PyProof.Rows
section
variable {X : Cx} {F0 : Hp} {W : DW} {pins : List (Addr × Obj)} {σ : L2.St} {H : Hp} {s : Shared}
/-- a method called with given values, d calls deeper; what it raises is wanted by W -/
theorem run_own {k : Nat} {mn : Str} {C : Addr} {dsp : DSp} {F : Hp} {M : DM} {δ : DSt} {as : List D} {vs : List V} {us : List Value} {QD : DK} {Q : VK} {A' : Around} (c : Ctx X F0 W) (dm : DMet X.prog X.w X.K X.mg X.base k C mn dsp) (hr : Room k A') (I : L2.Inv X pins σ H s) (en : Env0 X.prog X.w X.K X.mg X.base A' X.stack s H)
    (e0 : Same F0 F) (sl : Slots X.K F δ σ) (r : Rel X.K F M H) (rs : RepL X.K F as vs) (rv : Vals vs us) (q : dsp as M QD (wE W δ)) (m : DL.Meets X.K F QD Q) : ∃ f fd, Meth X.K C mn f ∧ Cls X.K C ∧ (∃ sp ps, FnOk X.prog X.w X.K X.mg X.base (L2.CX X.prog X.w) k f fd ps sp) ∧ wpAny (model X.prog X.w) A' (call (.ref f) us) (EP X pins σ Q) X.xe s ∧
      codeAny (model X.prog X.w) A' (.call (.ref f) ⟨us, []⟩) (wants (EP X pins σ Q) X.xe) s := by
  obtain ⟨f, fd, ps, ds, dvs, dd, dsp0, hc, hm, Fn, hb, hd, hdd, im⟩ := dm.ex
  have r2 : Vals (vs ++ dvs) (us ++ ds) := rv.append hd
  have h : lowSp X.K dsp0 (vs ++ dvs) H Q (WE (lowW X.K F0 W) σ) := low_call e0 (Same.refl F) sl m r (rs.append (hdd F)) (im _ _ _ _ q)
  have hl : (us ++ ds).length = ps.length := by rw [← r2.length]; exact Fn.len _ _ _ _ h
  have run : codeAny (model X.prog X.w) A' (.call (.ref f) ⟨us, []⟩) (wants (EP X pins σ Q) X.xe) s := by
    refine codeAny_mono (Fn.run A' X.stack s H ⟨us, []⟩ (us ++ ds) (vs ++ dvs) Q (WE (lowW X.K F0 W) σ) hr en (hb s us I.kIn hl) r2 h) fun z s' hq => ?_
    cases z with
    | error e => exact passW c σ pins H s e s' I hq
    | ok fl =>
      cases fl with
      | ret u => exact I.after hq
      | next => exact False.elim hq
      | brk => exact False.elim hq
      | cont => exact False.elim hq
  exact ⟨f, fd, hm, hc, ⟨_, _, Fn⟩, wpAny_call run, run⟩
/-- the class's method is a def; the class is no sequence -/
def ownB (K : PySem.W.Frag) (C : Addr) (mn : Str) : Bool := PySem.W.selfFirst K C && (PySem.W.noSeq K C && match PySem.W.findIn K (.ref C) mn with | some (some (.ref f)) => PySem.W.fnIn K f | _ => false)
def Owns (K : PySem.W.Frag) (mn : Str) (l : List (Addr × DSp)) : Prop := ∀ p ∈ l, ownB K p.1 mn = true
theorem Owns.nil {K : PySem.W.Frag} {mn : Str} : Owns K mn [] := fun p h => by cases h
theorem Owns.cons {K : PySem.W.Frag} {mn : Str} {p : Addr × DSp} {l : List (Addr × DSp)} (h : ownB K p.1 mn = true) (t : Owns K mn l) : Owns K mn (p :: l) := fun q hq => by
  rcases List.mem_cons.mp hq with rfl | hq
  · exact h
  · exact t q hq
theorem sel_own {P : Program} {w : World} {K : PySem.W.Frag} {mg : Str → Option Value} {base : Heap} {k : Nat} {m : Str} {q : DSp → Prop} : ∀ {l : List (Addr × DSp)} {C : Addr}, DMets P w K mg base k m l → Owns K m l → sel q l C → ∃ dsp, DMet P w K mg base k C m dsp ∧ ownB K C m = true ∧ q dsp
  | [], _, _, _, h => h.elim
  | (C0, dsp) :: r, C, hm, ho, h => by
    rcases h with ⟨rfl, h⟩ | h
    · exact ⟨dsp, hm.1, ho _ (List.mem_cons_self ..), h⟩
    · exact sel_own hm.2 (fun p hp => ho p (List.mem_cons_of_mem _ hp)) h
theorem own_first {K : PySem.W.Frag} {C : Addr} {mn : Str} (h : ownB K C mn = true) : PySem.W.selfFirst K C = true ∧ PySem.W.noSeq K C = true := by
  unfold ownB at h
  obtain ⟨h1, h⟩ := Bool.and_eq_true_iff.mp h
  exact ⟨h1, (Bool.and_eq_true_iff.mp h).1⟩
theorem own_fn {K : PySem.W.Frag} {C f : Addr} {mn : Str} (h : ownB K C mn = true) (hm : Meth K C mn f) : PySem.W.fnIn K f = true := by
  unfold ownB at h
  have h3 := (Bool.and_eq_true_iff.mp (Bool.and_eq_true_iff.mp h).2).2
  rw [hm.at_] at h3
  exact h3
/-- what an operation on an own thing leaves: a value -/
theorem back_ok {Q : VK} {v : Value} (h : EP X pins σ Q v s) : PySem.W.CmpBack (EP X pins σ Q) v s := by
  obtain ⟨x, H1, I1, r1, q1⟩ := h
  have e : ∀ u, RelV x u → u ≠ .notImplemented := fun u r z => by
    subst z
    cases x <;> simp [L2.RelV] at r
  have := e v r1
  cases v <;> first | exact ⟨x, H1, I1, r1, q1⟩ | exact absurd rfl this
theorem inst_call {x : Addr} {pos : Pos} {first : List Value} {args : List (Bool × Sem Value)} {kws : List (Option Str × Sem Value)} {Q : Value → Shared → Prop} {M : Model} {A : Around} {E : Value → Shared → Prop} (hp : (args.any (·.1) || kws.any (·.1.isNone)) = false)
    (h : wpAny M A (evalArgs (.ref x) true args kws) (fun a s1 => (∃ ox C od, PySem.W.InstAt s1.heap x ox C od ∧ ox.data = .plain) ∧ wpAny M A (call (.ref x) (first ++ a.pos) a.kw) Q E s1) E s) : wpAny M A (callWith pos (.ref x) first args kws) Q E s := by
  unfold callWith
  refine wpAny_bind (wpAny_holding (wpAny_mono h (fun a s1 h1 => wpAny_bind (wpAny_standAt ?_)) fun _ _ y => y))
  obtain ⟨⟨ox, C, od, J, hd⟩, h1⟩ := h1
  have L := PySem.W.kco_keeper (M := M) J hd
  simp only [hp]
  refine wpAny_bind (L.here ?_)
  exact wpAny_bind (wpAny_mono (wpAny_operateT h1) (fun r s2 hr => wpAny_bind (wpAny_holding (wpAny_point (wpAny_pure hr)))) fun _ _ y => y)
/-! ### x(..) -/
def dInstC (l : List (Addr × DSp)) (W : DW) (to : DTE) (t : DTA) : DTE := fun δ M Q => to δ M fun d M1 => (∃ C fs, insD M1 d = some (C, fs)) ∧ t δ M1 fun ds M2 => match insD M2 d with
  | some (C, _) => sel (fun dsp => dsp (d :: ds) M2 Q (wE W δ)) l C
  | none => False
variable {k : Nat} {l : List (Addr × DSp)}
theorem dpe_inst {x : Str} {p pos : Pos} {e : Expr} {es : List Expr} {to : DTE} {t : DTA} (c : Ctx X F0 W) (dm : DMets X.prog X.w X.K X.mg X.base k "__call__" l) (ow : Owns X.K "__call__" l) (hr : Room k X.A) (ho : DPE X F0 (.Name x p) to) (ha : DPA X F0 (e :: es) t)
    (he : starEach (e :: es) X.env = (false, eval e X.env) :: starEach es X.env := by rfl) (hpl : (backTo pos (starEach es X.env)).any (·.1) = false := by rfl) : DPE X F0 (.Call (.Name x p) (e :: es) [] pos) (dInstC l W to t) := by
  refine ⟨fun pins s σ H Q I h => ?_⟩
  obtain ⟨F, δ, M, QD, e0, r, sl, h, m⟩ := h
  refine wpAny_Call_Name_kw (thn (ho.run pins s σ H (fun v H1 => ∃ d M1 F1, Same F F1 ∧ Rel X.K F1 M1 H1 ∧ Rep X.K F1 d v ∧ (∃ C fs, insD M1 d = some (C, fs)) ∧ t δ M1 fun ds M2 => match insD M2 d with | some (C, _) => sel (fun dsp => dsp (d :: ds) M2 QD (wE W δ)) l C | none => False) I
    ⟨F, δ, M, _, e0, r, sl, h, fun d M1 F1 H1 v q e1 r1 rv => ⟨d, M1, F1, e1, r1, rv, q.1, q.2⟩⟩) fun u s1 ⟨v, H1, I1, ru, d, M1, F1, e1, r1, rv, ⟨C0, fs0, ei0⟩, q⟩ => ?_)
  obtain ⟨a, dx0, vs0, rfl, ea0, rf0⟩ := insD_at r1 rv ei0
  obtain rfl : u = Value.ref a := ru
  have z : wpAny (model X.prog X.w) X.A (spliced (backTo pos (starEach (e :: es) X.env))) (fun us s2 => (∃ ox C od, PySem.W.InstAt s2.heap a ox C od ∧ ox.data = .plain) ∧ wpAny (model X.prog X.w) X.A (call (.ref a) ([] ++ us)) (EP X pins σ Q) X.xe s2) X.xe s1 := by
    refine thn (ha.run pos pins s1 σ H1 (fun vs H2 => ∃ ds M2 F2 C fs, Same F1 F2 ∧ Rel X.K F2 M2 H2 ∧ RepL X.K F2 ds vs ∧ insD M2 d = some (C, fs) ∧ sel (fun dsp => dsp (d :: ds) M2 QD (wE W δ)) l C) I1 ⟨F1, δ, M1, _, e0.trans e1, r1, sl.mono e1, q, fun ds M2 F2 H2 vs q2 e2 r2 rs => by
      split at q2
      · rename_i C fs ei
        exact ⟨ds, M2, F2, C, fs, e2, r2, rs, ei, q2⟩
      · exact q2.elim⟩) fun us s2 ⟨vs, H2, I2, rvs, ds, M2, F2, C, fs, e2, r2, rs, ei, q2⟩ => ?_
    obtain ⟨a', dx, ws, ea', ea, rf⟩ := insD_at r2 (rv.mono e2) ei
    cases ea'
    obtain ⟨mA, J, _⟩ := ins_get I2.hok ea
    obtain ⟨od, J, _⟩ := J.look
    refine ⟨⟨_, _, _, J, rfl⟩, ?_⟩
    obtain ⟨dsp, dmt, hw, q2⟩ := sel_own dm ow q2
    obtain ⟨f, fd, hm, hc, _, _, run⟩ := run_own (as := d :: ds) (us := .ref a :: us) c dmt hr I2 I2.env0 (e0.trans (e1.trans e2)) (sl.mono (e1.trans e2)) r2 (RepL.cons (rv.mono e2) rs) (.cons rfl rvs) q2 (m.mono (e1.trans e2))
    exact wpAny_call (PySem.W.kco_code (a := ⟨us, []⟩) I2.kIn J rfl hm.at_ hm.fn (own_fn hw hm) run)
  show wpAny _ _ (callWith pos (.ref a) [] (backTo pos (starEach (e :: es) X.env)) []) _ _ _
  rw [he] at z ⊢
  exact inst_call (by show ((false || (backTo pos (starEach es X.env)).any (·.1)) || false) = false; rw [hpl]; rfl) (Calls.evalArgs_plain z)
/-! ### x + y, x of a class with its own + -/
def dBinO (mn : Str) (l : List (Addr × DSp)) (W : DW) (ta tb : DTE) : DTE := fun δ M Q => ta δ M fun x M1 => tb δ M1 fun y M2 => match insD M2 x with
  | some (C, _) => tyD M2 y = some (.o C) ∧ sel (fun dsp => dsp [x, y] M2 Q (wE W δ)) l C
  | none => False
theorem dpe_binO {op : Operator} {mn : Str} {a b : Expr} {ta tb : DTE} {pos : Pos} (hop : PySem.dunder op.info.2 = mn) (c : Ctx X F0 W) (dm : DMets X.prog X.w X.K X.mg X.base k mn l) (ow : Owns X.K mn l) (hr : Room k X.A) (ha : DPE X F0 a ta) (hb : DPE X F0 b tb) :
    DPE X F0 (.BinOp a op b pos) (dBinO mn l W ta tb) := by
  refine ⟨fun pins s σ H Q I h => ?_⟩
  obtain ⟨F, δ, M, QD, e0, r, sl, h, m⟩ := h
  refine wpAny_BinOp (L2.binT (R := fun x y H2 => ∃ dx dy F2 M2 C fs, Same F F2 ∧ Rel X.K F2 M2 H2 ∧ Rep X.K F2 dx x ∧ Rep X.K F2 dy y ∧ insD M2 dx = some (C, fs) ∧ tyD M2 dy = some (.o C) ∧ sel (fun dsp => dsp [dx, dy] M2 QD (wE W δ)) l C) ha hb I
    ⟨F, δ, M, _, e0, r, sl, h, fun dx M1 F1 H1 x q1 e1 r1 rx => ⟨F1, δ, M1, _, e0.trans e1, r1, sl.mono e1, q1, fun dy M2 F2 H2 y q2 e2 r2 ry => by
      split at q2
      · rename_i C fs ei
        exact ⟨dx, dy, F2, M2, C, fs, e1.trans e2, r2, rx.mono e2, ry, ei, q2.1, q2.2⟩
      · exact q2.elim⟩⟩ fun v u s2 x y H2 I2 rx ry ⟨dx, dy, F2, M2, C, fs, e2, r2, qx, qy, ei, ty, q2⟩ => ?_)
  obtain ⟨z, dz, ws, rfl, ea, rf⟩ := insD_at r2 qx ei
  obtain rfl : v = Value.ref z := rx
  obtain ⟨dsp, dmt, hw, q2⟩ := sel_own dm ow q2
  obtain ⟨mA, J, _⟩ := ins_get I2.hok ea
  obtain ⟨od, J, _⟩ := J.look
  obtain ⟨m0, hF⟩ := I2.fr
  obtain ⟨f, fd, hm, hc, _, run, _⟩ := run_own (as := [dx, dy]) (us := [.ref z, u]) c dmt hr I2 I2.env0 (e0.trans e2) (sl.mono e2) r2 (RepL.cons qx (RepL.cons qy RepL.nil)) (.cons rfl (.cons ry .nil)) q2 (m.mono e2)
  exact PySem.W.binop_K (op := op) hF I2.ok.mod.kin J (type_of I2 r2 qy ry ty) (own_first hw).1 (by rw [hop]; exact hm.at_) hm.fn (thn run fun w s3 h3 => back_ok h3)
/-! ### x[k] -/
def dIxO (l : List (Addr × DSp)) (W : DW) (ta tb : DTE) : DTE := fun δ M Q => ta δ M fun x M1 => tb δ M1 fun y M2 => match insD M2 x with
  | some (C, _) => sel (fun dsp => dsp [x, y] M2 Q (wE W δ)) l C
  | none => False
theorem dpe_ixO {a b : Expr} {ta tb : DTE} {pos : Pos} (c : Ctx X F0 W) (dm : DMets X.prog X.w X.K X.mg X.base k "__getitem__" l) (ow : Owns X.K "__getitem__" l) (hr : Room (k + 1) X.A) (ha : DPE X F0 a ta) (hb : DPE X F0 b tb)
    (hs : ∀ x i, subscripted b true (.ref x) i = runValue (.builtin "lifetime.subscript" ⟨[.ref x, i], []⟩) := by intro _ _; with_unfolding_all rfl) : DPE X F0 (.Subscript a b pos) (dIxO l W ta tb) := by
  refine ⟨fun pins s σ H Q I h => ?_⟩
  obtain ⟨F, δ, M, QD, e0, r, sl, h, m⟩ := h
  refine Subscript_ (L2.binT (R := fun x y H2 => ∃ dx dy F2 M2 C fs, Same F F2 ∧ Rel X.K F2 M2 H2 ∧ Rep X.K F2 dx x ∧ Rep X.K F2 dy y ∧ insD M2 dx = some (C, fs) ∧ sel (fun dsp => dsp [dx, dy] M2 QD (wE W δ)) l C) ha hb I
    ⟨F, δ, M, _, e0, r, sl, h, fun dx M1 F1 H1 x q1 e1 r1 rx => ⟨F1, δ, M1, _, e0.trans e1, r1, sl.mono e1, q1, fun dy M2 F2 H2 y q2 e2 r2 ry => by
      split at q2
      · rename_i C fs ei
        exact ⟨dx, dy, F2, M2, C, fs, e1.trans e2, r2, rx.mono e2, ry, ei, q2⟩
      · exact q2.elim⟩⟩ fun v u s2 x y H2 I2 rx ry ⟨dx, dy, F2, M2, C, fs, e2, r2, qx, qy, ei, q2⟩ => ?_)
  obtain ⟨z, dz, ws, rfl, ea, rf⟩ := insD_at r2 qx ei
  obtain rfl : v = Value.ref z := rx
  obtain ⟨dsp, dmt, hw, q2⟩ := sel_own dm ow q2
  obtain ⟨mA, J, _⟩ := ins_get I2.hok ea
  obtain ⟨od, J, _⟩ := J.look
  obtain ⟨m0, hF⟩ := I2.fr
  obtain ⟨f, fd, hm, hc, _, run, _⟩ := run_own (as := [dx, dy]) (us := [.ref z, u]) c dmt hr.in1 I2 I2.env0.in1 (e0.trans e2) (sl.mono e2) r2 (RepL.cons qx (RepL.cons qy RepL.nil)) (.cons rfl (.cons ry .nil)) q2 (m.mono e2)
  exact PySem.W.sub_K (value := a) (slice := b) hF I2.ok.mod.kin J hm.at_ (own_fn hw hm) hm.fn run (hs _ _)
/-! ### len(x) -/
def dLenO (l : List (Addr × DSp)) (W : DW) (ta : DTE) : DTE := fun δ M Q => ta δ M fun x M1 => match insD M1 x with
  | some (C, _) => sel (fun dsp => dsp [x] M1 (fun v M2 => (∃ n : Nat, v = .int n ∧ (n : Int) < 2 ^ 62) ∧ Q v M2) (wE W δ)) l C
  | none => False
theorem dpe_lenO {a : Expr} {ta : DTE} {p pos : Pos} (c : Ctx X F0 W) (dm : DMets X.prog X.w X.K X.mg X.base k "__len__" l) (ow : Owns X.K "__len__" l) (hr : Room (k + 1) X.A) (hm0 : X.mg "len" = none) (ha : DPE X F0 a ta) (hg : Gl X "len" := by rfl)
    (na : starEach [a] X.env = (false, eval a X.env) :: starEach [] X.env := by rfl) : DPE X F0 (.Call (.Name "len" p) [a] [] pos) (dLenO l W ta) := by
  refine ⟨fun pins s σ H Q I h => ?_⟩
  obtain ⟨F, δ, M, QD, e0, r, sl, h, m⟩ := h
  refine Call_ (ld_blt I hg hm0 boot_len (PyProof.Rows.callWith_builtin1 (PyProof.Rows.args_cons (thn (ha.run pins s σ H (fun v H1 => ∃ d F1 M1 C fs, Same F F1 ∧ Rel X.K F1 M1 H1 ∧ Rep X.K F1 d v ∧ insD M1 d = some (C, fs) ∧ sel (fun dsp => dsp [d] M1 (fun v M2 => (∃ n : Nat, v = .int n ∧ (n : Int) < 2 ^ 62) ∧ QD v M2) (wE W δ)) l C) I
    ⟨F, δ, M, _, e0, r, sl, h, fun d M1 F1 H1 v q1 e1 r1 rv => by
      split at q1
      · rename_i C fs ei
        exact ⟨d, F1, M1, C, fs, e1, r1, rv, ei, q1⟩
      · exact q1.elim⟩) fun u s1 ⟨v, H1, I1, ru, d, F1, M1, C, fs, e1, r1, rv, ei, q1⟩ => PyProof.Rows.args_nil ?_) na) na rfl))
  obtain ⟨z, dz, ws, rfl, ea, rf⟩ := insD_at r1 rv ei
  obtain rfl : u = Value.ref z := ru
  obtain ⟨dsp, dmt, hw, q1⟩ := sel_own dm ow q1
  obtain ⟨mA, J, _⟩ := ins_get I1.hok ea
  obtain ⟨od, J, _⟩ := J.look
  obtain ⟨m0, hF⟩ := I1.fr
  obtain ⟨f, fd, hm, hc, _, run, _⟩ := run_own (as := [d]) (us := [.ref z]) (Q := fun v H2 => (∃ n : Nat, v = .int n ∧ (n : Int) < 2 ^ 62) ∧ Q v H2) c dmt hr.in1 I1 I1.env0.in1 (e0.trans e1) (sl.mono e1) r1 (RepL.cons rv RepL.nil) (.cons rfl .nil) q1
    (fun d2 M2 F2 H2 v2 ⟨⟨n, en, hn⟩, q⟩ e2 r2 rv2 => ⟨⟨n, by subst en; unfold Rep at rv2; exact rv2, hn⟩, m _ M2 F2 H2 v2 q (e1.trans e2) r2 rv2⟩)
  refine PySem.W.len_K hF I1.ok.mod.kin J hm.at_ hm.fn (thn run fun w s3 ⟨v3, H3, I3, r3, ⟨n, en, hn⟩, q3⟩ => ?_)
  subst en
  obtain ⟨t, rfl⟩ := r3
  exact ⟨⟨by omega, by omega⟩, .int n, H3, I3.tok _, ⟨_, rfl⟩, q3⟩
/-! ### x += y -/
def dAugO (i : Nat) (l : List (Addr × DSp)) (W : DW) (te : DTE) : DTS := fun D δ M => match δ[i]? with
  | some (some x) => te δ M fun y M1 => (match insD M1 x with
    | some (C, _) => sel (fun dsp => dsp [x, y] M1 (fun z M2 => D.nx (δ.set i (some z)) M2) (wE W δ)) l C
    | none => False)
  | _ => False
theorem ds_augO {op : Operator} {mn : Str} {x : Str} {e : Expr} {te : DTE} {pos pos' : Pos} (i : Nat) (hop : PySem.dunderI op.info.2 = mn) (c : Ctx X F0 W) (dm : DMets X.prog X.w X.K X.mg X.base k mn l) (ow : Owns X.K mn l) (hr : Room k X.A) (he : DPE X F0 e te)
    (hi : X.N[i]? = some x := by rfl) (hx : Loc X.env.scope x := by first | exact Or.inl rfl | exact Or.inr rfl) (hf : X.fn x = true ∨ X.env.scope.names.lookup x = some .local := by first | exact .inl rfl | exact .inr rfl | assumption) :
    DPS X F0 (.AugAssign (.Name x pos') op e pos) (dAugO i l W te) := by
  refine ⟨fun pins s σ H D I h => ?_⟩
  obtain ⟨F, δ, M, DD, e0, r, sl, h, m⟩ := h
  unfold dAugO at h
  split at h
  · rename_i dx ed
    obtain ⟨vx, e1, rx0⟩ := sl.get ed
    obtain ⟨mL, hn, hl⟩ := I.loc
    have vis : Vis X.env.scope x := by rcases hx with z | z; exact .inl z; exact .inr (.inl z)
    obtain ⟨u, ru, lo⟩ := hl i x vx hi e1 vis
    refine wpAny_AugAssign_Name ?_
    have go : wpAny (model X.prog X.w) X.A (eval e X.env) (fun w s2 => wpAny (model X.prog X.w) X.A (inplaceOp op u w) (fun z s3 => wpAny (model X.prog X.w) X.A (storeName X.env x z) (fun _ => SP X pins D .next) X.xe s3) X.xe s2) X.xe s := by
      refine thn (he.run pins s σ H (fun y H1 => ∃ dy F1 M1 C fs, Same F F1 ∧ Rel X.K F1 M1 H1 ∧ Rep X.K F1 dy y ∧ insD M1 dx = some (C, fs) ∧ sel (fun dsp => dsp [dx, dy] M1 (fun z M2 => DD.nx (δ.set i (some z)) M2) (wE W δ)) l C) I
        ⟨F, δ, M, _, e0, r, sl, h, fun dy M1 F1 H1 y q1 ee r1 ry => by
          split at q1
          · rename_i C fs ei
            exact ⟨dy, F1, M1, C, fs, ee, r1, ry, ei, q1⟩
          · exact q1.elim⟩) fun w s1 ⟨y, H1, I1, ry, dy, F1, M1, C, fs, ee, r1, qy, ei, q1⟩ => ?_
      obtain ⟨z, dz, ws, rfl, ea, rf⟩ := insD_at r1 (rx0.mono ee) ei
      obtain rfl : u = Value.ref z := ru
      obtain ⟨dsp, dmt, hw, q1⟩ := sel_own dm ow q1
      obtain ⟨mA, J, _⟩ := ins_get I1.hok ea
      obtain ⟨od, J, _⟩ := J.look
      obtain ⟨m0, hF⟩ := I1.fr
      obtain ⟨f, fd, hm, hc, _, run, _⟩ := run_own (as := [dx, dy]) (us := [.ref z, w]) (Q := fun v H2 => D.nx (σ.set i (some v)) H2) c dmt hr I1 I1.env0 (e0.trans ee) (sl.mono ee) r1 (RepL.cons (rx0.mono ee) (RepL.cons qy RepL.nil)) (.cons rfl (.cons ry .nil)) q1
        (fun d2 M2 F2 H2 v2 q e2 r2 rv2 => m.nx _ M2 F2 _ H2 q (ee.trans e2) r2 ((sl.mono (ee.trans e2)).set (d := some d2) (v := some v2) rv2 i))
      refine thn (PySem.W.ksp_inplace (op := op) hF I1.ok.mod.kin J (own_first hw).1 (by rw [hop]; exact hm.at_) hm.fn (thn run fun w s3 h3 => back_ok h3)) fun v3 s3 ⟨v4, H4, I4, r4, q4⟩ => ?_
      exact store_ok I4 c.nd hi hx r4 (fun s5 I5 => ⟨_, H4, I5, q4⟩) hf
    rcases lo with ⟨hk, hm⟩ | ⟨hk, cc, hc, hcell⟩
    · exact wpAny_loadName_local I.ok.kind hk hn hm go
    · rcases hk with hk | hk
      · exact wpAny_loadName_cell I.ok.kind hk hc hcell go
      · rcases hx with z | z
        · cases z.symm.trans hk
        · cases z.symm.trans hk
  · exact h.elim
end
end DL
set_option Elab.async false
set_option linter.all false
set_option maxRecDepth 100000
set_option maxHeartbeats 4000000
/-! DN3: -x; sorted(xs) that is changed later; simp rules -/
namespace DL
open PySem PySem.Spec L2 PyProof.Rows DS
section
variable {X : Cx} {F0 : Hp}
def dNegR : D → DM → DK → Prop := fun x M Q => match x with | .int i => Q (.int (-i)) M | _ => False
@[simp] theorem dNegR_i {i : Int} {M : DM} {Q : DK} : dNegR (.int i) M Q = Q (.int (-i)) M := rfl
theorem dnegR : UnR X (unaryOp .USub) (low1 X.K F0 dNegR) := dneg
def dSortedM : DN := fun ds M Q => match ds with
  | [x] => (match asR M x with | some xs => Sb xs ∧ ∀ p, M p = none → Q (.ref p) (put M p (.lst (srt xs))) | none => False)
  | _ => False
theorem cr_dsortedM (hu : X.A.units + 64 < cLine) : CallR X (.builtin "sorted") (lowN X.K F0 dSortedM) := by
  intro pins s σ H xs us Q I rv h
  obtain ⟨F, M, ds, QD, e0, r, rs, q, m⟩ := h
  unfold dSortedM at q
  split at q
  · obtain ⟨v, rfl, h1⟩ := rep1 rs
    split at q
    · rename_i zs ez
      obtain ⟨hs, q⟩ := q
      obtain ⟨a, vs, rfl, ha, rl⟩ := asR_at r h1 ez
      obtain rfl := Vals.ref1 rv
      obtain ⟨its, rv2, hl, hz⟩ := I.list ha
      have ev : PySem.W.EachIs (fun u d => ∃ v, L2.RelV v u ∧ Rep X.K F d v) its zs := each_of rl rv2
      have er : PySem.W.EachIs (fun u d => ∃ as, Reads s.heap u (enc d) as) its zs := (PySem.W.each_mem ev).mono fun u d ⟨⟨v, q1, q2⟩, hd⟩ => reads_of (hs.ly d hd) (at_of I (hs.ly d hd) (q2.mono r.sub) q1)
      refine PySem.W.sorted_data (enc := enc) hl.isList ev er (allAlike hs.al) (sortable hs.al hs.tu) (by rw [rl.length]; exact hz) (fun b hb => by have := depth_enc (hs.ly b hb); omega) fun out hlen eo => ?_
      obtain ⟨ws, qw, rw'⟩ := of_each (xs := srt zs) eo
      obtain ⟨ep, he⟩ := PyProof.Rows.sortedAll_at s.heap its out.toArray
      have hn : H (s.heap.objs.size + 1) = none := I.hok.fresh (Nat.le_succ _)
      have hwl : ws.length ≤ sizeLine := by
        rw [← rw'.length, (srt_perm zs).length_eq, rl.length]
        exact hz
      exact ⟨.ref _, upd H (s.heap.objs.size + 1) (.lst ws), I.laid (t' := s.toks) (fun _ _ => PyProof.Rows.sortedAll_old) (Nat.le_succ _) ⟨hwl, out, ep, qw, he⟩, rfl, m _ _ F _ _ (q _ (r.free hn)) (Same.refl F) (r.new hn ⟨ws, rfl, rw'⟩) rep_ref⟩
    · exact q.elim
  · exact q.elim
end
end DL
namespace DL
open PySem PySem.Spec L2 PyProof.Rows
/-- inside a comprehension nothing is raised -/
theorem Ctx.blk {X : Cx} {F0 : Hp} {W : DW} {s : Shared} {H : Hp} {scope : Scope} {ce : Env} {fp : List Addr} (c : Ctx X F0 W) : Ctx (X.blk s H scope ce fp) F0 W0 :=
  ⟨c.calm, fun u s' ⟨_, _, _, _, _, _, _, _, _, _, _, _, _, _, _, _, hw⟩ => by obtain ⟨_, _, _, _, _, _, _, _, _, _, _, _, _, _, z⟩ := hw; exact z.elim, PassesOwn.never, c.nd⟩
end DL
set_option Elab.async false
set_option linter.all false
set_option maxRecDepth 100000
/-! DH5: more glue -/
namespace DH
open PySem PySem.Spec L2 DX DL DS
section
variable {P : Program} {w : World} {K : Frag} {mg : Str → Option Value} {base : Heap} {k : Nat} {x q : Str} {pa : Arguments} {bo : List Stmt} {sc : Scope} {dvs : List V} {f C : Addr} {ps : List Str} {dsp : DSp} {m : Str}
/-- a def called with n values, the others are their defaults -/
theorem Keeps.calD {dsp' : DSp} {dd : List D} (n j : Nat) (h : Keeps P w K mg base k x q pa bo sc dvs f ps dsp) (hd : dvs ≠ []) (hn : n + (dvs.length - j) = ps.length)
    (hb : ∀ (T : Addr) (kV doc pm : Value) (an : Option Addr) (cdv ct : Value) (us its : List Value), us.length = n → its.length = dvs.length →
      ∃ k, bindArgs (PySem.W.fnOf x q pa bo sc (.ref T) kV doc pm an cdv ct) ⟨us, []⟩ = seqItems? (.ref T) >>= k ∧ k (some its.toArray) = pure (ps.zip (us ++ its.drop j)))
    (hdd : ∀ F, RepL K F dd (dvs.drop j)) (hm : mg x = some (.ref f)) (hl : ∀ as M Q E, dsp' as M Q E → dsp (as ++ dd) M Q E) : DCal P w K mg base k x dsp' := by
  obtain ⟨fd, F, D⟩ := h
  obtain ⟨ds, hv, B⟩ := F.binds1 n j hd hn hb
  exact ⟨f, fd, ps, ds, dvs.drop j, dd, dsp, hm, F.kp, D, B, hv, hdd, hl⟩
theorem DMet.lift {k' : Nat} (h : DMet P w K mg base k C m dsp) (hk : k ≤ k') : DMet P w K mg base k' C m dsp := by
  obtain ⟨f, fd, ps, ds, dvs, dd, dsp0, h1, h2, h3, r⟩ := h.ex
  exact ⟨f, fd, ps, ds, dvs, dd, dsp0, h1, h2, h3.mono hk, r⟩
theorem DPrp.lift {k' : Nat} (h : DPrp P w K mg base k C m dsp) (hk : k ≤ k') : DPrp P w K mg base k' C m dsp := by
  obtain ⟨pr, g, fd, ps, h1, h2, h3, h4⟩ := h.ex
  exact ⟨pr, g, fd, ps, h1, h2, h3.mono hk, h4⟩
end
end DH
set_option Elab.async false
set_option linter.all false
set_option maxRecDepth 100000
set_option maxHeartbeats 4000000
/-! DN4: t[::-1] of a tuple, a written table of texts -/
namespace DL
open PySem PySem.Spec PyProof.Rows L2
section
variable {prog : Program} {w : World} {A : Around} {E : Value → Shared → Prop} {s : Shared}
theorem adjRev (n : Nat) : Builtin.Slice.sliceAdjust none none (-1) (n : Int) = ((n : Int) - 1, -1) := by
  unfold Builtin.Slice.sliceAdjust
  simp
theorem plcRev (n : Nat) : Builtin.Slice.slicePlaces ((n : Int) - 1) (-1) (-1) = n := by
  unfold Builtin.Slice.slicePlaces
  simp
  omega
theorem sliceRev {sl : Addr} {vk : Value} {n : Nat} {Q : Int × Int × Nat → Shared → Prop} (hs : s.heap.IsSliceOf sl .none .none vk) (pk : IsPart vk (some (-1)))
    (h : Q ((n : Int) - 1, -1, n) s) : wpAny (model prog w) A (Builtin.Slice.sliceApplied (.ref sl) (pure (n : Int))) Q E s := by
  obtain ⟨ob, h1, h2, h3⟩ := id hs
  unfold Builtin.Slice.sliceApplied Builtin.Slice.sliceFields
  refine wpAny_bind (wpAny_bind (wpAny_field h1 h3 (x := .none) rfl (wpAny_bind (wpAny_field h1 h3 (x := .none) rfl (wpAny_bind (wpAny_field h1 h3 (x := vk) rfl (wpAny_pure ?_)))))))
  refine wpAny_bind (HT.slicePart_ pk ?_)
  show wpAny _ _ (if ((-1 : Int) == 0) = true then _ else _) _ _ s
  rw [if_neg (by decide)]
  refine wpAny_bind (HT.slicePart_ .none (wpAny_bind (HT.slicePart_ .none (wpAny_bind (wpAny_pure ?_)))))
  show wpAny _ _ (match Builtin.Slice.sliceAdjust none none (-1) (n : Int) with | (a, b) => pure (a, (-1 : Int), Builtin.Slice.slicePlaces a b (-1))) _ _ s
  rw [adjRev]
  show wpAny _ _ (pure ((n : Int) - 1, (-1 : Int), Builtin.Slice.slicePlaces ((n : Int) - 1) (-1) (-1))) _ _ s
  rw [plcRev]
  exact wpAny_pure h
theorem pickRev (xs : Array Value) : ((List.range xs.size).filterMap fun (m : Nat) => xs[(((xs.size : Int) - 1) + (m : Int) * (-1)).toNat]?).toArray = xs.toList.reverse.toArray := by
  have e1 : (List.range xs.size).filterMap (fun (m : Nat) => xs[(((xs.size : Int) - 1) + (m : Int) * (-1)).toNat]?) = ((List.range xs.size).map fun m => xs.size - 1 - m).filterMap (fun j => xs[j]?) := by
    rw [List.filterMap_map]
    congr 1
    funext m
    show xs[(((xs.size : Int) - 1) + (m : Int) * (-1)).toNat]? = xs[xs.size - 1 - m]?
    congr 1
    omega
  rw [e1, PySem.W.krv_range, List.filterMap_reverse, PySem.W.krv_all]
theorem getItemRev {t sl : Addr} {its : Array Value} {vk : Value} {Q : Value → Shared → Prop} (ht : IsTup s.heap t its) (hs : s.heap.IsSliceOf sl .none .none vk) (pk : IsPart vk (some (-1)))
    (h : Q (.ref s.heap.objs.size) { s with heap := s.heap.push { cls := .type "tuple", data := .seq its.toList.reverse.toArray } })
    (hz : its.size ≤ sizeLine) : wpAny (model prog w) A (getItem (.ref t) (.ref sl)) Q E s := by
  have hok : sizeOk (.seq its.toList.reverse.toArray) := by
    show its.toList.reverse.toArray.size ≤ sizeLine
    simpa using hz
  obtain ⟨ob, h1, h2, h3⟩ := id hs
  have hT : s.TypeIs (.ref sl) "slice" := ⟨ob, h1, h2⟩
  unfold getItem
  try with_reducible refine wpAny_holding ?_
  first | refine wpAny_bind (wpAny_pure ?_) | skip
  refine wpAny_bind (wpAny_sequenceKey ht.typeIs (by decide) ?_)
  refine wpAny_bind (wpAny_callSpecial?_slot (name := Str.ofString "__getitem__") ht.typeIs PyProof.Rows.slot_tuple_getitem (wpAny_call_entry PyProof.Rows.slot_tuple_getitem ht.typeIs entry_tuple_getitem ?_ (args_tuple_getitem _ _)))
  show wpAny _ _ (Builtin.Tuple.tupleItemsOf (.ref t) >>= _) _ _ s
  refine wpAny_bind (tupleItemsOf_ ht (wpAny_bind (wpAny_typeOf hT ?_)))
  rw [if_pos (by decide)]
  refine wpAny_bind (sliceRev hs pk ?_)
  have hno : ¬ ((((its.size : Int) - 1) == 0 && (-1 : Int) == 1 && its.size == its.size) = true) := by simp
  show wpAny _ _ (if (((its.size : Int) - 1) == 0 && (-1 : Int) == 1 && its.size == its.size) = true then _ else _) _ _ s
  rw [if_neg hno, pickRev]
  first
    | exact wpAny_bind (m := Builtin.Tuple.tupleExact _) (wpAny_newObj_type (wpAny_pure ⟨_, rfl, wpAny_pure h⟩) hok)
    | exact wpAny_bind (m := Builtin.Tuple.tupleExact _) (wpAny_newObj_type (wpAny_bind (wpAny_pure (wpAny_pure ⟨_, rfl, wpAny_pure h⟩))) hok)
    | exact wpAny_bind (wpAny_bind (m := Builtin.Tuple.tupleExact _) (wpAny_newObj_type (wpAny_pure (wpAny_pure ⟨_, rfl, wpAny_pure h⟩)) hok))
    | exact wpAny_bind (wpAny_bind (m := Builtin.Tuple.tupleExact _) (wpAny_newObj_type (wpAny_pure ⟨_, rfl, wpAny_pure h⟩) hok))
end
section
variable {X : Cx} {F0 : Hp} {pos : Pos}
/-- t[::-1] of a tuple -/
def dRevT (te : DTE) : DTE := fun δ M Q => te δ M fun x M1 => match x with
  | .tup xs => Q (.tup xs.reverse) M1
  | _ => False
@[simp] theorem dRevT_def {te : DTE} {δ : DSt} {M : DM} {Q : DK} : dRevT te δ M Q = te δ M fun x M1 => match x with
  | .tup xs => Q (.tup xs.reverse) M1
  | _ => False := rfl
theorem dpe_revT {e : Expr} {te : DTE} {k : Nat} {p1 p2 p3 : Pos} (he : DPE X F0 e te) : DPE X F0 (.Subscript e (.Slice none none (some (.UnaryOp .USub (.Constant (.int 1) k p1) p2)) p3) pos) (dRevT te) := by
  refine ⟨fun pins s σ H Q I h => ?_⟩
  obtain ⟨F, δ, M, QD, e0, r, sl, h, m⟩ := h
  refine Subscript_ (thn (he.run pins s σ H (fun x H1 => ∃ a vs, x = .ref a ∧ SqT X.K H1 a vs ∧ ∀ p, H1 p = none → Q (.ref p) (upd H1 p (.tup vs.reverse))) I ⟨F, δ, M, _, e0, r, sl, h, fun d M1 F1 H1 v q e1 r1 rv => ?_⟩) fun v s1 ⟨x, H1, I1, r1, q1⟩ => ?_)
  · split at q
    · unfold Rep at rv
      obtain ⟨a, vs, rfl, ha, rs⟩ := rv
      refine ⟨a, vs, rfl, SqT_mono r1.sub ha, fun p hp => ?_⟩
      obtain ⟨z1, z2, z3⟩ := ice_tup r1 hp rs.reverse
      exact m _ M1 _ _ _ q (e1.trans z1) z2 z3
    · exact q.elim
  obtain ⟨a, vs, ex, hx, q⟩ := q1
  subst ex
  cases r1
  have hst : PO X (some (.UnaryOp .USub (.Constant (.int 1) k p1) p2)) (tPart (tUn (rU fun i => .int (-i)) (tC (.int 1)))) := po_some (pe_un un_neg pe_int)
  refine wpAny_Slice (thn (po_none.run pins s1 σ H1 (fun o H2 => o = none ∧ H2 = H1) I1 ⟨rfl, rfl⟩) fun vl s2 ⟨l, H2, I2, pl, el, e2⟩ => ?_)
  subst el e2
  refine thn (po_none.run pins s2 σ H2 (fun o H3 => o = none ∧ H3 = H2) I2 ⟨rfl, rfl⟩) fun vu s3 ⟨u, H3, I3, pu, eu, e3⟩ => ?_
  subst eu e3
  refine thn (hst.run pins s3 σ H3 (fun o H4 => o = some (-1) ∧ H4 = H3) I3 ⟨1, rfl, -1, rfl, rfl, rfl⟩) fun vk s4 ⟨o, H4, I4, pk, eo, e4⟩ => ?_
  subst eo e4
  cases pl
  cases pu
  have I5 : L2.Inv X pins σ H4 { s4 with heap := s4.heap.push { cls := .type "slice", data := .fields #[.none, .none, vk] } } := I4.kept (t' := s4.toks) fun b ob q => Heap.get?_push_of_some _ q
  obtain ⟨its, rr, ht, hz⟩ := I5.tuple hx
  have hlen := rr.length
  show wpAny (model X.prog X.w) X.A (subscriptTail e (.Slice none none (some (.UnaryOp .USub (.Constant (.int 1) k p1) p2)) p3) (.ref a) (.ref s4.heap.objs.size)) (EP X pins σ Q) X.xe { s4 with heap := s4.heap.push { cls := .type "slice", data := .fields #[.none, .none, vk] } }
  refine tail_any (ops := [.ref a, .ref s4.heap.objs.size]) ht.typeIs PyProof.Rows.slot_tuple_getitem.lookup ?_ (by with_unfolding_all rfl)
  refine getItemRev ht (Heap.IsSliceOf.new _ .none .none vk) pk ?_ (by rw [List.size_toArray]; omega)
  refine ⟨.ref _, _, I5.laid (t' := s4.toks) (o := .tup vs.reverse) (fun b ob q => Heap.get?_push_of_some _ q) (Nat.le_refl _) ?_, rfl, q _ (I5.hok.fresh (Nat.le_refl _))⟩
  exact ⟨by rw [List.length_reverse]; exact hz, _, rr.reverse, IsTup.new _ _⟩
/-- a written table of texts, asked by a text -/
def dTab (tbl : List (Str × Str)) (tb : DTE) : DTE := fun δ M Q => tb δ M fun y M1 => match y with
  | .str z => (match tbl.lookup z with | some v => Q (.str v) M1 | none => False)
  | _ => False
theorem dpe_tab {x : Str} {b : Expr} {tb : DTE} {a : Addr} {tbl : List (Str × Str)} {p : Pos} (hm : X.mg x = some (.ref a)) (hk : ∀ z v, tbl.lookup z = some v → KDct X.K X.w a z (.str v)) (hb : DPE X F0 b tb) (hg : Gl X x := by rfl) (hd : (x == ("__debug__" : Str)) = false := by decide) (hs : PlainIx b := by exact fun _ _ => rfl) :
    DPE X F0 (.Subscript (.Name x p) b pos) (dTab tbl tb) :=
  PE.imp (pe_ix ix_kdict (pe_glob (v := .ref a) hg hm rfl hd) hb hs) fun σ H Q ⟨F, δ, M, QD, e0, r, s, h, m⟩ => by
    refine ⟨F, δ, M, _, e0, r, s, h, fun d M1 F1 H1 v q e1 r1 rv => ?_⟩
    split at q
    · rename_i z
      unfold Rep at rv; subst rv
      split at q
      · rename_i v hv
        exact ⟨a, z, .str v, rfl, rfl, hk z v hv, m _ M1 F1 H1 _ q e1 r1 rep_str⟩
      · exact q.elim
    · exact q.elim
end
end DL
set_option Elab.async false
set_option linter.all false
set_option maxRecDepth 100000
set_option maxHeartbeats 4000000
/-! DH6: the Hook, with written tables of texts -/
namespace DH
open PySem PySem.Spec PyProof.Rows L2 DL
abbrev AlT : Type := Al × List (Option (List (Option (Str × Int))))
/-- a table: its name, its rows -/
abbrev TabD : Type := Str × List (Str × Str)
def obsT (file : Str) (ck : Frag → List Bool) (fn : List He5.DefA) (ini : List IniD) (ts : List TabD) (K : Frag) : AlT := (obs file ck fn ini K, ts.map fun t => He.dicW K (He.ga K t.1))
def valT (fn : List He5.DefA) (ini : List IniD) (ts : List TabD) (w : World) : AlT := (val fn ini, ts.map fun t => some (He.keysIn w.params (t.2.map (·.1))))
def SaysT (file : Str) (ck : Frag → List Bool) (fn : List He5.DefA) (ini : List IniD) (ts : List TabD) (w : World) (K : Frag) : Prop := obsT file ck fn ini ts K = valT fn ini ts w
def obsTG (n : Nat) (file : Str) (ck : Frag → List Bool) (fn : List He5.DefA) (ini : List IniD) (ts : List TabD) (g : Addr → Option Obj) : AlT := obsT file ck fn ini ts (He.frG g (asX g n))
def hookT (n : Nat) (file : Str) (ck : Frag → List Bool) (fn : List He5.DefA) (ini : List IniD) (ts : List TabD) : PySem.W.Hook where
  α := AlT
  obs := fun s => obsTG n file ck fn ini ts s.heap.get?
  val := fun w => valT fn ini ts w
  says := fun w h => ∃ K : Frag, K.In h ∧ SaysT file ck fn ini ts w K
  of := fun _ _ e => ⟨_, He.frG_in, e⟩
  keeps := fun _ _ _ ⟨K, hK, c⟩ k => ⟨K, PySem.W.Frag.In.keeps hK k, c⟩
theorem obsTG_eq {n : Nat} {file : Str} {ck : Frag → List Bool} {fn : List He5.DefA} {ini : List IniD} {ts : List TabD} {g : Addr → Option Obj} {s : Shared} (h : ∀ a, g a = s.heap.get? a) : obsTG n file ck fn ini ts g = (hookT n file ck fn ini ts).obs s := by
  have e : g = s.heap.get? := funext h
  rw [e]; rfl
section
variable {file : Str} {ck : Frag → List Bool} {fn : List He5.DefA} {ini : List IniD} {ts : List TabD} {w : World} {K : Frag}
theorem SaysT.s (c : SaysT file ck fn ini ts w K) : Says file ck fn ini K := congrArg (fun z : AlT => z.1) c
/-- the tables are written dicts -/
def TabsOk (ts : List TabD) (w : World) (K : Frag) : Prop := ∀ t ∈ ts, ∃ es n, KDict K w (He.ga K t.1) es n
theorem SaysT.tabs (c : SaysT file ck fn ini ts w K) : TabsOk ts w K := fun t ht => by
  have e : ts.map (fun t => He.dicW K (He.ga K t.1)) = ts.map fun t => some (He.keysIn w.params (t.2.map (·.1))) := congrArg (fun z : AlT => z.2) c
  exact He.dicW_ok (List.map_inj_left.mp e t ht)
/-- the rows of a table -/
def rowsB (K : Frag) (t : TabD) : Bool := He.valsB K (He.ga K t.1) (t.2.map fun q => (q.1, He.Dv.str q.2))
theorem lookup_mem {z v : Str} : ∀ {l : List (Str × Str)}, l.lookup z = some v → (z, v) ∈ l
  | (a, b) :: l, h => by
    by_cases e : z = a
    · subst e
      rw [List.lookup_cons_self] at h
      cases h
      exact List.mem_cons_self ..
    · rw [List.lookup_cons, show (z == a) = false by simpa using e] at h
      exact List.mem_cons_of_mem _ (lookup_mem h)
theorem tab_ok {t : TabD} (T : TabsOk ts w K) (ht : t ∈ ts) (hb : rowsB K t = true) : ∀ z v, t.2.lookup z = some v → KDct K w (He.ga K t.1) z (.str v) := fun z v h => by
  obtain ⟨es, n, D⟩ := T t ht
  obtain ⟨u, e, r⟩ := He.valsB_ok hb (List.mem_map.mpr ⟨(z, v), lookup_mem h, rfl⟩)
  exact ⟨es, n, u, D.at_, D.lit, e, r⟩
end
end DH
set_option Elab.async false
set_option linter.all false
set_option maxRecDepth 100000
set_option maxHeartbeats 4000000
/-! PT1: names, places, lists of places; plain facts -/
namespace PL
open PySem PySem.Spec L2 DL DS
def alpha : Str := "abcdefghijklmnopqrstuvwxyz"
/-- a name -/
def nm (z : Str) : Bool := decide (1 ≤ z.length) && decide (z.length ≤ 8) && z.cps.toList.all fun c => decide (c ∈ alpha.cps.toList)
/-- a place -/
def isPl : D → Bool
  | .tup [.str a, .str b] => nm a && nm b
  | _ => false
theorem isPl_ex {d : D} (h : isPl d = true) : ∃ a b, d = .tup [.str a, .str b] ∧ nm a = true ∧ nm b = true := by
  unfold isPl at h
  split at h
  · rename_i a b
    exact ⟨a, b, rfl, Bool.and_eq_true_iff.mp h⟩
  · cases h
theorem isPl_kp {d : D} {n : Nat} (h : isPl d = true) : kp (n + 1) d = true := by
  obtain ⟨a, b, rfl, _⟩ := isPl_ex h
  cases n <;> rfl
theorem isPl_lay {d : D} {n : Nat} (h : isPl d = true) : lay (n + 1) d = true := kp_lay (isPl_kp h)
theorem isPl_tup {d : D} (h : isPl d = true) : isTup d = true := by
  obtain ⟨a, b, rfl, _⟩ := isPl_ex h
  rfl
theorem isPl_like {d e : D} (h : isPl d = true) (h' : isPl e = true) : like d e = true := by
  obtain ⟨a, b, rfl, _⟩ := isPl_ex h
  obtain ⟨c, f, rfl, _⟩ := isPl_ex h'
  rfl
theorem eqD_kpR {d : D} {n : Nat} (h : kp n d = true) : eqD d d = true := eqD_refl (kp_lay h)
theorem eqD_iff {d e : D} {n m : Nat} (h : kp n d = true) (h' : kp m e = true) : eqD d e = true ↔ d = e := ⟨eqD_kp h h', fun z => by subst z; exact eqD_kpR h⟩
theorem eqD_pl {d e : D} (h : isPl d = true) (h' : isPl e = true) : eqD d e = true ↔ d = e := eqD_iff (isPl_kp (n := 0) h) (isPl_kp (n := 0) h')
theorem eqD_plF {d e : D} (h : isPl d = true) (h' : isPl e = true) : eqD d e = false ↔ d ≠ e := by
  rw [← Bool.not_eq_true, eqD_pl h h']
/-- all are places -/
def allPl (xs : List D) : Prop := ∀ x ∈ xs, isPl x = true
theorem inD_iff {x : D} {xs : List D} (h : isPl x = true) (hs : allPl xs) : inD x xs = true ↔ x ∈ xs := by
  unfold inD
  rw [List.any_eq_true]
  constructor
  · rintro ⟨d, hd, e⟩
    rw [← (eqD_pl (hs d hd) h).mp e]; exact hd
  · intro hx
    exact ⟨x, hx, eqD_kpR (isPl_kp (n := 0) h)⟩
theorem inD_not {x : D} {xs : List D} (h : isPl x = true) (hs : allPl xs) : inD x xs = false ↔ x ∉ xs := by
  rw [← Bool.not_eq_true, inD_iff h hs]
theorem allPl_lay {xs : List D} {n : Nat} (h : allPl xs) : xs.all (lay (n + 1)) = true := List.all_eq_true.mpr fun x hx => isPl_lay (h x hx)
theorem allPl_sb {xs : List D} (h : allPl xs) : Sb xs :=
  ⟨fun x hx y hy => isPl_like (h x hx) (h y hy), .inl fun x hx => by obtain ⟨a, b, rfl, _⟩ := isPl_ex (h x hx); exact ⟨_, _, rfl⟩, fun x hx => isPl_lay (h x hx)⟩
theorem allPl_ks {xs : List D} (h : allPl xs) : ks8 xs = true := List.all_eq_true.mpr fun x hx => by rw [isPl_tup (h x hx), isPl_kp (n := 7) (h x hx)]; rfl
theorem allPl_perm {xs ys : List D} (h : allPl xs) (p : ys.Perm xs) : allPl ys := fun x hx => h x (p.mem_iff.mp hx)
theorem allPl_srt {xs : List D} (h : allPl xs) : allPl (srt xs) := allPl_perm h (srt_perm xs)
theorem allPl_app {xs ys : List D} (h : allPl xs) (h' : allPl ys) : allPl (xs ++ ys) := fun x hx => (List.mem_append.mp hx).elim (h x) (h' x)
/-- sorted lists of places are told by what is in them -/
theorem srt_eq {xs ys : List D} (hx : allPl xs) (p : xs.Perm ys) : srt xs = srt ys := by
  have hy : allPl ys := allPl_perm hx p.symm
  have al : ∀ {zs : List D}, allPl zs → alikeD zs := fun h a ha b hb => isPl_like (h a ha) (h b hb)
  have pm : (srt xs).Perm (srt ys) := (srt_perm xs).trans (p.trans (srt_perm ys).symm)
  refine List.Perm.eq_of_pairwise (le := fun a b => ltD b a = false) (fun a b ha hb h1 h2 => ?_) (srt_asc (al hx)) (srt_asc (al hy)) pm
  have ia := allPl_srt hx a ha
  have ib := allPl_srt hy b hb
  exact (eqD_pl ia ib).mp (eqD_of_not (isPl_like ia ib) (isPl_like ib ia) h2 h1)
theorem eqL_refl {xs : List D} {n : Nat} (h : xs.all (lay n) = true) : eqL xs xs = true := eqL_refl_of fun d hd => eqD_refl (List.all_eq_true.mp h d hd)
/-! ### changes -/
inductive Ch where
  | add (g : Int) (p : D) | take (g : Int) (p : D) | ren (g : Int) (p q : D)
def Ch.gap : Ch → Int
  | .add g _ => g
  | .take g _ => g
  | .ren g _ _ => g
def Ch.d : Ch → D
  | .add g p => .tup [.int g, .str "add", p]
  | .take g p => .tup [.int g, .str "take", p]
  | .ren g p q => .tup [.int g, .str "rename", p, q]
/-- it has the form of a change -/
def Ch.ok : Ch → Prop
  | .add g p => 0 ≤ g ∧ isPl p = true
  | .take g p => 0 ≤ g ∧ isPl p = true
  | .ren g p q => 0 ≤ g ∧ isPl p = true ∧ isPl q = true
def poss (st : List D) : Ch → Bool
  | .add _ p => !inD p st
  | .take _ p => inD p st
  | .ren _ p q => inD p st && !inD q st
def less (st : List D) (p : D) : List D := st.filter fun x => !eqD x p
def step (st : List D) : Ch → List D
  | .add _ p => st ++ [p]
  | .take _ p => less st p
  | .ren _ p q => less st p ++ [q]
def run (st : List D) (cs : List Ch) : List D := cs.foldl step st
/-- the changes can be made, one after another, in gaps that do not fall -/
def course : List D → Int → List Ch → Prop
  | _, _, [] => True
  | st, g, c :: cs => c.ok ∧ g ≤ c.gap ∧ poss st c = true ∧ course (step st c) c.gap cs
/-- what stands at moment k -/
def stAt (st : List D) (cs : List Ch) (k : Int) : List D := run st (cs.filter fun c => decide (c.gap < k))
theorem Ch.ok_gap {c : Ch} (h : c.ok) : 0 ≤ c.gap := by cases c <;> exact h.1
theorem ch_lay {c : Ch} {n : Nat} (h : c.ok) : lay (n + 2) c.d = true := by
  cases c with
  | add g p => simp [Ch.d, lay, isPl_lay (n := n) h.2]
  | take g p => simp [Ch.d, lay, isPl_lay (n := n) h.2]
  | ren g p q => simp [Ch.d, lay, isPl_lay (n := n) h.2.1, isPl_lay (n := n) h.2.2]
theorem less_mem {st : List D} {p x : D} (hp : isPl p = true) (hs : allPl st) : x ∈ less st p ↔ x ∈ st ∧ x ≠ p := by
  unfold less
  rw [List.mem_filter]
  refine and_congr_right fun hx => ?_
  rw [Bool.not_eq_true', eqD_plF (hs x hx) hp]
theorem less_pl {st : List D} {p : D} (hs : allPl st) : allPl (less st p) := fun x hx => hs x (List.mem_filter.mp hx).1
theorem step_pl {st : List D} {c : Ch} (hs : allPl st) (h : c.ok) : allPl (step st c) := by
  cases c with
  | add g p => exact allPl_app hs fun x hx => by rw [List.mem_singleton.mp hx]; exact h.2
  | take g p => exact less_pl hs
  | ren g p q => exact allPl_app (less_pl hs) fun x hx => by rw [List.mem_singleton.mp hx]; exact h.2.2
theorem run_pl : ∀ {cs : List Ch} {st : List D}, allPl st → (∀ c ∈ cs, c.ok) → allPl (run st cs)
  | [], _, hs, _ => hs
  | c :: cs, st, hs, h => run_pl (st := step st c) (step_pl hs (h c (List.mem_cons_self ..))) fun x hx => h x (List.mem_cons_of_mem _ hx)
theorem step_perm {st st' : List D} {c : Ch} (p : st.Perm st') : (step st c).Perm (step st' c) := by
  cases c with
  | add g x => exact p.append_right _
  | take g x => exact p.filter _
  | ren g x y => exact (p.filter _).append_right _
theorem run_perm : ∀ {cs : List Ch} {st st' : List D}, st.Perm st' → (run st cs).Perm (run st' cs)
  | [], _, _, p => p
  | c :: cs, _, _, p => run_perm (cs := cs) (step_perm (c := c) p)
theorem inD_perm {x : D} {st st' : List D} (p : st.Perm st') : inD x st = inD x st' := by
  unfold inD
  exact p.any_eq
theorem poss_perm {st st' : List D} {c : Ch} (p : st.Perm st') : poss st c = poss st' c := by
  cases c <;> simp [poss, inD_perm p]
theorem course_perm : ∀ {cs : List Ch} {st st' : List D} {g : Int}, st.Perm st' → course st g cs → course st' g cs
  | [], _, _, _, _, _ => trivial
  | c :: cs, _, _, _, p, ⟨h1, h2, h3, h4⟩ => ⟨h1, h2, by rw [← poss_perm p]; exact h3, course_perm (step_perm p) h4⟩
theorem course_ok : ∀ {cs : List Ch} {st : List D} {g : Int}, course st g cs → ∀ c ∈ cs, c.ok
  | c :: cs, _, _, h, x, hx => by
    rcases List.mem_cons.mp hx with rfl | hx
    · exact h.1
    · exact course_ok h.2.2.2 x hx
/-- the gap of the last change -/
def lastG (g : Int) : List Ch → Int
  | [] => g
  | c :: cs => lastG c.gap cs
theorem course_snoc : ∀ {cs : List Ch} {st : List D} {g : Int} {c : Ch}, course st g cs → c.ok → lastG g cs ≤ c.gap → poss (run st cs) c = true → course st g (cs ++ [c])
  | [], _, _, _, _, h1, h2, h3 => ⟨h1, h2, h3, trivial⟩
  | x :: cs, st, g, c, h, h1, h2, h3 => ⟨h.1, h.2.1, h.2.2.1, course_snoc (st := step st x) h.2.2.2 h1 h2 h3⟩
theorem course_le : ∀ {cs : List Ch} {st : List D} {g : Int}, course st g cs → ∀ c ∈ cs, c.gap ≤ lastG g cs ∧ g ≤ c.gap
  | x :: cs, st, g, h, c, hc => by
    have mono : ∀ {cs : List Ch} {st : List D} {g : Int}, course st g cs → g ≤ lastG g cs := fun {cs} => by
      induction cs with
      | nil => intro st g _; exact Int.le_refl _
      | cons y cs ih => intro st g h; exact Int.le_trans h.2.1 (ih h.2.2.2)
    rcases List.mem_cons.mp hc with rfl | hc
    · exact ⟨mono h.2.2.2, h.2.1⟩
    · have := course_le h.2.2.2 c hc
      exact ⟨this.1, Int.le_trans h.2.1 this.2⟩
theorem stAt_all {cs : List Ch} {st : List D} {k : Int} (h : ∀ c ∈ cs, c.gap < k) : stAt st cs k = run st cs := by
  unfold stAt
  rw [List.filter_eq_self.mpr fun c hc => decide_eq_true (h c hc)]
theorem stAt_pl {cs : List Ch} {st : List D} {k : Int} (hs : allPl st) (h : ∀ c ∈ cs, c.ok) : allPl (stAt st cs k) := run_pl hs fun c hc => h c (List.mem_filter.mp hc).1
theorem stAt_perm {cs : List Ch} {st st' : List D} {k : Int} (p : st.Perm st') : (stAt st cs k).Perm (stAt st' cs k) := run_perm p
theorem less_nodup {st : List D} {p : D} (h : st.Nodup) : (less st p).Nodup := h.filter _
end PL
set_option Elab.async false
set_option linter.all false
set_option maxRecDepth 100000
set_option maxHeartbeats 4000000
/-! DP2: more simp rules of readings -/
namespace DL
open PySem PySem.Spec L2 DH DS
section
variable {M : DM} {Q : DK} {i j : Int} {x y : Str} {a b : Bool} {δ : DSt}
@[simp] theorem asR_lst {xs : List D} : asR M (.lst xs) = some xs := rfl
@[simp] theorem asL_lst' {xs : List D} : asL M (.lst xs) = some xs := rfl
@[simp] theorem seqOf_lst {xs : List D} : seqOf M (.lst xs) = some xs := rfl
@[simp] theorem seqOf_tup {xs : List D} : seqOf M (.tup xs) = some xs := rfl
theorem asR_ref {p : Addr} {xs : List D} (h : M p = some (.lst xs)) : asR M (.ref p) = some xs := by unfold asR res; simp only [h]
theorem asL_ref {p : Addr} {xs : List D} (h : M p = some (.lst xs)) : asL M (.ref p) = some xs := by unfold asL res; simp only [h]
theorem res_ref {p : Addr} {xs : List D} (h : M p = some (.lst xs)) : res M (.ref p) = .lst xs := by unfold res; simp only [h]
@[simp] theorem res_lst {xs : List D} : res M (.lst xs) = .lst xs := rfl
@[simp] theorem res_tup {xs : List D} : res M (.tup xs) = .tup xs := rfl
@[simp] theorem res_str : res M (.str x) = .str x := rfl
@[simp] theorem res_int : res M (.int i) = .int i := rfl
@[simp] theorem res_bl : res M (.bl a) = .bl a := rfl
@[simp] theorem res_non : res M .non = .non := rfl
@[simp] theorem dLen_lst {xs : List D} : dLen [.lst xs] M Q = Q (.int xs.length) M := rfl
@[simp] theorem dLen_tup {xs : List D} : dLen [.tup xs] M Q = Q (.int xs.length) M := rfl
@[simp] theorem dLen_str : dLen [.str x] M Q = (x.length ≤ sizeLine ∧ Q (.int x.length) M) := rfl
@[simp] theorem dList_lst {xs : List D} : dList [.lst xs] M Q = Q (.lst xs) M := rfl
@[simp] theorem dList_tup {xs : List D} : dList [.tup xs] M Q = Q (.lst xs) M := rfl
@[simp] theorem dTuple_lst {xs : List D} : dTuple [.lst xs] M Q = Q (.tup xs) M := rfl
@[simp] theorem dSorted_lst {xs : List D} : dSorted [.lst xs] M Q = (Sb xs ∧ Q (.lst (srt xs)) M) := rfl
@[simp] theorem dAdd_ll {xs ys : List D} : dAdd (.lst xs) (.lst ys) M Q = (xs.length + ys.length ≤ sizeLine ∧ Q (.lst (xs ++ ys)) M) := rfl
@[simp] theorem dAdd_tt {xs ys : List D} : dAdd (.tup xs) (.tup ys) M Q = (xs.length + ys.length ≤ sizeLine ∧ Q (.tup (xs ++ ys)) M) := rfl
@[simp] theorem dSl_tup {xs : List D} {lo hi : Option Int} : dSl (.tup xs) lo hi M Q = Q (.tup (cut xs lo hi)) M := rfl
@[simp] theorem dSl_lst {xs : List D} {lo hi : Option Int} : dSl (.lst xs) lo hi M Q = Q (.lst (cut xs lo hi)) M := rfl
@[simp] theorem dIn_lst {d : D} {xs : List D} : dIn d (.lst xs) M Q = ((lay 60 (res M d) && xs.all (lay 60)) = true ∧ Q (.bl (inD (res M d) xs)) M) := rfl
@[simp] theorem dNotIn_lst {d : D} {xs : List D} : dNotIn d (.lst xs) M Q = ((lay 60 (res M d) && xs.all (lay 60)) = true ∧ Q (.bl (!inD (res M d) xs)) M) := rfl
@[simp] theorem dIn_tup {d : D} {xs : List D} : dIn d (.tup xs) M Q = ((lay 60 (res M d) && xs.all (lay 60)) = true ∧ Q (.bl (inD (res M d) xs)) M) := rfl
@[simp] theorem dNotIn_tup {d : D} {xs : List D} : dNotIn d (.tup xs) M Q = ((lay 60 (res M d) && xs.all (lay 60)) = true ∧ Q (.bl (!inD (res M d) xs)) M) := rfl
theorem dIn_ref {p : Addr} {d : D} {xs : List D} (h : M p = some (.lst xs)) : dIn d (.ref p) M Q = ((lay 60 (res M d) && xs.all (lay 60)) = true ∧ Q (.bl (inD (res M d) xs)) M) := by
  show (match asR M (.ref p) with | some xs => _ | none => False) = _
  rw [asR_ref h]; rfl
theorem dNotIn_ref {p : Addr} {d : D} {xs : List D} (h : M p = some (.lst xs)) : dNotIn d (.ref p) M Q = ((lay 60 (res M d) && xs.all (lay 60)) = true ∧ Q (.bl (!inD (res M d) xs)) M) := by
  show (match asR M (.ref p) with | some xs => _ | none => False) = _
  rw [asR_ref h]; rfl
@[simp] theorem dNotIn_one {c : Nat} : dNotIn (one c) (.str y) M Q = Q (.bl (!decide (c ∈ y.cps.toList))) M := rfl
@[simp] theorem dIn_one {c : Nat} : dIn (one c) (.str y) M Q = Q (.bl (decide (c ∈ y.cps.toList))) M := rfl
@[simp] theorem dIs_non {d : D} : dIs d .non M Q = Q (.bl (isNon d)) M := by cases d <;> rfl
@[simp] theorem dIsNot_non {d : D} : dIsNot d .non M Q = Q (.bl (!isNon d)) M := by cases d <;> rfl
theorem dEq_data {d e : D} (h1 : lay 60 (res M d) = true) (h2 : lay 60 (res M e) = true) : dEq d e M Q = Q (.bl (eqD (res M d) (res M e))) M := by simp [dEq, h1, h2]
theorem dNe_data {d e : D} (h1 : lay 60 (res M d) = true) (h2 : lay 60 (res M e) = true) : dNe d e M Q = Q (.bl (!eqD (res M d) (res M e))) M := by simp [dNe, h1, h2]
@[simp] theorem dEq_tt {d e : D} : dEq d e M Q = ((lay 60 (res M d) && lay 60 (res M e)) = true ∧ Q (.bl (eqD (res M d) (res M e))) M) := rfl
@[simp] theorem dNe_tt {d e : D} : dNe d e M Q = ((lay 60 (res M d) && lay 60 (res M e)) = true ∧ Q (.bl (!eqD (res M d) (res M e))) M) := rfl
@[simp] theorem lay_int {n : Nat} : lay n (.int i) = true := by cases n <;> rfl
@[simp] theorem lay_str {n : Nat} : lay n (.str x) = true := by cases n <;> rfl
@[simp] theorem lay_bl {n : Nat} : lay n (.bl a) = true := by cases n <;> rfl
@[simp] theorem lay_non {n : Nat} : lay n .non = true := by cases n <;> rfl
theorem lc_lst {st : DStep} {te : DTE} {xs : List D} (f : D → Option D) (he : ∀ R : DK, R (.lst xs) M → te δ M R) (hs : ∀ x ∈ xs, ∀ M K, K (f x) M → st x δ M K) (hl : xs.length ≤ sizeLine) (q : Q (.lst (xs.filterMap f)) M) : dLc st (dSeqI te) δ M Q := by
  unfold dLc dSeqI
  exact he _ (dLc_pure (keep := fun M2 => asR M2 (.lst xs) = some xs) f hs (fun _ _ _ => rfl) hl q)
theorem lc_tup {st : DStep} {te : DTE} {xs : List D} (f : D → Option D) (he : ∀ R : DK, R (.tup xs) M → te δ M R) (hs : ∀ x ∈ xs, ∀ M K, K (f x) M → st x δ M K) (hl : xs.length ≤ sizeLine) (q : Q (.lst (xs.filterMap f)) M) : dLc st (dSeqI te) δ M Q := by
  unfold dLc dSeqI
  exact he _ (dLc_pure (keep := fun _ => True) f hs (fun _ _ _ => trivial) hl q)
theorem lc_str {st : DStep} {te : DTE} {z : Str} (f : D → Option D) (he : ∀ R : DK, R (.str z) M → te δ M R) (hs : ∀ x ∈ z.cps.toList.map one, ∀ M K, K (f x) M → st x δ M K) (hl : z.length ≤ sizeLine) (q : Q (.lst ((z.cps.toList.map one).filterMap f)) M) : dLc st (dSeqI te) δ M Q := by
  unfold dLc dSeqI
  exact he _ (dLc_pure (keep := fun _ => True) f hs (fun _ _ _ => trivial) (by simpa [Str.length] using hl) q)
theorem filterMap_none {α β : Type} {f : α → Option β} {xs : List α} (h : ∀ x ∈ xs, f x = none) : xs.filterMap f = [] := by
  induction xs with
  | nil => rfl
  | cons x xs ih => rw [List.filterMap_cons_none (h x (List.mem_cons_self ..))]; exact ih fun y hy => h y (List.mem_cons_of_mem _ hy)
theorem filterMap_if {α : Type} {p : α → Bool} {xs : List α} : xs.filterMap (fun x => if p x = true then some x else none) = xs.filter p := by
  induction xs with
  | nil => rfl
  | cons x xs ih =>
    by_cases h : p x = true
    · rw [List.filterMap_cons_some (by rw [if_pos h]), List.filter_cons_of_pos h, ih]
    · rw [List.filterMap_cons_none (by rw [if_neg h]), List.filter_cons_of_neg h, ih]
@[simp] theorem at_0 {α : Type} {x : α} {xs : List α} : atI (x :: xs) 0 = some x := by rw [atI_lt (by decide) (by simp <;> omega)]; rfl
@[simp] theorem at_1 {α : Type} {x y : α} {xs : List α} : atI (x :: y :: xs) 1 = some y := by rw [atI_lt (by decide) (by simp <;> omega)]; rfl
@[simp] theorem at_2 {α : Type} {x y z : α} {xs : List α} : atI (x :: y :: z :: xs) 2 = some z := by rw [atI_lt (by decide) (by simp <;> omega)]; rfl
@[simp] theorem at_3 {α : Type} {x y z w : α} {xs : List α} : atI (x :: y :: z :: w :: xs) 3 = some w := by rw [atI_lt (by decide) (by simp <;> omega)]; rfl
theorem at_nat {α : Type} {xs : List α} {i : Nat} {x : α} (h : xs[i]? = some x) : atI xs (i : Int) = some x := by
  have hi := (List.getElem?_eq_some_iff.mp h).1
  rw [atI_lt (by omega) (by omega)]
  simp only [Int.toNat_natCast]
  rw [← h, List.getElem?_eq_getElem hi]
def isLst : D → Bool
  | .lst _ => true
  | _ => false
theorem isi_list {K : Frag} {d : D} (h : plain d = true) (q : Q (.bl (isLst d)) M) : dIsi K [d, .ty "list"] M Q := by
  cases d <;> first | exact ⟨trivial, q⟩ | cases h
theorem isi_listR {K : Frag} {p : Addr} {xs : List D} (h : M p = some (.lst xs)) (q : Q (.bl true) M) : dIsi K [.ref p, .ty "list"] M Q := by
  unfold dIsi tyD
  simp only [h]
  exact ⟨trivial, q⟩
theorem sIx_at {n d : Nat} {i : Int} (h0 : 0 ≤ i) (h1 : i ≤ n) : HT.sIx n d (some i) = i.toNat := by
  show (if i < 0 then (i + (n : Int)).toNat else min i.toNat n) = _
  rw [if_neg (by omega)]
  omega
theorem cut_drop {α : Type} {xs : List α} {i : Int} (h0 : 0 ≤ i) (h1 : i ≤ xs.length) : cut xs (some i) none = xs.drop i.toNat := by
  unfold cut
  rw [sIx_at h0 h1]
  show (xs.drop i.toNat).take (xs.length - i.toNat) = _
  rw [List.take_of_length_le (by rw [List.length_drop]; exact Nat.le_refl _)]
theorem cut_take {α : Type} {xs : List α} {i : Int} (h0 : 0 ≤ i) (h1 : i ≤ xs.length) : cut xs none (some i) = xs.take i.toNat := by
  unfold cut
  rw [sIx_at h0 h1]
  rfl
end
end DL
set_option Elab.async false
set_option linter.all false
set_option maxRecDepth 100000
set_option maxHeartbeats 4000000
/-! PT2: texts, names; plain facts -/
namespace PL
open PySem PySem.Spec L2 DL DS
abbrev cl (z : Str) : List Nat := z.cps.toList
theorem cl_app (x y : Str) : cl (x ++ y) = cl x ++ cl y := TL.tl_append x y
theorem len_cl (z : Str) : z.length = (cl z).length := by simp [Str.length]
theorem len_app (x y : Str) : (x ++ y).length = x.length + y.length := by rw [len_cl, cl_app, List.length_append, ← len_cl, ← len_cl]
theorem cl_cut (z : Str) (lo hi : Option Int) : cl (cutS z lo hi) = ((cl z).drop (HT.sIx z.length 0 lo)).take (HT.sIx z.length z.length hi - HT.sIx z.length 0 lo) := rfl
theorem sIx_pos {n d : Nat} {i : Int} (h0 : 0 ≤ i) : HT.sIx n d (some i) = min i.toNat n := by
  show (if i < 0 then (i + (n : Int)).toNat else min i.toNat n) = _
  rw [if_neg (by omega)]
theorem cutS_from {z : Str} {i : Int} (h0 : 0 ≤ i) : cl (cutS z (some i) none) = (cl z).drop i.toNat := by
  rw [cl_cut, len_cl, sIx_pos h0]
  show ((cl z).drop _).take ((cl z).length - _) = _
  by_cases h : i.toNat ≤ (cl z).length
  · rw [Nat.min_eq_left h, List.take_of_length_le (by rw [List.length_drop]; exact Nat.le_refl _)]
  · rw [List.drop_of_length_le (by omega), List.drop_of_length_le (by omega), List.take_nil]
theorem cutS_to {z : Str} {i : Int} (h0 : 0 ≤ i) : cl (cutS z none (some i)) = (cl z).take i.toNat := by
  rw [cl_cut, len_cl, sIx_pos h0]
  show ((cl z).drop 0).take (min i.toNat (cl z).length - 0) = _
  rw [List.drop_zero, Nat.sub_zero]
  by_cases h : i.toNat ≤ (cl z).length
  · rw [Nat.min_eq_left h]
  · rw [Nat.min_eq_right (by omega), List.take_of_length_le (by omega), List.take_of_length_le (by omega)]
theorem len_one {c : Nat} : ({ cps := #[c] } : Str).length = 1 := rfl
theorem cl_one {c : Nat} : cl { cps := #[c] } = [c] := rfl
theorem alpha_len : (cl alpha).length = 26 := by decide +kernel
def isLet (c : Nat) : Prop := c ∈ alpha.cps.toList
theorem nm_iff {z : Str} : nm z = true ↔ 1 ≤ z.length ∧ z.length ≤ 8 ∧ ∀ c ∈ cl z, isLet c := by simp only [nm, isLet, and_assoc, Bool.and_eq_true, decide_eq_true_eq, List.all_eq_true]
/-- a letter drawn -/
theorem letter {r : Int} (h0 : 0 ≤ r) (h1 : r < 26) : ∃ c : Nat, isLet c ∧ atI alpha.cps.toList r = some c := by
  have hl : alpha.cps.toList.length = 26 := alpha_len
  have h2 : r < (alpha.cps.toList.length : Int) := by omega
  rw [atI_lt h0 h2]
  exact ⟨_, List.getElem_mem _, rfl⟩
/-- a name grown out of two, cut -/
theorem nm_cut {x y : Str} (hx : nm x = true) (hy : nm y = true) {r : Int} (h0 : 0 ≤ r) (h1 : r < 8) : nm (cutS (x ++ y) none (some (1 + r))) = true := by
  obtain ⟨a1, a2, a3⟩ := nm_iff.mp hx
  obtain ⟨b1, b2, b3⟩ := nm_iff.mp hy
  have e : cl (cutS (x ++ y) none (some (1 + r))) = (cl x ++ cl y).take (1 + r).toNat := by rw [cutS_to (by omega), cl_app]
  refine nm_iff.mpr ⟨?_, ?_, ?_⟩
  · rw [len_cl, e, List.length_take, List.length_append, ← len_cl, ← len_cl]; omega
  · rw [len_cl, e, List.length_take]; omega
  · rw [e]
    intro c hc
    rcases List.mem_append.mp (List.mem_of_mem_take hc) with h | h
    · exact a3 c h
    · exact b3 c h
theorem inD_str {z : Str} : ∀ {xs : List Str}, inD (.str z) (xs.map D.str) = decide (z ∈ xs)
  | [] => rfl
  | x :: xs => by
    have ih := inD_str (z := z) (xs := xs)
    have e : (x == z) = decide (z = x) := by
      by_cases h : x = z
      · simp [h]
      · have h' : ¬ z = x := fun e => h e.symm
        simp [h, h']
    unfold inD at ih ⊢
    rw [List.map_cons, List.any_cons, ih]
    show ((x == z) || _) = _
    rw [e]
    by_cases h : z = x <;> simp [h]
theorem cl_nil : cl (Str.ofString "") = [] := by decide +kernel
theorem put_comm {M : DM} {a b : Addr} {x y : MO} (h : a ≠ b) : put (put M a x) b y = put (put M b y) a x := by
  funext z
  by_cases h1 : z = a
  · subst h1; rw [put_ne h, put_same, put_same]
  · by_cases h2 : z = b
    · subst h2; rw [put_same, put_ne h1, put_same]
    · rw [put_ne h2, put_ne h1, put_ne h1, put_ne h2]
theorem at_m1 {α : Type} {xs : List α} (h : xs ≠ []) : atI xs (-1) = some (xs.getLast h) := by
  have hl := List.length_pos_iff.mpr h
  have e : atI xs (-1) = xs[xs.length - 1]? := by
    unfold atI ixN
    rw [if_neg (by decide), if_pos (by omega)]
    show xs[((-1 : Int) + xs.length).toNat]? = _
    congr 1
    omega
  rw [e, List.getLast_eq_getElem, List.getElem?_eq_getElem]
theorem dAppend_ref {M : DM} {Q : DK} {q : Addr} {xs : List D} {y : D} (h : M q = some (.lst xs)) : dAppend (.ref q) [y] M Q = (xs.length < sizeLine ∧ Q .non (put M q (.lst (xs ++ [y])))) := by
  unfold dAppend
  simp only [h]
theorem str_lay {xs : List Str} {n : Nat} : (xs.map D.str).all (lay n) = true := by simp
end PL
set_option Elab.async false
set_option linter.all false
set_option maxRecDepth 100000
set_option maxHeartbeats 4000000
/-! PT3: changes undone; plain facts -/
namespace PL
open PySem PySem.Spec L2 DL DS
def opp : Ch → Int → Ch
  | .add _ p, g => .take g p
  | .take _ p, g => .add g p
  | .ren _ p q, g => .ren g q p
theorem opp_gap {c : Ch} {g : Int} : (opp c g).gap = g := by cases c <;> rfl
theorem opp_ok {c : Ch} {g : Int} (h : c.ok) (hg : 0 ≤ g) : (opp c g).ok := by
  cases c with
  | add _ p => exact ⟨hg, h.2⟩
  | take _ p => exact ⟨hg, h.2⟩
  | ren _ p q => exact ⟨hg, h.2.2, h.2.1⟩
theorem opp_opp {c : Ch} {g : Int} : opp (opp c g) c.gap = c := by cases c <;> rfl
theorem mem_app1 {st : List D} {p x : D} : x ∈ st ++ [p] ↔ x ∈ st ∨ x = p := by simp
theorem nodup_app1 {st : List D} {p : D} (h : st.Nodup) (hp : p ∉ st) : (st ++ [p]).Nodup := List.nodup_append.mpr ⟨h, by simp, fun x hx y hy => by rw [List.mem_singleton.mp hy]; exact fun e => hp (e ▸ hx)⟩
theorem step_nodup {st : List D} {c : Ch} (hs : allPl st) (hn : st.Nodup) (hc : c.ok) (hp : poss st c = true) : (step st c).Nodup := by
  cases c with
  | add g p =>
    have : p ∉ st := by simpa [poss, inD_not hc.2 hs] using hp
    exact nodup_app1 hn this
  | take g p => exact less_nodup hn
  | ren g p q =>
    have h : inD p st = true ∧ inD q st = false := by simpa [poss] using hp
    have hq : q ∉ st := (inD_not hc.2.2 hs).mp h.2
    exact nodup_app1 (less_nodup hn) fun e => hq ((less_mem hc.2.1 hs).mp e).1
/-- a change that is possible, undone -/
theorem undo {st : List D} {c : Ch} {g : Int} (hs : allPl st) (hn : st.Nodup) (hc : c.ok) (hg : 0 ≤ g) (hp : poss st c = true) : poss (step st c) (opp c g) = true ∧ (step (step st c) (opp c g)).Perm st := by
  have hs' := step_pl hs hc
  have hn' := step_nodup hs hn hc hp
  have ho := opp_ok hc hg
  have po : poss (step st c) (opp c g) = true := by
    cases c with
    | add _ p =>
      have hs2 : allPl (st ++ [p]) := hs'
      show inD p (st ++ [p]) = true
      exact (inD_iff hc.2 hs2).mpr (by simp)
    | take _ p =>
      have hs2 : allPl (less st p) := hs'
      show (!inD p (less st p)) = true
      rw [(inD_not hc.2 hs2).mpr fun e => ((less_mem hc.2 hs).mp e).2 rfl]; rfl
    | ren _ p q =>
      have h : inD p st = true ∧ inD q st = false := by simpa [poss] using hp
      have hpm := (inD_iff hc.2.1 hs).mp h.1
      have hq : q ∉ st := (inD_not hc.2.2 hs).mp h.2
      have hs2 : allPl (less st p ++ [q]) := hs'
      show (inD q (less st p ++ [q]) && !inD p (less st p ++ [q])) = true
      rw [(inD_iff hc.2.2 hs2).mpr (by simp), (inD_not hc.2.1 hs2).mpr fun e => ?_]
      · rfl
      · rcases mem_app1.mp e with e | e
        · exact ((less_mem hc.2.1 hs).mp e).2 rfl
        · exact hq (e ▸ hpm)
  refine ⟨po, ?_⟩
  have hn2 := step_nodup hs' hn' ho po
  refine (List.perm_ext_iff_of_nodup hn2 hn).mpr fun x => ?_
  cases c with
  | add _ p =>
    have hpm : p ∉ st := by simpa [poss, inD_not hc.2 hs] using hp
    have hs2 : allPl (st ++ [p]) := hs'
    show x ∈ less (st ++ [p]) p ↔ x ∈ st
    rw [less_mem hc.2 hs2, mem_app1]
    constructor
    · rintro ⟨h | h, h2⟩
      · exact h
      · exact absurd h h2
    · exact fun h => ⟨.inl h, fun e => hpm (e ▸ h)⟩
  | take _ p =>
    have hpm : p ∈ st := (inD_iff hc.2 hs).mp hp
    show x ∈ less st p ++ [p] ↔ x ∈ st
    rw [mem_app1, less_mem hc.2 hs]
    constructor
    · rintro (⟨h, _⟩ | h)
      · exact h
      · exact h ▸ hpm
    · intro h
      by_cases e : x = p
      · exact .inr e
      · exact .inl ⟨h, e⟩
  | ren _ p q =>
    have h : inD p st = true ∧ inD q st = false := by simpa [poss] using hp
    have hpm := (inD_iff hc.2.1 hs).mp h.1
    have hq : q ∉ st := (inD_not hc.2.2 hs).mp h.2
    have hs2 : allPl (less st p ++ [q]) := hs'
    show x ∈ less (less st p ++ [q]) q ++ [p] ↔ x ∈ st
    rw [mem_app1, less_mem hc.2.2 hs2, mem_app1, less_mem hc.2.1 hs]
    constructor
    · rintro (⟨⟨h, _⟩ | h, h2⟩ | h)
      · exact h
      · exact absurd h h2
      · exact h ▸ hpm
    · intro hx
      by_cases e : x = p
      · exact .inr e
      · exact .inl ⟨.inl ⟨hx, e⟩, fun e2 => hq (e2 ▸ hx)⟩
/-- the changes undone, backwards, for m moments -/
def turnCs (m : Int) (cs : List Ch) : List Ch := (cs.map fun c => opp c (m - 2 - c.gap)).reverse
theorem turn_cons {m : Int} {c : Ch} {cs : List Ch} : turnCs m (c :: cs) = turnCs m cs ++ [opp c (m - 2 - c.gap)] := by simp [turnCs]
theorem turn_turn {m : Int} {cs : List Ch} : turnCs m (turnCs m cs) = cs := by
  unfold turnCs
  rw [List.map_reverse, List.reverse_reverse, List.map_map]
  conv => rhs; rw [← List.map_id cs]
  apply List.map_congr_left
  intro c _
  show opp (opp c (m - 2 - c.gap)) (m - 2 - (opp c (m - 2 - c.gap)).gap) = c
  rw [opp_gap, show m - 2 - (m - 2 - c.gap) = c.gap by omega, opp_opp]
theorem turn_len {m : Int} {cs : List Ch} : (turnCs m cs).length = cs.length := by simp [turnCs]
theorem turn_gap {m : Int} {cs : List Ch} {c : Ch} (h : c ∈ turnCs m cs) : ∃ x ∈ cs, c.gap = m - 2 - x.gap := by
  obtain ⟨x, hx, rfl⟩ := List.mem_map.mp (List.mem_reverse.mp h)
  exact ⟨x, hx, opp_gap⟩
theorem lastG_snoc' : ∀ {cs : List Ch} {g : Int} {c : Ch}, lastG g (cs ++ [c]) = c.gap
  | [], _, _ => rfl
  | x :: cs, g, c => lastG_snoc' (cs := cs) (g := x.gap)
theorem run_snoc' {cs : List Ch} {st : List D} {c : Ch} : run st (cs ++ [c]) = step (run st cs) c := by simp [run]
theorem run_app {cs cs' : List Ch} {st : List D} : run st (cs ++ cs') = run (run st cs) cs' := by simp [run]
theorem run_nodup : ∀ {cs : List Ch} {st : List D} {g : Int}, allPl st → st.Nodup → course st g cs → (run st cs).Nodup
  | [], _, _, _, hn, _ => hn
  | c :: cs, st, g, hs, hn, ⟨h1, h2, h3, h4⟩ => run_nodup (cs := cs) (st := step st c) (step_pl hs h1) (step_nodup hs hn h1 h3) h4
/-- the course turned -/
theorem turn_course {m : Int} : ∀ {cs : List Ch} {st : List D} {g : Int}, allPl st → st.Nodup → course st g cs → (∀ c ∈ cs, c.gap ≤ m - 2) → course (run st cs) 0 (turnCs m cs) ∧ (run (run st cs) (turnCs m cs)).Perm st
  | [], _, _, _, _, _, _ => ⟨trivial, List.Perm.refl _⟩
  | c :: cs, st, g, hs, hn, ⟨h1, h2, h3, h4⟩, hm => by
    have hc : c.gap ≤ m - 2 := hm c (List.mem_cons_self ..)
    obtain ⟨i1, i2⟩ := turn_course (m := m) (cs := cs) (st := step st c) (step_pl hs h1) (step_nodup hs hn h1 h3) h4 fun x hx => hm x (List.mem_cons_of_mem _ hx)
    obtain ⟨u1, u2⟩ := undo (g := m - 2 - c.gap) hs hn h1 (by omega) h3
    have e : run st (c :: cs) = run (step st c) cs := rfl
    rw [e, turn_cons, run_snoc']
    refine ⟨course_snoc i1 (opp_ok h1 (by omega)) ?_ (by rw [poss_perm i2]; exact u1), (step_perm i2).trans u2⟩
    rw [opp_gap]
    cases cs with
    | nil => show (0 : Int) ≤ _; omega
    | cons d ds =>
      rw [turn_cons, lastG_snoc', opp_gap]
      have := h4.2.1
      omega
/-- before k, and from k on -/
theorem course_split {k : Int} : ∀ {cs : List Ch} {st : List D} {g : Int}, course st g cs → ∃ g', cs = cs.filter (fun c => decide (c.gap < k)) ++ cs.filter (fun c => decide (k ≤ c.gap)) ∧ course (run st (cs.filter fun c => decide (c.gap < k))) g' (cs.filter fun c => decide (k ≤ c.gap))
  | [], _, g, _ => ⟨g, rfl, trivial⟩
  | c :: cs, st, g, ⟨h1, h2, h3, h4⟩ => by
    by_cases hk : c.gap < k
    · obtain ⟨g', e1, e2⟩ := course_split (k := k) h4
      refine ⟨g', ?_, ?_⟩
      · rw [List.filter_cons_of_pos (by simpa using hk), List.filter_cons_of_neg (by simp; omega), List.cons_append, ← e1]
      · rw [List.filter_cons_of_pos (by simpa using hk), List.filter_cons_of_neg (by simp; omega)]
        exact e2
    · have hall : ∀ x ∈ c :: cs, k ≤ x.gap := fun x hx => by
        rcases List.mem_cons.mp hx with rfl | hx
        · omega
        · have := (course_le h4 x hx).2; omega
      have f1 : (c :: cs).filter (fun c => decide (c.gap < k)) = [] := List.filter_eq_nil_iff.mpr fun x hx => by have := hall x hx; simp; omega
      have f2 : (c :: cs).filter (fun c => decide (k ≤ c.gap)) = c :: cs := List.filter_eq_self.mpr fun x hx => by simpa using hall x hx
      rw [f1, f2]
      exact ⟨g, rfl, h1, h2, h3, h4⟩
/-- the turned story at the opposite moment -/
theorem turn_at {m k : Int} {cs : List Ch} {st : List D} {g : Int} (hs : allPl st) (hn : st.Nodup) (hc : course st g cs) (hm : ∀ c ∈ cs, c.gap ≤ m - 2) : (stAt (run st cs) (turnCs m cs) (m - 1 - k)).Perm (stAt st cs k) := by
  obtain ⟨g', e1, e2⟩ := course_split (k := k) hc
  have f : (turnCs m cs).filter (fun c => decide (c.gap < m - 1 - k)) = turnCs m (cs.filter fun c => decide (k ≤ c.gap)) := by
    unfold turnCs
    rw [List.filter_reverse, List.filter_map]
    congr 2
    apply List.filter_congr
    intro c _
    show decide ((opp c (m - 2 - c.gap)).gap < m - 1 - k) = _
    rw [opp_gap]
    exact decide_eq_decide.mpr (by omega)
  have h1 : course st g (cs.filter fun c => decide (c.gap < k)) := by
    clear e2 f
    generalize cs.filter (fun c => decide (k ≤ c.gap)) = tl at e1
    generalize cs.filter (fun c => decide (c.gap < k)) = hd at e1
    subst e1
    induction hd generalizing st g with
    | nil => trivial
    | cons c cs ih => exact ⟨hc.1, hc.2.1, hc.2.2.1, ih (step_pl hs hc.1) (step_nodup hs hn hc.1 hc.2.2.1) hc.2.2.2 fun x hx => hm x (List.mem_cons_of_mem _ hx)⟩
  unfold stAt
  rw [f]
  have e3 : run st cs = run (run st (cs.filter fun c => decide (c.gap < k))) (cs.filter fun c => decide (k ≤ c.gap)) := by rw [← run_app, ← e1]
  rw [e3]
  exact (turn_course (m := m) (run_pl hs fun c hc' => course_ok hc c (List.mem_filter.mp hc').1) (run_nodup hs hn h1) e2 fun c hc' => hm c (List.mem_filter.mp hc').1).2
end PL
set_option Elab.async false
set_option linter.all false
set_option maxRecDepth 100000
set_option maxHeartbeats 4000000
/-! DN5: C(k = v, ..) of a class whose __init__ has keyword-only parameters -/
namespace DL
open PySem PySem.Spec L2
section
variable {X : Cx} {F0 : Hp} {W : DW} {pos p kpos : Pos}
theorem run_makeKS {CX : CXT} {C f : Addr} {fd : FuncData} {ps ks : List Str} {k : Nat} {sp : Sp} {g : List Value → List Value → List Value} {gV : List V → List V → List V} {E : XK} {pins : List (Addr × Obj)} {σ : St} {H : Hp} {s : Shared} {Q : VK} {ws : List Value} {zs : List V} (Mk0 : Mk X.K C f) (F : FnOk X.prog X.w X.K X.mg X.base CX k f fd ps sp) (hr : Room (k + 1) X.A) (hb : KBn X.K fd ps 1 ks g gV)
    (hx : PassesAt CX X σ E) (I : Inv X pins σ H s) (rz : Vals zs ws) (lz : zs.length = ks.length)
    (h : ∀ q dx, H q = none → H dx = none → dx ≠ q → sp (gV [.ref q] zs) (upd (upd H dx (.own q)) q (.ins C dx [])) (fun v H2 => v = .non ∧ Q (.ref q) H2) E) :
    wpAny (model X.prog X.w) X.A (call (.ref C) [] (ks.zip ws)) (EP X pins σ Q) X.xe s := by
  generalize hn : s.heap.objs.size = n
  have hq := h (n + 1) n (I.hok.fresh (by rw [hn]; exact Nat.le_succ n)) (I.hok.fresh (Nat.le_of_eq hn)) (Nat.ne_of_lt (Nat.lt_succ_self n))
  have I2 := Inv.made (C := C) I
  rw [hn] at I2
  have r1 : Vals [V.ref (n + 1)] [Value.ref (n + 1)] := .cons rfl .nil
  have r2 := hb.rel r1 rz
  refine wpAny_call (make_map (f := f) I.kIn Mk0.makes Mk0.init (beq_iff_eq.mp Mk0.fn) ?_)
  rw [hn]
  refine codeAny_mono (F.run _ X.stack _ _ ⟨[Value.ref (n + 1)], ks.zip ws⟩ (g [Value.ref (n + 1)] ws) _ _ E (hr.make C [] (ks.zip ws)) (I2.env0.make C [] (ks.zip ws)) (hb.to _ [Value.ref (n + 1)] ws I2.kIn rfl (rz.length.symm.trans lz)) r2 hq) fun rr s' hq' => ?_
  cases rr with
  | error er => exact hx pins _ _ er s' I2 hq'
  | ok fl =>
    cases fl with
    | ret u =>
      obtain ⟨v, H', I3, rv, ev, q3⟩ := I2.after hq'
      subst ev
      exact ⟨rv, ⟨V.ref (n + 1), H', I3, rfl, q3⟩⟩
    | _ => exact False.elim hq'
/-- C(..) by keywords ks promises dsp (of the keywords' values, in their order) -/
structure DMakK (P : Program) (w : World) (K : PySem.W.Frag) (mg : Str → Option Value) (base : Heap) (k : Nat) (x : Str) (ks : List Str) (dsp : DSp) : Prop where
  ex : ∃ (C f : Addr) (fd : FuncData) (ps : List Str) (g : List Value → List Value → List Value) (gV : List V → List V → List V) (gD : List D → List D) (dsp0 : DSp), mg x = some (.ref C) ∧ Mk K C f ∧ DFn P w K mg base k f fd ps dsp0 ∧ KBn K fd ps 1 ks g gV ∧
    (∀ (F : Hp) (q : Addr) (as : List D) (zs : List V), as.length = ks.length → RepL K F as zs → RepL K F (.ref q :: gD as) (gV [.ref q] zs)) ∧
    ∀ as M Q E, dsp as M Q E → as.length = ks.length ∧ ∀ q, M q = none → dsp0 (.ref q :: gD as) (put M q (.ins C [])) (fun v M2 => v = .non ∧ up Q (.ref q) M2) (upX E)
theorem mak_lowK {K : PySem.W.Frag} {dsp0 : DSp} {C : Addr} {F F1 : Hp} {M1 : DM} {H1 : Hp} {δ : DSt} {σ : St} {fulD : Addr → List D} {ful : Addr → List V} {QD : DK} {Q : VK} (e0 : Same F0 F) (e1 : Same F F1) (s : Slots K F δ σ) (m : Meets K F QD Q) (r1 : Rel K F1 M1 H1) (rs : ∀ q, RepL K F1 (fulD q) (ful q))
    (h : ∀ q, M1 q = none → dsp0 (fulD q) (put M1 q (.ins C [])) (fun v M2 => v = .non ∧ up QD (.ref q) M2) (upX (wE W δ))) :
    ∀ q dx, H1 q = none → H1 dx = none → dx ≠ q → lowSp K dsp0 (ful q) (upd (upd H1 dx (.own q)) q (.ins C dx [])) (fun v H2 => v = .non ∧ Q (.ref q) H2) (WE (lowW K F0 W) σ) := fun q dx hq hdx hne =>
  ⟨F1, _, fulD q, _, upX (wE W δ), new_ins r1 hq hdx hne, rs q, h q (r1.free hq), fun d M2 F2 H2 v ⟨hd, hu⟩ e2 r2 rv => by
      subst hd
      unfold Rep at rv
      exact ⟨rv, (m.mono (e1.trans e2)).up _ M2 F2 H2 _ hu (Same.refl F2) r2 rep_ref⟩,
    fun cls d H' ⟨C', fs, M, F2, dx', ws, h1, h2, h3, h4, h5, h6, M', le, h7⟩ => ⟨C', fs, δ, M', F2, dx', ws, h1, h2, e0.trans (e1.trans h3), h4.less le, s.mono (e1.trans h3), h5, h6, h7⟩⟩
theorem dpe_makeK {x : Str} {k : Nat} {ks : List Str} {dsp : DSp} {kws : List Keyword} {t : DTA} (c : Ctx X F0 W) (dm : DMakK X.prog X.w X.K X.mg X.base k x ks dsp) (hr : Room (k + 1) X.A) (ha : DPK X F0 kws t) (hg : Gl X x := by rfl)
    (hall : (backToKw pos (keywordEach kws X.env)).all (·.1.isSome) = true := by rfl) (hks : (backToKw pos (keywordEach kws X.env)).filterMap (·.1) = ks := by rfl) (hdb : (x == ("__debug__" : Str)) = false := by decide)
    (hpl : ((backTo pos (starEach [] X.env)).any (·.1) || (backToKw pos (keywordEach kws X.env)).any (·.1.isNone)) = false := by rfl) : DPE X F0 (.Call (.Name x p) [] kws pos) (dCall dsp W t) := by
  obtain ⟨C, f, fd, ps, g, gV, gD, dsp0, hm, mk, Fn, hb, hrp, im⟩ := dm.ex
  refine ⟨fun pins s σ H Q I h => ?_⟩
  obtain ⟨F, δ, M, QD, e0, r, sl, h, m⟩ := h
  refine wpAny_Call_Name_kw (ld_glob I hg hm ?_ hdb)
  refine PySem.W.callWith_KW0 (h₀ := X.base) I.ok.mod.kin mk.kp hall ?_ hpl
  refine thn (ha.run pos pins s σ H (fun zs H2 => zs.length = ks.length ∧ ∀ q dx, H2 q = none → H2 dx = none → dx ≠ q → lowSp X.K dsp0 (gV [.ref q] zs) (upd (upd H2 dx (.own q)) q (.ins C dx [])) (fun v H3 => v = .non ∧ Q (.ref q) H3) (WE (lowW X.K F0 W) σ)) I
    ⟨F, δ, M, _, e0, r, sl, h, fun as M1 F1 H1 zs q e1 r1 rs => ?_⟩) fun ws s2 ⟨zs, H2, I2, rz, lz, q2⟩ => ⟨I2.kIn, ?_⟩
  · obtain ⟨la, h2⟩ := im _ _ _ _ q
    exact ⟨rs.length.symm.trans la, mak_lowK (fulD := fun q => .ref q :: gD as) (ful := fun q => gV [.ref q] zs) e0 e1 sl m r1 (fun q => hrp F1 q as zs la rs) h2⟩
  · rw [hks]
    exact run_makeKS (E := WE (lowW X.K F0 W) σ) mk Fn hr hb (passW c σ) I2 rz lz q2
/-- C() -/
theorem dpe_makeK0 {x : Str} {k : Nat} {dsp : DSp} (c : Ctx X F0 W) (dm : DMakK X.prog X.w X.K X.mg X.base k x [] dsp) (hr : Room (k + 1) X.A) (hg : Gl X x := by rfl) (hdb : (x == ("__debug__" : Str)) = false := by decide) : DPE X F0 (.Call (.Name x p) [] [] pos) (dCall dsp W dNil) := by
  obtain ⟨C, f, fd, ps, g, gV, gD, dsp0, hm, mk, Fn, hb, hrp, im⟩ := dm.ex
  refine ⟨fun pins s σ H Q I h => ?_⟩
  obtain ⟨F, δ, M, QD, e0, r, sl, h, m⟩ := h
  refine wpAny_Call_Name_kw (ld_glob I hg hm ?_ hdb)
  obtain ⟨la, h2⟩ := im _ _ _ _ h
  exact PySem.W.callWith_K0 I.kIn mk.kp (run_makeKS (ws := []) (zs := []) (E := WE (lowW X.K F0 W) σ) mk Fn hr hb (passW c σ) I .nil rfl (mak_lowK (fulD := fun q => .ref q :: gD []) (ful := fun q => gV [.ref q] []) e0 (Same.refl F) sl m r (fun q => hrp F q [] [] la RepL.nil) h2))
end
end DL
set_option Elab.async false
set_option linter.all false
set_option maxRecDepth 100000
set_option maxHeartbeats 4000000
/-! DN6: glue for keyword-only making; a, b, c = x, y, z; a tuple let go with the list in it -/
namespace DL
open PySem PySem.Spec L2
theorem FrzTo.tup2 {M : DM} {p : Addr} {d : D} {xs : List D} (h : M p = some (.lst xs)) : FrzTo M (.tup [d, .ref p]) (drp M p) (.tup [d, .lst xs]) := fun K F H v r x => by
  unfold Rep at x
  obtain ⟨a, vs, rfl, hs, rl⟩ := x
  obtain ⟨v1, vr, rfl, h1, rl⟩ := rl.consV
  obtain ⟨v2, vr, rfl, h2, rl⟩ := rl.consV
  have := rl.nilV
  subst this
  obtain ⟨F', s1, s2, s3⟩ := FrzTo.lst h K F H v2 r h2
  refine ⟨F', s1, s2, ?_⟩
  unfold Rep
  exact ⟨a, [v1, v2], rfl, SqT_mono s1 hs, RepL.cons (h1.mono s1) (RepL.cons s3 RepL.nil)⟩
theorem FrzTo.tup2P {M : DM} {p : Addr} {d : D} {xs : List D} (h : M p = none) : FrzTo (DL.put M p (.lst xs)) (.tup [d, .ref p]) M (.tup [d, .lst xs]) := by
  have := FrzTo.tup2 (M := DL.put M p (.lst xs)) (p := p) (d := d) (xs := xs) put_same
  rwa [drp_put h] at this
section
variable {X : Cx} {F0 : Hp} {pos : Pos}
@[simp] def dPar3 (i j l : Nat) (t : DTA) : DTS := fun D δ M => t δ M fun ds M1 => match ds with
  | [d, d', d''] => D.nx (((δ.set i (some d)).set j (some d')).set l (some d'')) M1
  | _ => False
theorem ds_par3 {x y z : Str} {a b c : Expr} {t : DTA} {px py pz pt : Pos} {kt k2 pt2} (i j l : Nat) (hc : X.calm = true) (hN : X.N.Nodup) (ha : DPA X F0 [a, b, c] t) (hi : X.N[i]? = some x := by rfl) (hj : X.N[j]? = some y := by rfl) (hl : X.N[l]? = some z := by rfl) (hij : i ≠ j := by decide) (hil : i ≠ l := by decide) (hjl : j ≠ l := by decide)
    (hx : X.env.scope.names.lookup x = some .local := by rfl) (hy : X.env.scope.names.lookup y = some .local := by rfl) (hz : X.env.scope.names.lookup z = some .local := by rfl)
    (hw : swappedStores [.Tuple [.Name x px, .Name y py, .Name z pz] kt pt] (.Tuple [a, b, c] k2 pt2) X.env = pure (some [x, y, z]) := by rfl)
    (hs : swapsWithSole [.Tuple [.Name x px, .Name y py, .Name z pz] kt pt] (.Tuple [a, b, c] k2 pt2) pos.line X.env = pure false := by rfl) :
    DPS X F0 (.Assign [.Tuple [.Name x px, .Name y py, .Name z pz] kt pt] (.Tuple [a, b, c] k2 pt2) pos) (dPar3 i j l t) :=
  PS.imp (ps_par3 (i := i) (j := j) (l := l) hc hN hi hj hl hij hil hjl hx hy hz ha hw hs) fun E σ H ⟨F, δ, M, DD, e0, r, s, h, m⟩ => ⟨F, δ, M, _, e0, r, s, h, fun ds M1 F1 H1 vs q e1 r1 rs => by
    match ds, q with
    | [d, d', d''], q =>
      obtain ⟨v, vr, rfl, h1, rs⟩ := rs.consV
      obtain ⟨w, vr, rfl, h2, rs⟩ := rs.consV
      obtain ⟨u, vr, rfl, h3, rs⟩ := rs.consV
      have := rs.nilV
      subst this
      exact ⟨v, w, u, rfl, m.nx _ M1 F1 _ H1 q e1 r1 ((((s.mono e1).set (d := some d) (v := some v) h1 i).set (d := some d') (v := some w) h2 j).set (d := some d'') (v := some u) h3 l)⟩⟩
end
end DL
namespace DH
open PySem PySem.Spec PyProof.Rows PySem.W L2 DL
section
variable {P : Program} {w : World} {K : Frag} {mg : Str → Option Value} {base : Heap} {k : Nat} {x q m : Str} {pa : Arguments} {bo : List Stmt} {sc : Scope} {kws : List (Str × V)} {f C : Addr} {ps : List Str} {dsp : DSp}
/-- a def with keyword-only parameters keeps its promise -/
def KeepsK (P : Program) (w : World) (K : Frag) (mg : Str → Option Value) (base : Heap) (k : Nat) (x q : Str) (pa : Arguments) (bo : List Stmt) (sc : Scope) (kws : List (Str × V)) (f : Addr) (ps : List Str) (dsp : DSp) : Prop :=
  ∃ fd, FunD K x q pa bo sc [] kws f fd ∧ DFn P w K mg base k f fd ps dsp
theorem KeepsK.makK {dsp' : DSp} (ks : List Str) (ms : List (Str × V)) (g : {α : Type} → List α → List α → List α → List α) (gD : List D → List D) (h : KeepsK P w K mg base k "__init__" q pa bo sc kws f ps dsp) (hk : kws ≠ []) (hms : ∀ q ∈ ms, q ∈ kws)
    (hrel : ∀ {vs mz zs : List V} {us mv ws : List Value}, Vals vs us → Vals mz mv → Vals zs ws → Vals (g vs mz zs) (g us mv ws))
    (hb : ∀ (D : Addr) (doc pm : Value) (an : Option Addr) (cdv ct : Value) (us mv ws : List Value), us.length = 1 → mv.length = ms.length → ws.length = ks.length →
      KwChain D ((ms.map (·.1)).zip mv) (bindArgs (PySem.W.fnOf "__init__" q pa bo sc .none (.ref D) doc pm an cdv ct) ⟨us, ks.zip ws⟩) (ps.zip (g us mv ws)))
    (hg : ∀ (F : Hp) (q : Addr) (as : List D) (zs : List V), as.length = ks.length → RepL K F as zs → RepL K F (.ref q :: gD as) (g [.ref q] (ms.map (·.2)) zs))
    (hm : mg x = some (.ref C)) (hmk : Mk K C f)
    (hl : ∀ as M Q E, dsp' as M Q E → as.length = ks.length ∧ ∀ q, M q = none → dsp (.ref q :: gD as) (put M q (.ins C [])) (fun v M2 => v = .non ∧ up Q (.ref q) M2) (upX E)) : DMakK P w K mg base k x ks dsp' := by
  obtain ⟨fd, F, D⟩ := h
  obtain ⟨mv, B⟩ := F.kbinds0 1 ks ms g hk hms hrel hb
  exact ⟨C, f, fd, ps, _, _, gD, dsp, hm, hmk, D, B, hg, hl⟩
end
end DH
set_option Elab.async false
set_option linter.all false
set_option maxRecDepth 100000
set_option maxHeartbeats 4000000
/-! PT4: pairs of places, rules (plain) -/
namespace PL
open PySem PySem.Spec PyProof.Rows L2 DL DS
abbrev Pr := D × D
def pd (p : Pr) : D := .tup [p.1, p.2]
def pok (p : Pr) : Prop := isPl p.1 = true ∧ isPl p.2 = true
def allPr (ps : List Pr) : Prop := ∀ p ∈ ps, pok p
abbrev pds (ps : List Pr) : List D := ps.map pd
def swp (p : Pr) : Pr := (p.2, p.1)
def fo : D → D
  | .tup (x :: _) => x
  | _ => .non
def near (w : Bool) (p : Pr) : Bool := !eqD p.1 p.2 && (w || eqD (fo p.1) (fo p.2))
def alw (w : Bool) (ps : List Pr) (p : Pr) : Bool := near w p && !inD (pd p) (pds ps)
theorem pd_inj {p q : Pr} (h : pd p = pd q) : p = q := by
  obtain ⟨a, b⟩ := p
  obtain ⟨c, d⟩ := q
  simp [pd] at h
  rw [h.1, h.2]
theorem pok_kp {p : Pr} {n : Nat} (h : pok p) : kp (n + 2) (pd p) = true := by
  simp [pd, kp, isPl_kp (n := n) h.1, isPl_kp (n := n) h.2]
theorem pok_lay {p : Pr} {n : Nat} (h : pok p) : lay (n + 2) (pd p) = true := kp_lay (pok_kp h)
theorem pok_like {p q : Pr} (h : pok p) (h' : pok q) : like (pd p) (pd q) = true := by
  simp [pd, like, likeL, isPl_like h.1 h'.1, isPl_like h.2 h'.2]
theorem pds_lay {ps : List Pr} {n : Nat} (h : allPr ps) : (pds ps).all (lay (n + 2)) = true := List.all_eq_true.mpr fun x hx => by
  obtain ⟨p, hp, rfl⟩ := List.mem_map.mp hx
  exact pok_lay (h p hp)
theorem pds_kp {ps : List Pr} {n : Nat} (h : allPr ps) : (pds ps).all (kp (n + 2)) = true := List.all_eq_true.mpr fun x hx => by
  obtain ⟨p, hp, rfl⟩ := List.mem_map.mp hx
  exact pok_kp (h p hp)
theorem lay_lst {ps : List Pr} (h : allPr ps) : lay 60 (.lst (pds ps)) = true := pds_lay (n := 57) h
theorem lay_tup {ps : List Pr} (h : allPr ps) : lay 60 (.tup (pds ps)) = true := pds_lay (n := 57) h
theorem pds_alike {ps : List Pr} (h : allPr ps) : alikeD (pds ps) := fun x hx y hy => by
  obtain ⟨p, hp, rfl⟩ := List.mem_map.mp hx
  obtain ⟨q, hq, rfl⟩ := List.mem_map.mp hy
  exact pok_like (h p hp) (h q hq)
theorem mem_pds {p : Pr} {ps : List Pr} : pd p ∈ pds ps ↔ p ∈ ps := by
  refine ⟨fun h => ?_, fun h => List.mem_map.mpr ⟨p, h, rfl⟩⟩
  obtain ⟨q, hq, e⟩ := List.mem_map.mp h
  rw [← pd_inj e]; exact hq
theorem in_pds {p : Pr} {ps : List Pr} (h : pok p) (hs : allPr ps) : inD (pd p) (pds ps) = true ↔ p ∈ ps := by
  unfold inD
  rw [List.any_eq_true]
  refine ⟨fun ⟨x, hx, e⟩ => ?_, fun hp => ⟨pd p, mem_pds.mpr hp, eqD_kpR (pok_kp (n := 0) h)⟩⟩
  obtain ⟨q, hq, rfl⟩ := List.mem_map.mp hx
  rw [pd_inj ((eqD_iff (pok_kp (n := 0) (hs q hq)) (pok_kp (n := 0) h)).mp e)] at hq
  exact hq
theorem alw_iff {w : Bool} {p : Pr} {ps : List Pr} (h : pok p) (hs : allPr ps) : alw w ps p = true ↔ near w p = true ∧ p ∉ ps := by
  unfold alw
  rw [Bool.and_eq_true, Bool.not_eq_true', ← Bool.not_eq_true, in_pds h hs]
theorem alw_nil {w : Bool} {p : Pr} : alw w [] p = near w p := by simp [alw, inD]
theorem near_and {a b : Bool} {p : Pr} : near (a && b) p = true ↔ near a p = true ∧ near b p = true := by
  unfold near; generalize eqD p.1 p.2 = x; generalize eqD (fo p.1) (fo p.2) = y; revert a b x y; decide
theorem near_or {a b : Bool} {p : Pr} : near (a || b) p = true ↔ near a p = true ∨ near b p = true := by
  unfold near; generalize eqD p.1 p.2 = x; generalize eqD (fo p.1) (fo p.2) = y; revert a b x y; decide
theorem near_le {a b : Bool} {p : Pr} (h : a = true → b = true) (n : near a p = true) : near b p = true := by
  revert n h; unfold near; generalize eqD p.1 p.2 = x; generalize eqD (fo p.1) (fo p.2) = y; revert a b x y; decide
theorem eqD_sym {a b : D} (h : isPl a = true) (h' : isPl b = true) : eqD a b = eqD b a := by
  rw [Bool.eq_iff_iff, eqD_pl h h', eqD_pl h' h]
  exact eq_comm
theorem fo_sym {a b : D} (h : isPl a = true) (h' : isPl b = true) : eqD (fo a) (fo b) = eqD (fo b) (fo a) := by
  obtain ⟨x, y, rfl, _⟩ := isPl_ex h
  obtain ⟨z, u, rfl, _⟩ := isPl_ex h'
  simp only [fo]
  rw [Bool.eq_iff_iff, eqD_iff (n := 0) (m := 0) rfl rfl, eqD_iff (n := 0) (m := 0) rfl rfl]
  exact eq_comm
theorem near_swp {w : Bool} {p : Pr} (h : pok p) : near w (swp p) = near w p := by
  unfold near swp
  simp only
  rw [eqD_sym h.2 h.1, fo_sym h.2 h.1]
theorem swp_ok {p : Pr} (h : pok p) : pok (swp p) := ⟨h.2, h.1⟩
@[simp] theorem swp_swp {p : Pr} : swp (swp p) = p := rfl
theorem mem_swp {p : Pr} {ps : List Pr} : p ∈ ps.map swp ↔ swp p ∈ ps := by
  refine ⟨fun h => ?_, fun h => List.mem_map.mpr ⟨_, h, rfl⟩⟩
  obtain ⟨q, hq, rfl⟩ := List.mem_map.mp h
  exact hq
theorem allPr_app {xs ys : List Pr} (h : allPr xs) (h' : allPr ys) : allPr (xs ++ ys) := fun x hx => (List.mem_append.mp hx).elim (h x) (h' x)
theorem allPr_fil {xs : List Pr} {f : Pr → Bool} (h : allPr xs) : allPr (xs.filter f) := fun x hx => h x (List.mem_filter.mp hx).1
theorem allPr_swp {xs : List Pr} (h : allPr xs) : allPr (xs.map swp) := fun x hx => by
  have := h _ (mem_swp.mp hx)
  exact swp_ok (p := swp x) this
/-- ys: what rules made of ps keep -/
structure Rl (w : Bool) (ps ys : List Pr) : Prop where
  asc : (pds ys).Pairwise fun a b => ltD a b = true
  mem : ∀ p, p ∈ ys ↔ p ∈ ps ∧ near w p = true
section
variable {w w' : Bool} {ps ps' ys ys' : List Pr}
theorem Rl.ok (h : Rl w ps ys) (hp : allPr ps) : allPr ys := fun p hy => hp p ((h.mem p).mp hy).1
theorem pds_eq (h : pds ys = pds ys') : ys = ys' := (List.map_inj_right fun _ _ e => pd_inj e).mp h
theorem Rl.uniq (h : Rl w ps ys) (h' : Rl w' ps' ys') (hp : allPr ps) (hp' : allPr ps') (e : ∀ p, pok p → (p ∈ ps ∧ near w p = true ↔ p ∈ ps' ∧ near w' p = true)) : ys = ys' := by
  refine pds_eq (asc_unique ?_ h.asc h'.asc fun d => ?_)
  · rw [← List.map_append]
    exact pds_alike (allPr_app (h.ok hp) (h'.ok hp'))
  · have go : ∀ p, p ∈ ys ↔ p ∈ ys' := fun p => by
      rw [h.mem, h'.mem]
      refine ⟨fun q => (e p (hp p q.1)).mp q, fun q => (e p (hp' p q.1)).mpr q⟩
    refine ⟨fun hd => ?_, fun hd => ?_⟩ <;> obtain ⟨p, hp, rfl⟩ := List.mem_map.mp hd
    · exact mem_pds.mpr ((go p).mp hp)
    · exact mem_pds.mpr ((go p).mpr hp)
theorem Rl.nodup (h : Rl w ps ys) (hp : allPr ps) : ys.Nodup := by
  have k := h.ok hp
  have a : ys.Pairwise fun a b => ltD (pd a) (pd b) = true := List.pairwise_map.mp h.asc
  refine a.imp_of_mem fun {x y} hx hy z e => ?_
  subst e
  rw [ltD_irrefl (pok_like (k x hx) (k x hx))] at z
  cases z
theorem nodup_sub {α : Type} : ∀ {xs ys : List α}, xs.Nodup → (∀ x ∈ xs, x ∈ ys) → xs.length ≤ ys.length
  | [], _, _, _ => Nat.zero_le _
  | x :: xs, ys, h, s => by
    obtain ⟨a, b, e⟩ := List.append_of_mem (s x (List.mem_cons_self ..))
    subst e
    have h' := List.nodup_cons.mp h
    have := nodup_sub (xs := xs) (ys := a ++ b) h'.2 fun y hy => by
      have q := s y (List.mem_cons_of_mem _ hy)
      rw [List.mem_append, List.mem_cons] at q
      rw [List.mem_append]
      rcases q with q | rfl | q
      · exact .inl q
      · exact absurd hy h'.1
      · exact .inr q
    simp only [List.length_append, List.length_cons] at this ⊢
    omega
theorem Rl.len (h : Rl w ps ys) (hp : allPr ps) : ys.length ≤ ps.length := nodup_sub (h.nodup hp) fun x hx => ((h.mem x).mp hx).1
theorem Rl.alw (h : Rl w ps ys) (hp : allPr ps) {p : Pr} (ho : pok p) : alw w ys p = alw w ps p := by
  rw [Bool.eq_iff_iff, alw_iff ho (h.ok hp), alw_iff ho hp, h.mem]
  exact ⟨fun q => ⟨q.1, fun z => q.2 ⟨z, q.1⟩⟩, fun q => ⟨q.1, fun z => q.2 z.1⟩⟩
theorem lift_pds {zs : List D} (h : ∀ d ∈ zs, ∃ p, d = pd p) : ∃ ys, zs = pds ys := by
  induction zs with
  | nil => exact ⟨[], rfl⟩
  | cons z zs ih =>
    obtain ⟨p, rfl⟩ := h z (List.mem_cons_self ..)
    obtain ⟨ys, rfl⟩ := ih fun d hd => h d (List.mem_cons_of_mem _ hd)
    exact ⟨p :: ys, rfl⟩
/-- what sorted(set(..)) promises -/
theorem Rl.of {zs : List D} (a : zs.Pairwise fun a b => ltD a b = true) (m : ∀ d, d ∈ zs ↔ d ∈ pds (ps.filter (near w))) : ∃ ys, zs = pds ys ∧ Rl w ps ys := by
  obtain ⟨ys, rfl⟩ := lift_pds (zs := zs) fun d hd => by
    obtain ⟨p, _, rfl⟩ := List.mem_map.mp ((m d).mp hd)
    exact ⟨p, rfl⟩
  refine ⟨ys, rfl, a, fun p => ?_⟩
  rw [← mem_pds, m, mem_pds, List.mem_filter]
theorem pds_sk {ps : List Pr} (h : allPr ps) (hl : ps.length < 64) : Sk (pds ps) :=
  ⟨List.all_eq_true.mpr fun x hx => by
    obtain ⟨p, hp, rfl⟩ := List.mem_map.mp hx
    rw [pok_kp (n := 6) (h p hp)]; rfl, pds_alike h, fun x hx => by
    obtain ⟨p, hp, rfl⟩ := List.mem_map.mp hx
    exact ⟨_, _, rfl⟩, by rw [List.length_map]; exact hl⟩
theorem eqL_pds (h : allPr ys) (h' : allPr ys') : eqL (pds ys) (pds ys') = true ↔ ys = ys' := by
  refine ⟨fun e => pds_eq (eqL_kp (n := 2) (m := 2) (fun x hx => List.all_eq_true.mp (pds_kp (n := 0) h) x hx) (fun x hx => List.all_eq_true.mp (pds_kp (n := 0) h') x hx) e), fun e => ?_⟩
  subst e
  exact PL.eqL_refl (pds_lay (n := 0) h)
/-- the same rules? -/
def same (w w' : Bool) (ys ys' : List Pr) : Bool := w == w' && eqL (pds ys) (pds ys')
theorem same_iff (h : allPr ys) (h' : allPr ys') : same w w' ys ys' = true ↔ w = w' ∧ ys = ys' := by
  unfold same
  rw [Bool.and_eq_true, eqL_pds h h', beq_iff_eq]
/-- does the one lie within the other? -/
def wthn (w1 w2 : Bool) (y1 y2 : List Pr) : Bool := !(w1 && !w2) && (y2.filter (PL.alw w1 y1)).isEmpty
end
end PL
set_option Elab.async false
set_option linter.all false
set_option maxRecDepth 100000
set_option maxHeartbeats 4000000
/-! DQ1: {}; == and != of values that hold what is written (the same things on both sides) -/
namespace DL
open PySem PySem.Spec L2
open PySem.SeqAt (EqAt RcAt RcNeAt)
section
variable {X : Cx} {F0 : Hp} {pos : Pos}
@[simp] def dDict0 : DTE := fun _ M Q => ∀ p, M p = none → Q (.ref p) (put M p (.dK []))
theorem dpe_dict0 : DPE X F0 (.Dict [] [] pos) dDict0 :=
  PE.imp pe_dnewK fun σ H Q ⟨F, δ, M, QD, e0, r, s, h, m⟩ => fun p hp => m _ _ F _ _ (h p (r.free hp)) (Same.refl F) (r.new hp ⟨[], rfl, .nil⟩) rep_ref
end
def rs : Nat → DM → D → D
  | 0, _, d => d
  | n + 1, M, .ref p => match M p with
    | some (.lst xs) => .lst (xs.map (rs n M))
    | _ => .ref p
  | n + 1, M, .lst xs => .lst (xs.map (rs n M))
  | n + 1, M, .tup xs => .tup (xs.map (rs n M))
  | _ + 1, _, d => d
theorem rsL_rep {K : PySem.W.Frag} {H F : Hp} {f : D → D} (h : ∀ d v, Rep K F d v → Rep K H (f d) v) : ∀ {xs : List D} {vs : List V}, RepL K F xs vs → RepL K H (xs.map f) vs
  | [], _, r => by
    have := r.nilV
    subst this
    exact RepL.nil
  | x :: xs, _, r => by
    obtain ⟨v, vr, rfl, r1, r2⟩ := r.consV
    exact RepL.cons (h x v r1) (rsL_rep h r2)
theorem rs_rep {K : PySem.W.Frag} {F H : Hp} {M : DM} (r : Rel K F M H) : ∀ (n : Nat) (d : D) (v : V), Rep K F d v → Rep K H (rs n M d) v
  | 0, d, v, h => h.mono r.sub
  | n + 1, .ref p, v, h => by
    unfold rs
    split
    · rename_i xs e
      obtain ⟨_, o, ho, vs, rfl, q⟩ := r.mr p _ e
      unfold Rep at h ⊢
      exact ⟨p, vs, h, ho, rsL_rep (rs_rep r n) q⟩
    · exact h.mono r.sub
  | n + 1, .lst xs, v, h => by
    unfold rs
    unfold Rep at h ⊢
    obtain ⟨a, vs, h1, h2, h3⟩ := h
    exact ⟨a, vs, h1, r.sub _ _ h2, rsL_rep (rs_rep r n) h3⟩
  | n + 1, .tup xs, v, h => by
    unfold rs
    unfold Rep at h ⊢
    obtain ⟨a, vs, h1, h2, h3⟩ := h
    exact ⟨a, vs, h1, SqT_mono r.sub h2, rsL_rep (rs_rep r n) h3⟩
  | n + 1, .non, v, h => h.mono r.sub
  | n + 1, .bl _, v, h => h.mono r.sub
  | n + 1, .int _, v, h => h.mono r.sub
  | n + 1, .str _, v, h => h.mono r.sub
  | n + 1, .ty _, v, h => h.mono r.sub
  | n + 1, .ins _ _ _, v, h => h.mono r.sub
  | n + 1, .scr _, v, h => h.mono r.sub
/-- data that may hold what is written -/
def layR : Nat → D → Bool
  | _, .non => true
  | _, .bl _ => true
  | _, .int _ => true
  | _, .str _ => true
  | _, .ref _ => true
  | n + 1, .lst xs => xs.all (layR n)
  | n + 1, .tup xs => xs.all (layR n)
  | _, _ => false
def isRefD : D → Bool
  | .ref _ => true
  | _ => false
mutual
def AtR (h : Heap) : D → Value → Prop
  | .non, u => u = .none
  | .bl b, u => u = .bool b
  | .int i, u => ∃ t, u = .int i t
  | .str x, u => ∃ t, u = .str x t
  | .ref a, u => u = .ref a
  | .lst xs, u => ∃ p its, u = .ref p ∧ h.IsList p its ∧ AtRL h xs its.toList
  | .tup xs, u => ∃ p its, u = .ref p ∧ h.IsTuple p its ∧ AtRL h xs its.toList
  | _, _ => False
def AtRL (h : Heap) : List D → List Value → Prop
  | [], us => us = []
  | x :: xs, us => ∃ u r, us = u :: r ∧ AtR h x u ∧ AtRL h xs r
end
theorem AtRL.length {h : Heap} : ∀ {xs : List D} {us : List Value}, AtRL h xs us → xs.length = us.length
  | [], _, e => by unfold AtRL at e; subst e; rfl
  | _ :: xs, _, e => by
    unfold AtRL at e
    obtain ⟨u, r, rfl, _, e⟩ := e
    simp [AtRL.length e]
mutual
theorem atR_of {X : Cx} {pins : List (Addr × Obj)} {σ : St} {H : Hp} {s : Shared} (I : Inv X pins σ H s) : ∀ {d : D} {n : Nat} {v : V} {u : Value}, layR n d = true → Rep X.K H d v → RelV v u → AtR s.heap d u
  | .non, _, _, _, _, r, q => by unfold Rep at r; subst r; exact q
  | .bl _, _, _, _, _, r, q => by unfold Rep at r; subst r; exact q
  | .int _, _, _, _, _, r, q => by unfold Rep at r; subst r; exact q
  | .str _, _, _, _, _, r, q => by unfold Rep at r; subst r; exact q
  | .ref _, _, _, _, _, r, q => by unfold Rep at r; subst r; exact q
  | .lst xs, n + 1, _, _, l, r, q => by
    unfold Rep at r
    obtain ⟨a, vs, rfl, h2, h3⟩ := r
    obtain ⟨its, rv, pl, _⟩ := I.list (SqL.of h2)
    unfold AtR
    exact ⟨a, its.toArray, q, pl.isList, by simpa using atRL_of I (fun x hx => List.all_eq_true.mp (show xs.all (layR n) = true from l) x hx) h3 rv⟩
  | .tup xs, n + 1, _, _, l, r, q => by
    unfold Rep at r
    obtain ⟨a, vs, rfl, h2, h3⟩ := r
    obtain ⟨its, rv, pl, _⟩ := I.tuple h2
    unfold AtR
    exact ⟨a, its.toArray, q, pl, by simpa using atRL_of I (fun x hx => List.all_eq_true.mp (show xs.all (layR n) = true from l) x hx) h3 rv⟩
  | .lst _, 0, _, _, l, _, _ => by simp [layR] at l
  | .tup _, 0, _, _, l, _, _ => by simp [layR] at l
  | .ty _, n, _, _, l, _, _ => by cases n <;> simp [layR] at l
  | .ins _ _ _, n, _, _, l, _, _ => by cases n <;> simp [layR] at l
  | .scr _, n, _, _, l, _, _ => by cases n <;> simp [layR] at l
theorem atRL_of {X : Cx} {pins : List (Addr × Obj)} {σ : St} {H : Hp} {s : Shared} (I : Inv X pins σ H s) : ∀ {xs : List D} {n : Nat} {vs : List V} {us : List Value}, (∀ x ∈ xs, layR n x = true) → RepL X.K H xs vs → Vals vs us → AtRL s.heap xs us
  | [], _, _, _, _, r, q => by
    have := r.nilV
    subst this
    cases q
    unfold AtRL; rfl
  | x :: xs, n, _, _, l, r, q => by
    obtain ⟨v, vr, rfl, r1, r2⟩ := r.consV
    cases q with
    | cons q1 q2 =>
      unfold AtRL
      exact ⟨_, _, rfl, atR_of I (l x (by simp)) r1 q1, atRL_of I (fun y hy => l y (by simp [hy])) r2 q2⟩
end
theorem all_true (n : Nat) : (List.range n).all (fun _ => true) = true := List.all_eq_true.mpr fun _ _ => rfl
mutual
/-- the same data on both sides are equal -/
theorem refl_at : ∀ {d : D} {n : Nat} {A : Around} {s : Shared} {u w : Value}, AtR s.heap d u → AtR s.heap d w → layR n d = true → A.units + n < cLine → EqAt A s u w true ∧ (isRefD d = false → RcAt A s u w true ∧ RcNeAt A s u w false)
  | .non, n, A, s, u, w, a, b, _, hu => by unfold AtR at a b; subst a; subst b; exact ⟨.same _, fun _ => ⟨.none_none, RcNeAt.none_none⟩⟩
  | .bl k, n, A, s, u, w, a, b, _, hu => by
    unfold AtR at a b; subst a; subst b
    refine ⟨.same _, fun _ => ⟨?_, ?_⟩⟩
    · simpa using RcAt.bool_bool (A := A) (s := s) k k
    · simpa using RcNeAt.bool_bool (A := A) (s := s) k k
  | .int k, n, A, s, u, w, a, b, _, hu => by
    unfold AtR at a b; obtain ⟨t, rfl⟩ := a; obtain ⟨t', rfl⟩ := b
    have h := eq_at (d := .int k) (e := .int k) (n := n) (A := A) (s := s) (by unfold At; exact ⟨t, rfl⟩) (by unfold At; exact ⟨t', rfl⟩) (by cases n <;> rfl) (by cases n <;> rfl) hu
    have h' := ne_at (d := .int k) (e := .int k) (n := n) (A := A) (s := s) (by unfold At; exact ⟨t, rfl⟩) (by unfold At; exact ⟨t', rfl⟩) (by cases n <;> rfl) (by cases n <;> rfl) hu
    rw [show eqD (.int k) (.int k) = true by simp [eqD]] at h h'
    exact ⟨h.2, fun _ => ⟨h.1, h'⟩⟩
  | .str k, n, A, s, u, w, a, b, _, hu => by
    unfold AtR at a b; obtain ⟨t, rfl⟩ := a; obtain ⟨t', rfl⟩ := b
    have h := eq_at (d := .str k) (e := .str k) (n := n) (A := A) (s := s) (by unfold At; exact ⟨t, rfl⟩) (by unfold At; exact ⟨t', rfl⟩) (by cases n <;> rfl) (by cases n <;> rfl) hu
    have h' := ne_at (d := .str k) (e := .str k) (n := n) (A := A) (s := s) (by unfold At; exact ⟨t, rfl⟩) (by unfold At; exact ⟨t', rfl⟩) (by cases n <;> rfl) (by cases n <;> rfl) hu
    rw [show eqD (.str k) (.str k) = true by simp [eqD]] at h h'
    exact ⟨h.2, fun _ => ⟨h.1, h'⟩⟩
  | .ref k, n, A, s, u, w, a, b, _, hu => by unfold AtR at a b; subst a; subst b; exact ⟨.same _, fun h => by cases h⟩
  | .lst xs, 0, A, s, u, w, a, b, ld, hu => by simp [layR] at ld
  | .tup xs, 0, A, s, u, w, a, b, ld, hu => by simp [layR] at ld
  | .lst xs, n + 1, A, s, u, w, a, b, ld, hu => by
    unfold AtR at a b
    obtain ⟨p0, i0, rfl, h0, a⟩ := a
    obtain ⟨p1, i1, rfl, h1, b⟩ := b
    have n1 := a.length
    have n2 := b.length
    simp only [Array.length_toList] at n1 n2
    have go : ∀ j (h1 : j < i0.size) (h2 : j < i1.size), EqAt A.in1 s i0[j] i1[j] true := fun j q1 q2 => refl_atL a b (fun x hx => List.all_eq_true.mp (show xs.all (layR n) = true from ld) x hx) (show A.in1.units + n < cLine by show A.units + 1 + n < cLine; omega) j (by simpa using q1) (by simpa using q2)
    have rc := RcAt.lists (e := fun _ => true) h0 h1 (by omega) (by omega) go
    have rn := RcNeAt.lists (e := fun _ => true) h0 h1 (by omega) (by omega) go
    rw [all_true] at rc rn
    refine ⟨?_, fun _ => ⟨rc, rn⟩⟩
    by_cases hp : p0 = p1
    · subst hp; exact .same _
    · exact .of_refs hp rc
  | .tup xs, n + 1, A, s, u, w, a, b, ld, hu => by
    unfold AtR at a b
    obtain ⟨p0, i0, rfl, h0, a⟩ := a
    obtain ⟨p1, i1, rfl, h1, b⟩ := b
    have n1 := a.length
    have n2 := b.length
    simp only [Array.length_toList] at n1 n2
    have go : ∀ j (h1 : j < i0.size) (h2 : j < i1.size), EqAt A.in1 s i0[j] i1[j] true := fun j q1 q2 => refl_atL a b (fun x hx => List.all_eq_true.mp (show xs.all (layR n) = true from ld) x hx) (show A.in1.units + n < cLine by show A.units + 1 + n < cLine; omega) j (by simpa using q1) (by simpa using q2)
    have rc := RcAt.tuples (e := fun _ => true) h0 h1 (by omega) go
    have rn := RcNeAt.tuples (e := fun _ => true) h0 h1 (by omega) go
    have ee : (i0.size == i1.size) = true := by simp; omega
    rw [all_true, ee] at rc rn
    refine ⟨?_, fun _ => ⟨rc, rn⟩⟩
    by_cases hp : p0 = p1
    · subst hp; exact .same _
    · exact .of_refs hp rc
  | .ty _, n, _, _, _, _, _, _, l, _ => by cases n <;> simp [layR] at l
  | .ins _ _ _, n, _, _, _, _, _, _, l, _ => by cases n <;> simp [layR] at l
  | .scr _, n, _, _, _, _, _, _, l, _ => by cases n <;> simp [layR] at l
theorem refl_atL : ∀ {xs : List D} {n : Nat} {A : Around} {s : Shared} {us ws : List Value}, AtRL s.heap xs us → AtRL s.heap xs ws → (∀ x ∈ xs, layR n x = true) → A.units + n < cLine →
    ∀ j (h1 : j < us.length) (h2 : j < ws.length), EqAt A s us[j] ws[j] true
  | [], n, A, s, us, ws, a, b, la, hu, j, h1, h2 => by unfold AtRL at a; subst a; simp at h1
  | x :: xs, n, A, s, us, ws, a, b, la, hu, j, h1, h2 => by
    unfold AtRL at a b
    obtain ⟨u, r, rfl, a1, a2⟩ := a
    obtain ⟨w, q, rfl, b1, b2⟩ := b
    cases j with
    | zero => exact (refl_at a1 b1 (la x (by simp)) hu).1
    | succ j =>
      have := refl_atL a2 b2 (fun z hz => la z (by simp [hz])) hu j (by simpa using h1) (by simpa using h2)
      simpa using this
end
section
variable {X : Cx} {F0 : Hp}
/-- the same data, what is written looked up -/
def sameD (M : DM) (x y : D) : Prop := rs 20 M x = rs 20 M y ∧ layR 60 (rs 20 M x) = true ∧ isRefD (rs 20 M x) = false
def dEqS : D2 := fun x y M Q => dEq x y M Q ∨ (sameD M x y ∧ Q (.bl true) M)
def dNeS : D2 := fun x y M Q => dNe x y M Q ∨ (sameD M x y ∧ Q (.bl false) M)
theorem op_deqR' (hu : X.A.units + 64 < cLine) : DOp X F0 (compareOp .Eq) dEqS := by
  intro pins s σ H x y v u Q I rx ry h
  obtain ⟨F, M, dx, dy, QD, e0, r, r1, r2, q, m⟩ := h
  rcases q with q | ⟨⟨e, l, n⟩, q⟩
  · exact op_deq hu pins s σ H x y v u Q I rx ry ⟨F, M, dx, dy, QD, e0, r, r1, r2, q, m⟩
  · have a := atR_of I l (rs_rep r 20 dx x r1) rx
    have b := atR_of I l (e ▸ rs_rep r 20 dy y r2) ry
    exact ((refl_at a b l (by omega)).2 n).1 X.prog X.w X.xe _ (fin2 I r m q rep_bl rfl)
theorem op_dneR' (hu : X.A.units + 64 < cLine) : DOp X F0 (compareOp .NotEq) dNeS := by
  intro pins s σ H x y v u Q I rx ry h
  obtain ⟨F, M, dx, dy, QD, e0, r, r1, r2, q, m⟩ := h
  rcases q with q | ⟨⟨e, l, n⟩, q⟩
  · exact op_dne hu pins s σ H x y v u Q I rx ry ⟨F, M, dx, dy, QD, e0, r, r1, r2, q, m⟩
  · have a := atR_of I l (rs_rep r 20 dx x r1) rx
    have b := atR_of I l (e ▸ rs_rep r 20 dy y r2) ry
    exact ((refl_at a b l (by omega)).2 n).2 X.prog X.w X.xe _ (fin2 I r m q rep_bl rfl)
end
end DL
set_option Elab.async false
set_option linter.all false
set_option maxRecDepth 100000
set_option maxHeartbeats 4000000
/-! PT5: odd values (plain) -/
namespace PL
theorem itT {c : Prop} {i : Decidable c} {a b : Prop} (h : c) (q : a) : @ite Prop c i a b := by rw [if_pos h]; exact q
theorem itF {c : Prop} {i : Decidable c} {a b : Prop} (h : ¬ c) (q : b) : @ite Prop c i a b := by rw [if_neg h]; exact q
open PySem PySem.Spec PyProof.Rows L2 DL DS
/-- a dict that nobody writes -/
def dct (M : DM) (d : D) : Prop := ∃ p, d = .ref p ∧ M p = some (.dK [])
abbrev sub (M M' : DM) : Prop := ∀ a m, M a = some m → M' a = some m
theorem sub_put {M : DM} {p : Addr} {o : MO} (h : M p = none) : sub M (put M p o) := fun a m e => by rw [put_ne' e h]
theorem dct.mono {M M' : DM} {d : D} (s : sub M M') : dct M d → dct M' d := fun ⟨p, e, h⟩ => ⟨p, e, s _ _ h⟩
/-- data, or such a dict, n deep in tuples -/
def odd (M : DM) : Nat → D → Prop
  | 0, _ => True
  | n + 1, d => (plain d = true ∨ dct M d) ∧ (∀ z, d = .str z → z.length ≤ 100) ∧ ∀ xs, d = .tup xs → xs.length ≤ 1000 ∧ ∀ x ∈ xs, odd M n x
theorem odd.mono {M M' : DM} (s : sub M M') : ∀ {n : Nat} {d : D}, odd M n d → odd M' n d
  | 0, _, _ => trivial
  | n + 1, d, ⟨h1, h2, h3⟩ => ⟨h1.imp id (dct.mono s), h2, fun xs e => ⟨(h3 xs e).1, fun x hx => ((h3 xs e).2 x hx).mono s⟩⟩
def nmD : D → Bool
  | .str z => nm z
  | _ => false
section
variable {M : DM} {Q : DK} {K : PySem.W.Frag} {d : D}
theorem isi_ref {t : String} {p : Addr} (h : M p = some (.dK [])) (e : kitB "dict" t = some false) (q : Q (.bl false) M) : dIsi K [.ref p, .ty t] M Q := by
  unfold dIsi tyD
  simp only [h, clsD]
  refine ⟨trivial, ?_⟩
  rw [show kitD K (.b "dict") (.b t) = some false from e]
  exact q
theorem isi_strO (h : plain d = true ∨ dct M d) (q : Q (.bl (isStr d)) M) : dIsi K [d, .ty "str"] M Q := by
  rcases h with h | ⟨p, rfl, h⟩
  · exact isi_str h q
  · exact isi_ref h rfl q
theorem isi_tupleO (h : plain d = true ∨ dct M d) (q : Q (.bl (isTup d)) M) : dIsi K [d, .ty "tuple"] M Q := by
  rcases h with h | ⟨p, rfl, h⟩
  · exact isi_tuple h q
  · exact isi_ref h rfl q
theorem isi_boolO (h : plain d = true ∨ dct M d) (q : Q (.bl (isBl d)) M) : dIsi K [d, .ty "bool"] M Q := by
  rcases h with h | ⟨p, rfl, h⟩
  · exact isi_bool h q
  · exact isi_ref h rfl q
theorem isi_intO (h : plain d = true ∨ dct M d) (q : Q (.bl (isInt d || isBl d)) M) : dIsi K [d, .ty "int"] M Q := by
  rcases h with h | ⟨p, rfl, h⟩
  · exact isi_int h q
  · exact isi_ref h rfl q
theorem isi_listO (h : plain d = true ∨ dct M d) (q : Q (.bl (isLst d)) M) : dIsi K [d, .ty "list"] M Q := by
  rcases h with h | ⟨p, rfl, h⟩
  · exact isi_list h q
  · exact isi_ref h rfl q
end
mutual
theorem rs_lay {M : DM} : ∀ {d : D} {n m : Nat}, lay n d = true → rs m M d = d
  | .non, _, m, _ => by cases m <;> rfl
  | .bl _, _, m, _ => by cases m <;> rfl
  | .int _, _, m, _ => by cases m <;> rfl
  | .str _, _, m, _ => by cases m <;> rfl
  | .lst xs, n + 1, 0, _ => rfl
  | .tup xs, n + 1, 0, _ => rfl
  | .lst xs, n + 1, m + 1, l => by rw [rs, rsL_lay (n := n) fun x hx => List.all_eq_true.mp (show xs.all (lay n) = true from l) x hx]
  | .tup xs, n + 1, m + 1, l => by rw [rs, rsL_lay (n := n) fun x hx => List.all_eq_true.mp (show xs.all (lay n) = true from l) x hx]
  | .lst _, 0, _, l => by simp [lay] at l
  | .tup _, 0, _, l => by simp [lay] at l
  | .ty _, n, _, l => by cases n <;> simp [lay] at l
  | .ref _, n, _, l => by cases n <;> simp [lay] at l
  | .ins _ _ _, n, _, l => by cases n <;> simp [lay] at l
  | .scr _, n, _, l => by cases n <;> simp [lay] at l
theorem rsL_lay {M : DM} : ∀ {xs : List D} {n m : Nat}, (∀ x ∈ xs, lay n x = true) → xs.map (rs m M) = xs
  | [], _, _, _ => rfl
  | x :: xs, n, m, l => by rw [List.map_cons, rs_lay (l x (List.mem_cons_self ..)), rsL_lay fun y hy => l y (List.mem_cons_of_mem _ hy)]
end
mutual
theorem layR_lay : ∀ {d : D} {n : Nat}, lay n d = true → layR n d = true
  | .non, n, _ => by cases n <;> rfl
  | .bl _, n, _ => by cases n <;> rfl
  | .int _, n, _ => by cases n <;> rfl
  | .str _, n, _ => by cases n <;> rfl
  | .lst xs, n + 1, l => layRL_lay (n := n) fun x hx => List.all_eq_true.mp (show xs.all (lay n) = true from l) x hx
  | .tup xs, n + 1, l => layRL_lay (n := n) fun x hx => List.all_eq_true.mp (show xs.all (lay n) = true from l) x hx
  | .lst _, 0, l => by simp [lay] at l
  | .tup _, 0, l => by simp [lay] at l
  | .ty _, n, l => by cases n <;> simp [lay] at l
  | .ref _, n, l => by cases n <;> simp [lay] at l
  | .ins _ _ _, n, l => by cases n <;> simp [lay] at l
  | .scr _, n, l => by cases n <;> simp [lay] at l
theorem layRL_lay : ∀ {xs : List D} {n : Nat}, (∀ x ∈ xs, lay n x = true) → xs.all (layR n) = true
  | [], _, _ => rfl
  | x :: xs, n, l => by rw [List.all_cons, layR_lay (l x (List.mem_cons_self ..)), layRL_lay fun y hy => l y (List.mem_cons_of_mem _ hy)]; rfl
end
/-- the second part -/
def sn : D → D
  | .tup [_, y] => y
  | _ => .non
theorem same_of {M : DM} {x y : D} {e : D} (h1 : rs 20 M x = e) (h2 : rs 20 M y = e) (l : lay 60 e = true) : sameD M x y := by
  refine ⟨h1.trans h2.symm, by rw [h1]; exact layR_lay l, ?_⟩
  rw [h1]
  cases e <;> first | rfl | simp [lay] at l
/-- [v] and [v] -/
theorem same_one {M : DM} {v : D} (h : lay 59 v = true ∨ dct M v) : sameD M (.lst [v]) (.lst [v]) := by
  refine ⟨rfl, ?_, rfl⟩
  rcases h with h | ⟨p, rfl, h⟩
  · rw [rs, rsL_lay (n := 59) (by simpa using h)]
    simpa [layR] using layR_lay h
  · simp [rs, h, layR]
/-! ### readings that give a value and change nothing -/
abbrev Ev (te : DTE) (δ : DSt) (M : DM) (d : D) : Prop := ∀ R : DK, R d M → te δ M R
abbrev EvA (ta : DTA) (δ : DSt) (M : DM) (ds : List D) : Prop := ∀ R : List D → DM → Prop, R ds M → ta δ M R
section
variable {te : DTE} {ta : DTA} {δ : DSt} {M : DM} {d : D} {ds : List D}
theorem ev_nil : EvA dNil δ M [] := fun R h => h
theorem ev_cons (h0 : Ev te δ M d) (h1 : EvA ta δ M ds) : EvA (dCons te ta) δ M (d :: ds) := fun R h => h0 _ (h1 _ h)
theorem go_cons {R : List D → DM → Prop} (h0 : Ev te δ M d) (h1 : ta δ M fun ds M1 => R (d :: ds) M1) : dCons te ta δ M R := h0 _ h1
theorem ev_lst (h : EvA ta δ M ds) (hl : ds.length ≤ 1000000) : Ev (dLst ta) δ M (.lst ds) := fun R q => h _ ⟨small hl, q⟩
theorem ev_tup (h : EvA ta δ M ds) (hl : ds.length ≤ 1000000) : Ev (dTup ta) δ M (.tup ds) := fun R q => h _ ⟨small hl, q⟩
theorem ev_c : Ev (dC d) δ M d := fun R h => h
theorem ev_var {i : Nat} (h : δ[i]? = some (some d)) : Ev (dVar i) δ M d := fun R q => by simp only [dVar, h]; exact q
theorem ev_ix0 {a : D} {r : List D} (h : Ev te δ M (.tup (a :: r))) : Ev (dOp dIx te (dC (.int 0))) δ M a := fun R q => h _ (by simpa using q)
theorem ev_ix1 {a b : D} {r : List D} (h : Ev te δ M (.tup (a :: b :: r))) : Ev (dOp dIx te (dC (.int 1))) δ M b := fun R q => h _ (by simpa using q)
theorem ev_add {tb : DTE} {xs ys : List D} (h : Ev te δ M (.lst xs)) (h' : Ev tb δ M (.lst ys)) (hl : xs.length + ys.length ≤ 1000000) : Ev (dOp dAdd te tb) δ M (.lst (xs ++ ys)) := fun R q => h _ (h' _ ⟨small hl, q⟩)
theorem ev_call {dsp : DSp} {wx : DW} {Q : DK} (h : EvA ta δ M ds) (q : dsp ds M Q (wE wx δ)) : dCall dsp wx ta δ M Q := h _ q
end
end PL
set_option Elab.async false
set_option linter.all false
set_option maxRecDepth 100000
set_option maxHeartbeats 4000000
/-! DN7: f(e, .., k = v, ..) of a def with keyword-only parameters -/
namespace DL
open PySem PySem.Spec L2
section
variable {X : Cx} {F0 : Hp} {W : DW} {pos p : Pos}
theorem run_fnNS {CX : CXT} {k n : Nat} {f : Addr} {fd : FuncData} {ps ks : List Str} {sp : Sp} {E : XK} {g : List Value → List Value → List Value} {gV : List V → List V → List V} {pins : List (Addr × Obj)} {σ : St} {H : Hp} {s : Shared} {Q : VK} {us ws : List Value} {vs zs : List V} (F : FnOk X.prog X.w X.K X.mg X.base CX k f fd ps sp) (hr : Room k X.A) (hb : KBn X.K fd ps n ks g gV) (hx : PassesAt CX X σ E)
    (I : Inv X pins σ H s) (r : Vals vs us) (rz : Vals zs ws) (l1 : vs.length = n) (l2 : zs.length = ks.length) (h : sp (gV vs zs) H Q E) : wpAny (model X.prog X.w) X.A (call (.ref f) us (ks.zip ws)) (EP X pins σ Q) X.xe s := by
  have r2 := hb.rel r rz
  refine wpAny_call (codeAny_mono (F.run X.A X.stack s H ⟨us, ks.zip ws⟩ (g us ws) (gV vs zs) Q E hr I.env0 (hb.to s us ws I.kIn (r.length.symm.trans l1) (rz.length.symm.trans l2)) r2 h) fun r s' hq => ?_)
  cases r with
  | error e => exact hx pins H s e s' I hq
  | ok fl =>
    cases fl with
    | ret u => exact I.after hq
    | next => exact False.elim hq
    | brk => exact False.elim hq
    | cont => exact False.elim hq
theorem dpe_callK {x : Str} {k n : Nat} {ks : List Str} {dsp : List D → List D → DM → DK → DXK → Prop} {e : Expr} {es : List Expr} {kws : List Keyword} {t tk : DTA} (c : Ctx X F0 W) (dc : DCalK X.prog X.w X.K X.mg X.base k x n ks dsp) (hr : Room k X.A) (ha : DPA X F0 (e :: es) t) (hkw : DPK X F0 kws tk) (hg : Gl X x := by rfl)
    (hall : (backToKw pos (keywordEach kws X.env)).all (·.1.isSome) = true := by rfl) (hks : (backToKw pos (keywordEach kws X.env)).filterMap (·.1) = ks := by rfl)
    (hdb : (x == ("__debug__" : Str)) = false := by decide) (he : starEach (e :: es) X.env = (false, eval e X.env) :: starEach es X.env := by rfl)
    (hpl : ((backTo pos (starEach (e :: es) X.env)).any (·.1) || (backToKw pos (keywordEach kws X.env)).any (·.1.isNone)) = false := by rfl) : DPE X F0 (.Call (.Name x p) (e :: es) kws pos) (dCallK dsp n ks.length W t tk) := by
  obtain ⟨f, fd, ps, g, gV, gD, dsp0, hm, hk, Fn, hb, hrp, im⟩ := dc.ex
  refine ⟨fun pins s σ H Q I h => ?_⟩
  obtain ⟨F, δ, M, QD, e0, r, sl, h, m⟩ := h
  refine wpAny_Call_Name_kw (ld_glob I hg hm ?_ hdb)
  refine PySem.W.callWith_KW (h₀ := X.base) I.ok.mod.kin hk hall (thn (ha.run pos pins s σ H (fun vs H1 => liftA X.K F0 tk σ H1 (fun zs H2 => vs.length = n ∧ zs.length = ks.length ∧ lowSp X.K dsp0 (gV vs zs) H2 Q (WE (lowW X.K F0 W) σ))) I
    ⟨F, δ, M, _, e0, r, sl, h, fun as M1 F1 H1 vs q e1 r1 rs => ⟨F1, δ, M1, _, e0.trans e1, r1, sl.mono e1, q, fun zs M2 F2 H2 ws q2 e2 r2 rs2 => ?_⟩⟩) fun us s1 ⟨vs, H1, I1, rv, q⟩ => ?_) hpl he
  · obtain ⟨l1, l2, q2⟩ := q2
    exact ⟨rs.length.symm.trans l1, rs2.length.symm.trans l2, low_call (e0.trans e1) e2 (sl.mono e1) (m.mono e1) r2 (hrp F2 _ _ _ _ (rs.mono e2) rs2) (im _ _ _ _ _ q2)⟩
  · refine thn (hkw.run pos pins s1 σ H1 _ I1 q) fun ws s2 ⟨zs, H2, I2, rz, l1, l2, q2⟩ => ⟨I2.kIn, ?_⟩
    rw [hks]
    exact run_fnNS (E := WE (lowW X.K F0 W) σ) Fn hr hb (passW c σ) I2 rv rz l1 l2 q2
end
end DL
namespace DH
open PySem PySem.Spec PyProof.Rows PySem.W L2 DL
section
variable {P : Program} {w : World} {K : Frag} {mg : Str → Option Value} {base : Heap} {k : Nat} {x q m : Str} {pa : Arguments} {bo : List Stmt} {sc : Scope} {kws : List (Str × V)} {f C : Addr} {ps : List Str} {dsp : DSp}
/-- all keywords are given, in their order -/
theorem KeepsK.calK (n : Nat) (ks : List Str) (h : KeepsK P w K mg base k x q pa bo sc kws f ps dsp) (hk : kws ≠ [])
    (hb : ∀ (D : Addr) (doc pm : Value) (an : Option Addr) (cdv ct : Value) (us ws : List Value), us.length = n → ws.length = ks.length → bindArgs (PySem.W.fnOf x q pa bo sc .none (.ref D) doc pm an cdv ct) ⟨us, ks.zip ws⟩ = pure (ps.zip (us ++ ws)))
    (hm : mg x = some (.ref f)) : DCalK P w K mg base k x n ks (fun as zs M Q E => dsp (as ++ zs) M Q E) := by
  obtain ⟨fd, F, D⟩ := h
  obtain ⟨mv, B⟩ := F.kbinds0 n ks [] (fun us _ ws => us ++ ws) hk (by simp) (fun a _ c => a.append c) (fun D doc pm an cdv ct us mv ws l1 _ l3 => hb D doc pm an cdv ct us ws l1 l3)
  exact ⟨f, fd, ps, _, _, fun as zs => as ++ zs, dsp, hm, F.kp, D, B, fun F as vs zs ws r1 r2 => r1.append r2, fun as zs M Q E h => h⟩
/-- none is given -/
theorem KeepsK.cal0 {dd : List D} (n : Nat) (h : KeepsK P w K mg base k x q pa bo sc kws f ps dsp) (hk : kws ≠ []) (hn : n + kws.length = ps.length)
    (hb : ∀ (D : Addr) (doc pm : Value) (an : Option Addr) (cdv ct : Value) (us ks : List Value), us.length = n → ks.length = kws.length →
      KwChain D ((kws.map (·.1)).zip ks) (bindArgs (PySem.W.fnOf x q pa bo sc .none (.ref D) doc pm an cdv ct) ⟨us, []⟩) (ps.zip (us ++ ks)))
    (hdd : ∀ F, RepL K F dd (kws.map (·.2))) (hm : mg x = some (.ref f)) : DCal P w K mg base k x (fun as M Q E => dsp (as ++ dd) M Q E) := by
  obtain ⟨fd, F, D⟩ := h
  obtain ⟨ds, hv, B⟩ := F.binds0 n hk hn hb
  exact ⟨f, fd, ps, ds, kws.map (·.2), dd, dsp, hm, F.kp, D, B, hv, hdd, fun as M Q E h => h⟩
end
end DH
set_option Elab.async false
set_option linter.all false
set_option maxRecDepth 100000
set_option maxHeartbeats 4000000
/-! DN8: x in y, y of a class with its own __contains__ -/
namespace DL
open PySem PySem.Spec L2
section
variable {X : Cx} {F0 : Hp} {W : DW}
def dInO (l : List (Addr × DSp)) : D2 := fun x y M Q => match insD M y with
  | some (C, _) => sel (fun dsp => dsp [y, x] M (blK Q) E0) l C
  | none => False
theorem op_dinO {k : Nat} {l : List (Addr × DSp)} (c : Ctx X F0 W) (dm : DMets X.prog X.w X.K X.mg X.base k "__contains__" l) (hr : Room k X.A) : DOp X F0 (compareOp .In) (dInO l) := by
  intro pins s σ H x y u w Q I rx ry h
  obtain ⟨F, M, d, e, QD, e0, r, rd, re, q, m⟩ := h
  unfold dInO at q
  split at q
  · rename_i C fs ei
    obtain ⟨a, dx, vs, rfl, ha, rf⟩ := insD_at r re ei
    cases ry
    obtain ⟨dsp, dmt, q⟩ := sel_get dm q
    obtain ⟨mA, J, _⟩ := ins_get I.hok ha
    obtain ⟨od, J, _⟩ := J.look
    obtain ⟨m0, hF⟩ := I.fr
    obtain ⟨f, hm, hrun⟩ := run_meth (QD := blK QD) (Q := fun v H' => (∃ b, v = .bl b) ∧ Q v H') c dmt hr I e0 r (RepL.cons re (RepL.cons rd RepL.nil)) (.cons rfl (.cons rx .nil)) q (fun d M F' H v q e r x => by
      obtain ⟨⟨b, rfl⟩, q⟩ := q
      have hv : v = .bl b := by unfold Rep at x; exact x
      exact ⟨⟨b, hv⟩, m _ M F' H v q e r x⟩)
    refine PySem.W.in_K hF I.ok.mod.kin J hm.at_ hm.fn ?_
    refine thn hrun fun z s1 ⟨v, H1, I1, rz, ⟨b, eb⟩, q1⟩ => ?_
    subst eb
    cases rz
    exact wpAny_pure ⟨.bl b, H1, I1, rfl, q1⟩
  · exact q.elim
variable {pos : Pos} {elt tg iter : Expr} {ifs : List Expr} {scope : Scope} {ti : DTI} {tt : DTT} {te : DTE}
theorem dpe_lc2M (i j : Nat) {x y : Str} (hc : X.calm = true) (hN : X.N.Nodup) (ok : BlkOk X.N X.env.scope scope [(x, i), (y, j)]) (hi : DPI X F0 tg iter ti)
    (hg : ∀ (s : Shared) (H : Hp) (C : Addr) (cl : List (Str × Addr)) (fp : List Addr), PG (X.blk s H scope (compEnvC scope cl C X.env) fp) tg (gTup X.K 2 (gCons (gName i) (gCons (gName j) gNil))))
    (ht : ∀ (s : Shared) (H : Hp) (C : Addr) (cl : List (Str × Addr)) (fp : List Addr), DPTs (X.blk s H scope (compEnvC scope cl C X.env) fp) F0 ifs tt)
    (he : ∀ (s : Shared) (H : Hp) (C : Addr) (cl : List (Str × Addr)) (fp : List Addr), DPE (X.blk s H scope (compEnvC scope cl C X.env) fp) F0 elt te) (hs : ∀ x, foldedSetIterable iter X.env x = pure x := by intro _; rfl) :
    DPE X F0 (.ListComp elt [⟨tg, iter, ifs, 0⟩] scope pos) (dLcM (st2 i j tt te) ti) :=
  PE.imp (pe_lc hc hN hi ok hg ht he hs) fun _ _ _ h => lcM_lift st2_ok h
end
end DL
set_option Elab.async false
set_option linter.all false
set_option maxRecDepth 100000
set_option maxHeartbeats 4000000
/-! PT6: answers (plain) -/
namespace PL
open PySem PySem.Spec PyProof.Rows L2 DL DS
abbrev An := D × Bool
def ad (a : An) : D := .tup [a.1, .bl a.2]
abbrev ads (as : List An) : List D := as.map ad
abbrev plc (as : List An) : List D := as.map (·.1)
/-- answers that fit -/
structure Ans (as : List An) : Prop where
  ok : ∀ a ∈ as, isPl a.1 = true
  nd : (plc as).Nodup
theorem ad_inj {a b : An} (h : ad a = ad b) : a = b := by
  obtain ⟨x, y⟩ := a
  obtain ⟨u, v⟩ := b
  simp [ad] at h
  rw [h.1, h.2]
theorem ads_eq {as bs : List An} (h : ads as = ads bs) : as = bs := (List.map_inj_right fun _ _ e => ad_inj e).mp h
section
variable {as bs cs : List An} {a b : An} {p : D}
theorem ad_lay {n : Nat} (h : isPl a.1 = true) : lay (n + 2) (ad a) = true := by
  have := isPl_lay (n := n) h
  simp [ad, lay, this]
theorem ads_lay {n : Nat} (h : ∀ a ∈ as, isPl a.1 = true) : (ads as).all (lay (n + 2)) = true := List.all_eq_true.mpr fun x hx => by
  obtain ⟨y, hy, rfl⟩ := List.mem_map.mp hx
  exact ad_lay (h y hy)
theorem ad_like (h : isPl a.1 = true) (h' : isPl b.1 = true) : like (ad a) (ad b) = true := by simp [ad, like, likeL, isPl_like h h']
theorem ads_alike (h : ∀ a ∈ as, isPl a.1 = true) : alikeD (ads as) := fun x hx y hy => by
  obtain ⟨u, hu, rfl⟩ := List.mem_map.mp hx
  obtain ⟨v, hv, rfl⟩ := List.mem_map.mp hy
  exact ad_like (h u hu) (h v hv)
theorem ads_sb (h : ∀ a ∈ as, isPl a.1 = true) : Sb (ads as) :=
  ⟨ads_alike h, .inl fun x hx => by obtain ⟨u, _, rfl⟩ := List.mem_map.mp hx; exact ⟨_, _, rfl⟩, fun x hx => List.all_eq_true.mp (ads_lay (n := 38) h) x hx⟩
theorem ad_eqD (h : isPl a.1 = true) (h' : isPl b.1 = true) : eqD (ad a) (ad b) = true ↔ a = b := by
  have e : eqD (ad a) (ad b) = (eqD a.1 b.1 && (a.2 == b.2)) := by simp [ad, eqD, eqL]
  rw [e, Bool.and_eq_true, eqD_pl h h', beq_iff_eq]
  exact ⟨fun ⟨h1, h2⟩ => Prod.ext h1 h2, fun e => by rw [e]; exact ⟨rfl, rfl⟩⟩
theorem ads_eqL (h : ∀ a ∈ as, isPl a.1 = true) (h' : ∀ a ∈ bs, isPl a.1 = true) : eqL (ads as) (ads bs) = true ↔ as = bs := by
  induction as generalizing bs with
  | nil => cases bs <;> simp [eqL]
  | cons x as ih =>
    cases bs with
    | nil => simp [eqL]
    | cons y bs =>
      simp only [ads, List.map_cons, eqL, Bool.and_eq_true, List.cons.injEq]
      rw [ad_eqD (h x (by simp)) (h' y (by simp)), ih (fun a ha => h a (by simp [ha])) (fun a ha => h' a (by simp [ha]))]
/-- bs: the answers in order -/
structure SA (as bs : List An) : Prop where
  p : bs.Perm as
  e : srt (ads as) = ads bs
theorem SA.of (as : List An) : ∃ bs, SA as bs := by
  obtain ⟨bs, h1, h2⟩ := perm_map_inv (srt_perm (ads as)) as rfl
  exact ⟨bs, h1, h2⟩
theorem Ans.perm (h : Ans as) (p : bs.Perm as) : Ans bs := ⟨fun a ha => h.ok a (p.mem_iff.mp ha), (p.map _).nodup_iff.mpr h.nd⟩
theorem SA.uniq {as' bs' : List An} (h : SA as bs) (h' : SA as' bs') (ha : ∀ a ∈ as, isPl a.1 = true) (p : as.Perm as') : bs = bs' := by
  have ha' : ∀ a ∈ as', isPl a.1 = true := fun a h => ha a (p.mem_iff.mpr h)
  have hb : ∀ a ∈ bs, isPl a.1 = true := fun a x => ha a (h.p.mem_iff.mp x)
  have hb' : ∀ a ∈ bs', isPl a.1 = true := fun a x => ha' a (h'.p.mem_iff.mp x)
  have s1 := srt_asc (ads_alike ha)
  have s2 := srt_asc (ads_alike ha')
  rw [h.e] at s1
  rw [h'.e] at s2
  refine ads_eq (List.Perm.eq_of_pairwise (le := fun a b => ltD b a = false) (fun x y hx hy h1 h2 => ?_) s1 s2 ((h.p.trans (p.trans h'.p.symm)).map ad))
  obtain ⟨u, hu, rfl⟩ := List.mem_map.mp hx
  obtain ⟨v, hv, rfl⟩ := List.mem_map.mp hy
  have l1 := ad_like (hb u hu) (hb' v hv)
  have l2 := ad_like (hb' v hv) (hb u hu)
  rw [(ad_eqD (hb u hu) (hb' v hv)).mp (eqD_of_not l1 l2 h2 h1)]
/-- what is said of p -/
def sayA (as : List An) (p : D) : Option Bool := (as.find? fun a => eqD a.1 p).map (·.2)
theorem sayA_mem (h : Ans as) (hp : isPl p = true) {b : Bool} : sayA as p = some b ↔ (p, b) ∈ as := by
  unfold sayA
  rw [Option.map_eq_some_iff]
  constructor
  · rintro ⟨a, h1, rfl⟩
    have e := List.find?_some h1
    have m := List.mem_of_find?_eq_some h1
    rw [← (eqD_pl (h.ok a m) hp).mp e]
    exact m
  · intro m
    cases e : as.find? fun a => eqD a.1 p with
    | none =>
      have := List.find?_eq_none.mp e _ m
      exact absurd ((eqD_pl hp hp).mpr rfl) this
    | some a =>
      have e2 := List.find?_some e
      have m2 := List.mem_of_find?_eq_some e
      have e3 := (eqD_pl (h.ok a m2) hp).mp e2
      refine ⟨a, rfl, ?_⟩
      -- the places differ
      have nd := List.pairwise_map.mp h.nd
      by_cases hab : a = (p, b)
      · rw [hab]
      · exfalso
        obtain ⟨i, hi, e4⟩ := List.mem_iff_getElem.mp m2
        obtain ⟨j, hj, e5⟩ := List.mem_iff_getElem.mp m
        rcases Nat.lt_trichotomy i j with h1 | h1 | h1
        · exact List.pairwise_iff_getElem.mp nd i j hi hj h1 (by rw [e4, e5]; exact e3)
        · subst h1; rw [e4] at e5; exact hab e5
        · exact List.pairwise_iff_getElem.mp nd j i hj hi h1 (by rw [e4, e5]; exact e3.symm)
theorem sayA_perm (h : Ans as) (q : bs.Perm as) (hp : isPl p = true) : sayA bs p = sayA as p := by
  have hb := h.perm q
  cases e : sayA as p with
  | some b => rw [sayA_mem hb hp, q.mem_iff, ← sayA_mem h hp]; exact e
  | none =>
    cases e2 : sayA bs p with
    | none => rfl
    | some b =>
      rw [sayA_mem hb hp, q.mem_iff, ← sayA_mem h hp, e] at e2
      cases e2
theorem sayA_in (h : Ans as) (hp : isPl p = true) : inD p (plc as) = (sayA as p).isSome := by
  have pl : allPl (plc as) := fun x hx => by obtain ⟨a, ha, rfl⟩ := List.mem_map.mp hx; exact h.ok a ha
  rw [Bool.eq_iff_iff, inD_iff hp pl, Option.isSome_iff_exists]
  constructor
  · intro m
    obtain ⟨a, ha, rfl⟩ := List.mem_map.mp m
    exact ⟨a.2, (sayA_mem h hp).mpr ha⟩
  · rintro ⟨b, hb⟩
    exact List.mem_map.mpr ⟨_, (sayA_mem h hp).mp hb, rfl⟩
/-- the places that stand -/
def stA (as : List An) : List D := plc (as.filter (·.2))
theorem stA_srt (h : Ans as) (s : SA as bs) : stA bs = srt (stA as) := by
  have hb := h.perm s.p
  have plb : allPl (stA bs) := fun x hx => by
    obtain ⟨a, ha, rfl⟩ := List.mem_map.mp hx
    exact hb.ok a (List.mem_filter.mp ha).1
  have pm : (stA bs).Perm (stA as) := (s.p.filter _).map _
  have pla : allPl (stA as) := allPl_perm plb pm.symm
  have asc : bs.Pairwise fun a b => ltD b.1 a.1 = false := by
    have s1 := srt_asc (ads_alike h.ok)
    rw [s.e] at s1
    have nd := List.pairwise_map.mp hb.nd
    refine ((List.pairwise_map.mp s1).and nd).imp_of_mem fun {a b} ha hb' ⟨h1, h2⟩ => ?_
    have ne : eqD b.1 a.1 = false := by
      cases e : eqD b.1 a.1 with
      | false => rfl
      | true => exact absurd ((eqD_pl (hb.ok b hb') (hb.ok a ha)).mp e).symm h2
    have e : ltD (ad b) (ad a) = ltD b.1 a.1 := by simp [ad, ltD, ltL, ne]
    rw [← e]; exact h1
  have al : ∀ {zs : List D}, allPl zs → alikeD zs := fun h a ha b hb => isPl_like (h a ha) (h b hb)
  refine List.Perm.eq_of_pairwise (le := fun a b => ltD b a = false) (fun a b ha hb h1 h2 => ?_) (List.pairwise_map.mpr (asc.sublist List.filter_sublist)) (srt_asc (al pla)) (pm.trans (srt_perm _).symm)
  have ib := allPl_srt pla b hb
  exact (eqD_pl (plb a ha) ib).mp (eqD_of_not (isPl_like (plb a ha) ib) (isPl_like ib (plb a ha)) h2 h1)
end
end PL
set_option Elab.async false
set_option linter.all false
set_option maxRecDepth 100000
set_option maxHeartbeats 2000000
/-! LM1: sorted(xs, key=f) where f's calls keep the invariant -/
namespace LM
open PySem PySem.Spec PyProof.Rows PySem.W L2 LamX NdefX
section
variable {X : Cx} {pins : List (Addr × Obj)} {σ : L2.St} {H : Hp} {s : Shared}
/-- an untracked record of ours -/
structure Ours (X : Cx) (pins : List (Addr × Obj)) (b : Addr) : Prop where
  above : X.s_0.heap.objs.size ≤ b
  loc : b ≠ X.env.locals
  cel : ∀ x c, X.env.cells.lookup x = some c → c ≠ b
  fs : b ∉ X.fs
  pin : ∀ p ∈ X.pn ++ pins, p.1 ≠ b
theorem Ours.new {b : Addr} (I : Inv X pins σ H s) (h : s.heap.objs.size ≤ b) : Ours X pins b where
  above := Nat.le_trans I.sz h
  loc := Nat.ne_of_gt (Nat.lt_of_lt_of_le I.lt h)
  cel := fun x c e z => by
    obtain ⟨v, o, ho, _⟩ := I.cell x c e
    exact Nat.lt_irrefl _ (Nat.lt_of_lt_of_le (z ▸ Heap.lt_size ho) h)
  fs := I.nofs h
  pin := fun p hp z => by
    exact Nat.lt_irrefl _ (Nat.lt_of_lt_of_le (z ▸ Heap.lt_size (I.pin p hp).1) h)
theorem keyI_rest {A : Around} {E : Value → Shared → Prop} {a kS : Addr} {e1 : Nat} {b : Bool} {vs : List Value} {f : Value} {P : PySem.Fin → Shared → Prop} {JJ : Nat → List Value → Hp → Prop}
    (I : Inv X pins σ H s) (j0 : JJ 0 [] H) (nk : s.heap.get? kS = some (seqObj "list" #[] 0)) (na : s.heap.get? a = some (seqObj "list" #[] e1)) (hka : kS ≠ a) (ok : Ours X pins kS) (oa : Ours X pins a) (fk : H kS = none) (fa : H a = none) (hZ : vs.length ≤ sizeLine)
    (turn : ∀ (i : Nat) (u : Value) (ks : List Value) (H' : Hp) (s' : Shared) (pins' : List (Addr × Obj)), vs[i]? = some u → Inv X pins' σ H' s' → (∀ p ∈ pins, p ∈ pins') → JJ i ks H' →
      wpAny (model X.prog X.w) A (call f [u]) (fun w s'' => ∃ H'', Inv X pins' σ H'' s'' ∧ JJ (i + 1) (ks ++ [w]) H'') (fun _ _ => False) s')
    (fin : ∀ (ks : List Value) (H' : Hp) (s' : Shared), ks.length = vs.length → Inv X pins σ H' s' → H' kS = none → H' a = none → JJ vs.length ks H' → ∃ kz : List PyData, EachIs (fun v k => ∃ as, Reads s'.heap v k as) ks kz ∧ AllAlike kz ∧ Sortable kz ∧ (∀ d, d ∈ kz → A.units + d.depth < cLine) ∧
      ∀ h' tk out c, (∀ b o, b ≠ kS → b ≠ a → s'.heap.get? b = some o → h'.get? b = some o) → h'.get? a = some (seqObj "list" (List.toArray out) c) → KeyedOut b kz vs out → P (.done (.ret .none)) { s' with heap := h', toks := tk }) :
    wpAny (model X.prog X.w) A (ksk_rest a f b vs.toArray e1 (.ref kS)) P E s := by
  unfold ksk_rest
  refine wpAny_bind (wpAny_rule ?_)
  first
    | rw [List.forIn_toArray]
    | (rw [← Array.forIn_toList]; simp only [List.toList_toArray])
    | rw [← Array.forIn_toList]
  refine wpAny_bind (ksk_fold (fun i s' => ∃ H' kA e, Inv X pins σ H' s' ∧ H' kS = none ∧ H' a = none ∧ s'.heap.get? kS = some (seqObj "list" kA e) ∧ s'.heap.get? a = some (seqObj "list" #[] e1) ∧ JJ i kA.toList H' ∧ kA.size = i) vs 0 s
    ⟨H, #[], 0, I, fk, fa, nk, na, j0, rfl⟩ ?step ?done)
  case step =>
    rintro j x s' hx ⟨H', kA, e, I', fk', fa', nk', na', hj, hsz⟩
    simp only [Nat.zero_add] at hj hsz ⊢
    have hjl : j < vs.length := (List.getElem?_eq_some_iff.mp hx).1
    have I2 : Inv X (pins ++ [(kS, seqObj "list" kA e), (a, seqObj "list" #[] e1)]) σ H' s' := I'.pins_of fun p hp => by
      rcases List.mem_append.mp hp with hp | hp
      · exact I'.pin p (List.mem_append_right _ hp)
      · simp only [List.mem_cons, List.not_mem_nil, or_false] at hp
        rcases hp with rfl | rfl
        · exact ⟨nk', fk', ok.loc, ok.fs, fun v z => by cases z⟩
        · exact ⟨na', fa', oa.loc, oa.fs, fun v z => by cases z⟩
    refine wpAny_bind (wpAny_attempt (wpAny_mono (turn j x kA.toList H' s' _ hx I2 (fun p hp => List.mem_append_left _ hp) hj) (fun v s'' he => ?_) fun _ _ hF => hF.elim))
    obtain ⟨H2, J, j2⟩ := he
    try dsimp only
    obtain ⟨nk2, fk2, _⟩ := J.pin (kS, seqObj "list" kA e) (List.mem_append_right _ (List.mem_append_right _ (.head _)))
    obtain ⟨na2, fa2, _⟩ := J.pin (a, seqObj "list" #[] e1) (List.mem_append_right _ (List.mem_append_right _ (.tail _ (.head _))))
    have J1 : Inv X pins σ H2 s'' := J.pins_of fun p hp => J.pin p (List.mem_append_right _ (List.mem_append_left _ hp))
    have s1 := Heap.SameBut.update s''.heap kS (Obj.mapSeq (·.push v))
    obtain ⟨c2, hc2⟩ : ∃ c2, (s''.heap.update kS (Obj.mapSeq (·.push v))).get? kS = some (seqObj "list" (kA.push v) c2) := ⟨_, get?_update_seq nk2 (·.push v)⟩
    have ea : (kA.push v).toList = kA.toList ++ [v] := by simp
    refine wpAny_bind (listUpdate_at nk2 rfl ?_ (by rw [hsz]; exact Nat.le_trans (Nat.le_of_lt hjl) hZ) (Nat.le_trans (Nat.le_of_eq (Array.size_push ..)) (by rw [hsz]; exact Nat.succ_le_succ (Nat.le_trans (Nat.le_of_lt hjl) hZ))))
    refine wpAny_pure ⟨rfl, H2, kA.push v, c2, ?_, fk2, fa2, hc2, (s1.2 a hka.symm).trans na2, by rw [ea]; exact j2, by rw [Array.size_push, hsz]⟩
    exact J1.turned (t' := s''.toks) (it := kS) (fun b o hb e => (s1.2 b hb).trans e) fk2 ok.loc (.inr ok.above) ok.cel ok.pin
  case done =>
    rintro s' ⟨H', kA, e, I', fk', fa', nk', na', hj, hsz⟩
    rw [Nat.zero_add] at hj hsz
    obtain ⟨kz, hk, hal, hsk, hu, h⟩ := fin kA.toList H' s' (by rw [Array.length_toList]; exact hsz) I' fk' fa' hj
    obtain ⟨G, g1, g2⟩ := restrict s'.heap fun b => decide (b ≠ kS)
    have gs : ∀ b o, G.get? b = some o → s'.heap.get? b = some o := fun b o q => by
      by_cases hb : b = kS
      · rw [hb, g2 kS (decide_eq_false fun z => z rfl)] at q; cases q
      · rw [← g1 b (decide_eq_true hb)]; exact q
    try dsimp only
    refine wpAny_bind (listItems_at nk' rfl ?_)
    exact keyH_end (κ := dataKind s'.heap kz) (h₁ := G) (fun b o _ q => gs b o q) (g2 kS (decide_eq_false fun z => z rfl)) nk' na' hka (SortsAt.data (s := s') hk hal hsk hu) hsz hZ fun h3 tk3 c k3 n3 =>
      h h3 tk3 _ c (fun b o h1 h2 q => k3 b o h2 (by rw [g1 b (decide_eq_true h1)]; exact q)) n3 ⟨s'.heap, kA.toList, hal, rfl, hk⟩
/-- the whole of sorted(l, key=f) -/
theorem keyI_sorted {l fa : Addr} {E : Value → Shared → Prop} {vs : List Value} {Q : Value → Shared → Prop} {JJ : Nat → List Value → Hp → Prop}
    (I : Inv X pins σ H s) (hl : s.heap.IsList l vs.toArray) (hZ : vs.length ≤ sizeLine) (j0 : JJ 0 [] H)
    (turn : ∀ (i : Nat) (u : Value) (ks : List Value) (H' : Hp) (s' : Shared) (pins' : List (Addr × Obj)), vs[i]? = some u → Inv X pins' σ H' s' → (∀ p ∈ pins, p ∈ pins') → JJ i ks H' →
      wpAny (model X.prog X.w) X.A.in1.in1 (call (.ref fa) [u]) (fun w s'' => ∃ H'', Inv X pins' σ H'' s'' ∧ JJ (i + 1) (ks ++ [w]) H'') (fun _ _ => False) s')
    (fin : ∀ (ks : List Value) (H' : Hp) (s' : Shared), ks.length = vs.length → Inv X pins σ H' s' → JJ vs.length ks H' → ∃ kz : List PyData, EachIs (fun v k => ∃ as, Reads s'.heap v k as) ks kz ∧ AllAlike kz ∧ Sortable kz ∧ (∀ d, d ∈ kz → X.A.units + 2 + d.depth < cLine) ∧
      ∀ (p : Addr) (out : List Value) (s'' : Shared), H' p = none → KeyedOut false kz vs out → (∀ xs : List V, Vals xs out → xs.length ≤ sizeLine → Inv X pins σ (upd H' p (.lst xs)) s'') → Q (.ref p) s'') :
    wpAny (model X.prog X.w) X.A (call (.builtin "sorted") [.ref l] [(Str.ofString "key", .ref fa)]) Q E s := by
  have ha : s.heap.objs.size ≤ s.heap.objs.size + 1 := Nat.le_succ _
  refine sorted_of_sort hl hZ (ksk_s1 _ _) (fun x => ksk_l1 _ _) fun E' => ?_
  rw [ksk_t1]
  have ho := copyHeap_at s.heap vs
  obtain ⟨e1, ho1⟩ : ∃ e1, ((copyHeap s.heap vs).update (s.heap.objs.size + 1) (Obj.mapSeq fun _ => (#[] : Array Value))).get? (s.heap.objs.size + 1) = some (seqObj "list" #[] e1) := ⟨_, get?_update_seq ho fun _ => #[]⟩
  have oa : Ours X pins (s.heap.objs.size + 1) := Ours.new I ha
  have csz : (copyHeap s.heap vs).objs.size = s.heap.objs.size + 2 := by
    unfold copyHeap
    rw [size_push', Heap.size_update, size_push']
  have hkS : (((copyHeap s.heap vs).update (s.heap.objs.size + 1) (Obj.mapSeq fun _ => (#[] : Array Value))).push (seqObj "tuple" vs.toArray 0)).objs.size = s.heap.objs.size + 3 := by rw [size_push', Heap.size_update, csz]
  have okk : Ours X pins (s.heap.objs.size + 3) := Ours.new I (by omega)
  have fa0 : H (s.heap.objs.size + 1) = none := I.hok.fresh ha
  have fk0 : H (s.heap.objs.size + 3) = none := I.hok.fresh (by omega)
  have kp : ∀ b o, s.heap.get? b = some o → ((((copyHeap s.heap vs).update (s.heap.objs.size + 1) (Obj.mapSeq fun _ => (#[] : Array Value))).push (seqObj "tuple" vs.toArray 0)).push (seqObj "list" #[] 0)).get? b = some o := fun b o q => by
    have hlt := Heap.lt_size q
    refine Heap.get?_push_of_some _ (Heap.get?_push_of_some _ ?_)
    rw [Heap.get?_update_ne _ _ _ _ (Nat.ne_of_lt (Nat.lt_succ_of_lt hlt))]
    exact copyHeap_old q
  unfold ksk_tree
  refine wpAny_bind (listItems_at ho rfl ?_)
  refine wpAny_bind (listUpdate_at ho rfl ?_ (by rw [List.size_toArray]; exact hZ) (Nat.zero_le _))
  refine wpAny_bind (seqEpoch_at ho1 rfl ?_)
  refine wpAny_bind (wpAny_newTuple ?_ (by show vs.length ≤ _; exact hZ))
  refine wpAny_bind (wpAny_newList ?_ (Nat.zero_le _))
  refine wpAny_holding ?_
  have I1 : Inv X pins σ H { s with heap := (((copyHeap s.heap vs).update (s.heap.objs.size + 1) (Obj.mapSeq fun _ => (#[] : Array Value))).push (seqObj "tuple" vs.toArray 0)).push (seqObj "list" #[] 0) } := I.kept (t' := s.toks) kp
  have nk : ((((copyHeap s.heap vs).update (s.heap.objs.size + 1) (Obj.mapSeq fun _ => (#[] : Array Value))).push (seqObj "tuple" vs.toArray 0)).push (seqObj "list" #[] 0)).get? (s.heap.objs.size + 3) = some (seqObj "list" #[] 0) := by rw [← hkS]; exact Heap.get?_push_size _ rfl
  show wpAny _ _ (ksk_rest _ _ _ _ _ (.ref (((copyHeap s.heap vs).update (s.heap.objs.size + 1) (Obj.mapSeq fun _ => (#[] : Array Value))).push (seqObj "tuple" vs.toArray 0)).objs.size)) _ _ _
  rw [hkS]
  refine keyI_rest (JJ := JJ) I1 j0 nk (Heap.get?_push_of_some _ (Heap.get?_push_of_some _ ho1)) (show (s.heap.objs.size + 3 : Nat) ≠ s.heap.objs.size + 1 by omega) okk oa fk0 fa0 hZ turn fun ks H' s' hkl I' fk' fa' hj => ?_
  obtain ⟨kz, h1, h2, h3, h4, h5⟩ := fin ks H' s' hkl I' hj
  refine ⟨kz, h1, h2, h3, h4, fun h' tk out c keep hnew hout => ⟨rfl, ?_⟩⟩
  refine h5 _ out _ fa' hout fun xs rv hxl => ?_
  have nit : ∀ b u, H' b = some u → b ≠ s.heap.objs.size + 3 ∧ b ≠ s.heap.objs.size + 1 := fun b u e => ⟨fun z => (by rw [z, fk'] at e; cases e), fun z => (by rw [z, fa'] at e; cases e)⟩
  have ge : ∀ b u, H' b = some u → upd H' (s.heap.objs.size + 1) (.lst xs) b = some u := fun b u e => by rw [upd_ne (nit b u e).2]; exact e
  refine I'.step (g' := s'.gens) (d' := s'.drawn) (t' := tk) (ch := [s.heap.objs.size + 3, s.heap.objs.size + 1]) (fun b hb => ?_) (fun b o _ _ hc e _ => keep b o (fun z => hc (by simp [z])) (fun z => hc (by simp [z])) e) (fun b o _ _ hc e _ => ⟨o.slots, keep b o (fun z => hc (by simp [z])) (fun z => hc (by simp [z])) e⟩)
    (fun b o hc _ n => by rw [upd_ne (fun z => hc (by simp [z]))]; exact n) (fun b o hc e => ⟨o, keep b o (fun z => hc (by simp [z])) (fun z => hc (by simp [z])) e⟩) (fun b xs e => ge b _ e) (fun b o u e => ge b _ e) (fun b ps e => ⟨#[], by rw [ge b _ e]; simp⟩) (fun m hm => ?_) (fun b u e => ?_) I'.bare
  · simp only [List.mem_cons, List.not_mem_nil, or_false] at hb
    rcases hb with rfl | rfl
    · exact ⟨.inr okk.above, okk.loc, okk.cel, okk.pin⟩
    · exact ⟨.inr oa.above, oa.loc, oa.cel, oa.pin⟩
  · obtain ⟨o, es, ep, ho, r⟩ := hm
    exact ⟨o, es, ep, keep _ o (Ne.symm okk.loc) (Ne.symm oa.loc) ho, r⟩
  · by_cases hb : b = s.heap.objs.size + 1
    · rw [hb, upd_same] at e
      cases e
      rw [hb]
      exact ⟨hxl, out, c, rv, hnew⟩
    · rw [upd_ne hb] at e
      refine (I'.hok b u e).stay (fun d v hd q => keep d v ?_ ?_ q) (fun d q => ge d _ q) fun d ys q => ge d _ q
      · rcases hd with z | z
        · rw [z]; exact (nit b u e).1
        · exact (nit d _ z).1
      · rcases hd with z | z
        · rw [z]; exact (nit b u e).2
        · exact (nit d _ z).2
end
end LM
set_option Elab.async false
set_option linter.all false
set_option maxRecDepth 100000
set_option maxHeartbeats 2000000
/-! LM2: a lambda of one parameter, called -/
namespace LM
open PySem PySem.Spec PyProof.Rows PySem.W L2 LamX NdefX
section
variable {X : Cx} {pins : List (Addr × Obj)} {σ : L2.St} {H : Hp} {s : Shared}
/-- the lambda's words -/
abbrev lamF (q : Str) (params : Arguments) (scope : Scope) (cl : List (Str × Addr)) (c' : Addr) : NF := ⟨"<lambda>", q, params, [], scope, cl, c'⟩
/-- what the captured cells hold -/
theorem cells_of {scope : Scope} {Ng ps fr : List Str} {js : List Nat} (I : Inv X pins σ H s) (S : NScope Ng ps fr scope) (hfr : ∀ y ∈ scope.names, y.2 = .free → X.env.scope.names.lookup y.1 = some .cell ∨ X.env.scope.names.lookup y.1 = some .free)
    (hl : js.length = fr.length) (hj : ∀ (i : Nat) (y : Str), fr[i]? = some y → ∃ j, js[i]? = some j ∧ X.N[j]? = some y) :
    CellsAt (cloFrom X.env.cells scope.names []) fr (js.map fun j => (σ[j]?).getD none) s.heap H := by
  have hfree : ∀ y ∈ scope.names, y.2 = .free → ∃ c, X.env.cells.lookup y.1 = some c := fun y hy e => by
    rcases hfr y hy e with k | k
    · exact I.ok.has _ (.inl k)
    · exact I.ok.has _ (.inr k)
  have cm : ∀ {y c}, (cloFrom X.env.cells scope.names []).lookup y = some c → X.env.cells.lookup y = some c := fun {y c} e => by
    rcases cloFrom_mem (PySem.mem_of_lookup e) with hm | ⟨h1, h2⟩
    · cases hm
    · obtain ⟨c1, hc⟩ := hfree _ h1 rfl
      have hc : X.env.cells.lookup y = some c1 := hc
      have e2 : c = c1 := by
        rw [h2, hc] <;> rfl
      rw [e2]
      exact hc
  refine ⟨by rw [List.length_map]; exact hl, fun y c e => ⟨I.freeC y c (cm e), I.cell y c (cm e)⟩, fun x y c e1 e2 => I.ok.inj x y c (cm e1) (cm e2), fun i y e => ?_⟩
  have hl : scope.names.lookup y = some .free := S.frk y (List.mem_of_getElem? e)
  have hy : (y, NameKind.free) ∈ scope.names := PySem.mem_of_lookup hl
  obtain ⟨c, hc⟩ := mem_lookup (cloFrom_has (cells := X.env.cells) (acc := []) hy)
  refine ⟨c, hc, fun v hv => ?_⟩
  obtain ⟨j, hj1, hj2⟩ := hj i y e
  rw [List.getElem?_map, hj1] at hv
  have hv : (σ[j]?).getD none = some v := Option.some.inj hv
  have hσ : σ[j]? = some (some v) := by
    cases q : σ[j]? with
    | none => rw [q] at hv; cases hv
    | some o => rw [q] at hv; exact congrArg some hv
  obtain ⟨m, hn, hloc⟩ := I.loc
  have hvis : Vis X.env.scope y := (hfr _ hy rfl).elim (fun k => .inr (.inl k)) (fun k => .inr (.inr k))
  obtain ⟨u, r, l⟩ := hloc j y v hj2 hσ hvis
  refine ⟨u, r, ?_⟩
  rcases l with ⟨k', _⟩ | ⟨_, c3, e', z⟩
  · have k' : X.env.scope.names.lookup y = some .local := k'
    rcases hfr _ hy rfl with k2 | k2 <;> rw [show X.env.scope.names.lookup y = _ from k2] at k' <;> cases k'
  · rw [cm hc] at e'
    cases e'
    exact z
/-- f(u), f the lambda -/
theorem lam_call {A : Around} {q : Str} {Ng fr : List Str} {x : Str} {params : Arguments} {body : Expr} {scope : Scope} {cl : List (Str × Addr)} {f c' : Addr} {pm ctv : Value} {k : Nat} {tb : TE} {v : V} {u : Value} {ws : List (Option V)} {Q : VK}
    (I : Inv X pins σ H s) (hf : s.heap.get? f = some (kla_obj "<lambda>" q params body scope cl pm c' ctv)) (hc : H c' = some (CodeO c' q))
    (hbind : bindArgs (kla_fn "<lambda>" q params body scope cl pm (.ref c') ctv) ⟨[u], []⟩ = pure [(x, u)]) (S : NScope Ng [x] fr scope) (C : CellsAt cl fr ws s.heap H) (rv : L2.RelV v u) (hA : A.frames = some X.stack) (hr : Room (k + 1) A)
    (hbody : Room k (A.deeper (envF (lamF q params scope cl c') f s.heap.objs.size)) → PE (ncx (L2.CX X.prog X.w) X.prog X.w X.K X.mg X.base Ng (lamF q params scope cl c') f A X.stack s H C8.E0) body tb) (ht : tb (startF Ng [v] ws) H Q) :
    wpAny (model X.prog X.w) A (call (.ref f) [u]) (EP X pins σ Q) (fun e s' => L2.CX X.prog X.w X.stack H s C8.E0 e s') s := by
  obtain ⟨⟨oc, vs, t, hoc, hdc, hvc⟩, _, _⟩ := I.hok c' _ hc
  have e0 : Env0 X.prog X.w X.K X.mg X.base A X.stack s H := { I.env0 with frames := hA }
  have rc : codeAny (model X.prog X.w) A (.call (.ref f) ⟨[u], []⟩) (CR (L2.CX X.prog X.w) X.stack X.prog X.w H s Q C8.E0) s := by
    refine kla_callFunE hr.depth hf rfl S.co S.gen rfl ⟨c', oc, vs, t, rfl, hoc, hdc, hvc⟩ ?_
    rw [hbind]
    refine wpAny_pure (wpAny_newFunctionEnv S.nocell (fun y hy => ?_) (fun h₁ hns hsb => ⟨I.nolimit.fresh _ hsb, ?_⟩) S.kind)
    · rw [List.mem_singleton.mp hy]
      exact S.par x (by simp)
    show codeAny _ _ (.expr body (envF (lamF q params scope cl c') f s.heap.objs.size)) _ _
    have kp : ∀ b o, s.heap.get? b = some o → h₁.get? b = some o := fun b o e => hsb.extBut b o (Nat.ne_of_lt (Heap.lt_size e)) (Heap.get?_push_of_some _ e)
    have J := inv_startN (CX := L2.CX X.prog X.w) (E := C8.E0) (F := lamF q params scope cl c') (f := f) (us := [u]) (vs := [v]) (tk := s.toks + [(x, u)].length) S hr.hd e0 rfl (.cons rv .nil) C hns kp
    refine kla_codeExpr (wpAny_mono ((hbody (hr.deeper _)).run [] _ _ H Q J ht) (fun v s' hq => ?_) fun e s' hq => hq)
    obtain ⟨w', H', J', rv, q⟩ := hq
    exact ⟨w', H', J'.os, J'.bare, J'.base, J'.hok, rv, q⟩
  refine wpAny_call (codeAny_mono rc fun r s' hq => ?_)
  cases r with
  | error e => exact hq
  | ok fl =>
    cases fl with
    | ret u => exact I.after hq
    | next => exact False.elim hq
    | brk => exact False.elim hq
    | cont => exact False.elim hq
end
end LM
set_option Elab.async false
set_option linter.all false
set_option maxRecDepth 100000
set_option maxHeartbeats 2000000
/-! LM3: a lambda made: all but its maker's table is kept -/
namespace LM
open PySem PySem.Spec PyProof.Rows PySem.W L2 LamX NdefX
theorem fresh_frame {X : Cx} {pins : List (Addr × Obj)} {σ : L2.St} {H : Hp} {s : Shared} {f : Addr} (I : Inv X pins σ H s) (hf : s.heap.objs.size ≤ f) : f ∉ frs X.stack :=
  fun z => (List.mem_cons.mp (I.stkSub f z)).elim (fun e => Nat.lt_irrefl _ (Nat.lt_of_lt_of_le (e ▸ I.lt) hf)) (I.nofs hf)
/-- the abstract heap behind one code object more: it lies at k, the table at P tells it -/
abbrev oneMore (H : Hp) (P k : Addr) (q : Str) (tab : Array Value) (at_ : Pos) : Hp := upd (upd H P (.tbl (tab ++ #[rawInt at_.line, rawInt at_.col, .ref k]))) k (CodeO k q)
section
variable {H : Hp} {P k : Addr} {q : Str} {tab : Array Value} {at_ : Pos}
theorem oneMore_keeps (n : H k = none) : ∀ b o, b ≠ P → H b = some o → oneMore H P k q tab at_ b = some o := fun b o hb e => ((upd_ne (ne_of_none e n)).trans (upd_ne hb)).trans e
theorem oneMore_tab (hP : H P = some (.tbl tab)) (n : H k = none) (ok : TriplesOk tab.toList) (all : ∀ (p : Pos) (cv : Value), codeAmong p tab.toList = some cv → ∃ c, cv = .ref c ∧ H c = some (CodeO c q)) : TabS (oneMore H P k q tab at_) P q := by
  have el : (tab ++ #[rawInt at_.line, rawInt at_.col, .ref k]).toList = tab.toList ++ [rawInt at_.line, rawInt at_.col, .ref k] := by rw [Array.toList_append]
  refine ⟨_, (upd_ne (ne_of_none hP n)).trans upd_same, el ▸ PySem.TriplesOk_snoc _ _ _ _ ok, fun p cv told => ?_⟩
  rcases among_app _ ok (el ▸ told) with old | new
  · obtain ⟨c, rfl, hc⟩ := all p cv old
    exact ⟨c, rfl, oneMore_keeps n c _ (fun z => codeO_ne tab (Option.some.inj ((z ▸ hc : H P = _).symm.trans hP))) hc⟩
  · exact ⟨k, new, upd_same⟩
end
/-- what is known when the lambda was made, at f, its code object at k -/
def LamMade (X : Cx) (pins : List (Addr × Obj)) (σ : L2.St) (H : Hp) (P : Addr) (q : Str) (params : Arguments) (body : Expr) (scope : Scope) (f k : Addr) (H1 : Hp) (s1 : Shared) : Prop :=
  Inv X pins σ H1 s1 ∧ (∀ b o, b ≠ P → H b = some o → H1 b = some o) ∧ TabS H1 P q ∧ H1 f = none ∧ f ∉ frs X.stack ∧ H1 k = some (CodeO k q) ∧ ∃ pm ctv, s1.heap.get? f = some (kla_obj "<lambda>" q params body scope (cloFrom X.env.cells scope.names []) pm k ctv)
section
variable {X : Cx} {pins : List (Addr × Obj)} {σ : L2.St} {H : Hp} {s : Shared} {c P : Addr} {q : Str} {params : Arguments} {body : Expr} {scope : Scope} {pos : Pos} {E Q : Value → Shared → Prop}
theorem lam_make3 (I : Inv X pins σ H s) (B : TabB X.base X.mg c P) (hcode : X.env.code = .ref c) (hq : X.env.qual ++ "<lambda>" = q) (hT : TabS H P q) (hdef : defaultsOf params X.env = ([], []))
    (hfree : ∀ y ∈ scope.names, y.2 = .free → ∃ c, X.env.cells.lookup y.1 = some c) (fin : ∀ (f k : Addr) (H1 : Hp) (s1 : Shared), LamMade X pins σ H P q params body scope f k H1 s1 → Q (.ref f) s1) :
    wpAny (model X.prog X.w) X.A (eval (.Lambda params body scope pos) X.env) Q E s := by
  obtain ⟨tab, hP, ok, all⟩ := hT
  have raw : s.heap.get? P = some { cls := .none, data := .fields tab } := I.hok P _ hP
  have glob := I.mod.glob.keeps I.bk
  have code := B.code.keeps I.bk
  have bm : s.heap.BuiltinsAt X.mg P := B.bm.keeps I.bk
  refine kla_eval hdef ?_
  rw [hq]
  rcases hc : codeAmong pos tab.toList with _ | cv
  · refine kla_makeFunction (mg := X.mg) (ps := tab) (closure_ok hfree) I.ok.glob glob hcode code raw ok hc B.gP bm fun k ctv h1 tk kept ge lt rec_ told => ?_
    obtain ⟨_, oc, vs, t, e, ho, hd, hv⟩ := rec_
    cases e
    have n : H k = none := I.hok.fresh ge
    have le : s.heap.objs.size ≤ h1.objs.size := Nat.le_of_lt (Nat.lt_of_le_of_lt ge lt)
    have J := inv_table (t' := tk) (more := #[rawInt pos.line, rawInt pos.col, .ref k]) (h' := h1.push (kla_obj "<lambda>" q params body scope (cloFrom X.env.cells scope.names []) ((X.mg "__name__").getD .none) k ctv)) I hP
      (fun b o hb x => Heap.get?_push_of_some _ (kept b o hb x)) (Heap.get?_push_of_some _ told) ge ⟨oc, vs, t, Heap.get?_push_of_some _ ho, hd, hv⟩
    refine fin h1.objs.size k _ _ ⟨J, oneMore_keeps n, oneMore_tab hP n ok all, ?_, fresh_frame I le, upd_same, _, _, Heap.get?_push_size _ rfl⟩
    exact ((upd_ne (Nat.ne_of_gt lt)).trans (upd_ne (Nat.ne_of_gt (Nat.lt_of_lt_of_le (Heap.lt_size raw) le)))).trans (I.hok.fresh le)
  · obtain ⟨k, rfl, hk⟩ := all pos cv hc
    refine kla_makeFunctionHit (mg := X.mg) (ps := tab) (closure_ok hfree) I.ok.glob glob hcode code raw ok hc bm fun ctv h1 tk kept le => ?_
    exact fin h1.objs.size k H _ ⟨I.kept fun b o x => Heap.get?_push_of_some _ (kept b o x), fun _ _ _ x => x, ⟨tab, hP, ok, all⟩, I.hok.fresh le, fresh_frame I le, hk, _, _, Heap.get?_push_size _ rfl⟩
end
end LM
set_option Elab.async false
set_option linter.all false
set_option maxRecDepth 100000
set_option maxHeartbeats 2000000
/-! LM4: sorted(xs, key=lambda x: ..) over deep values -/
namespace LM
open PySem PySem.Spec PyProof.Rows PySem.W L2 LamX NdefX DL DS
/-- sorted by a key, stable -/
def srtK (key : DL.D → DL.D) (xs : List DL.D) : List DL.D := xs.mergeSort (PySem.W.dataLe false fun x => enc (key x))
/-- the lambda's slots: its parameter, what it captured -/
def lamD (δ : DSt) (js : List Nat) (x : DL.D) : DSt := some x :: js.map fun j => (δ[j]?).getD none
def sortL (P : Addr) (q : Str) (js : List Nat) (tb : DTE) (δ : DSt) (Q : DK) (d : DL.D) (M : DM) : Prop := ∃ xs, DL.asR M d = some xs ∧ M P = some (.tab q) ∧ ∃ key : DL.D → DL.D, Sb (xs.map key) ∧ (∀ x ∈ xs, tb (lamD δ js x) M fun k M2 => k = key x ∧ ∀ a m, M a = some m → M2 a = some m) ∧ ∀ p, M p = none → Q (.ref p) (put M p (.lst (srtK key xs)))
def dSortLM (P : Addr) (q : Str) (js : List Nat) (tb te : DTE) : DTE := fun δ M Q => te δ M (sortL P q js tb δ Q)
theorem slots_lam {K : PySem.W.Frag} {F : Hp} {δ : DSt} {σ : L2.St} {js : List Nat} {x : DL.D} {v : V} {Ng : List Str} (sl : Slots K F δ σ) (r : Rep K F x v) (hN : Ng.length = js.length + 1) : Slots K F (lamD δ js x) (startF Ng [v] (js.map fun j => (σ[j]?).getD none)) := by
  have e : startF Ng [v] (js.map fun j => (σ[j]?).getD none) = some v :: js.map fun j => (σ[j]?).getD none := by
    unfold startF
    rw [hN]
    simp
  rw [e]
  refine .cons r ?_
  clear e hN
  induction js with
  | nil => exact .nil
  | cons j js ih =>
    refine .cons ?_ ih
    show RepO K F ((δ[j]?).getD none) ((σ[j]?).getD none)
    rcases hd : δ[j]? with _ | d
    · exact trivial
    · rcases d with _ | d
      · exact trivial
      · obtain ⟨w, h1, h2⟩ := sl.get hd
        rw [h1]
        exact h2
/-- a def's table, as the machine level tells it -/
theorem tab_of {K : PySem.W.Frag} {F : Hp} {M : DM} {H : Hp} {P : Addr} {q : Str} (r : Rel K F M H) (h : M P = some (.tab q)) : TabS H P q := by
  obtain ⟨_, o, ho, tab, rfl, ok, all⟩ := r.mr P _ h
  exact ⟨tab, ho, ok, fun p cv hc => (all p cv hc).imp fun c z => ⟨z.1, r.sub _ _ z.2⟩⟩
/-- the code objects that the table tells become plain -/
theorem rel_lam {K : PySem.W.Frag} {F : Hp} {M : DM} {H H1 : Hp} {P : Addr} {q : Str} (r : Rel K F M H) (h : M P = some (.tab q)) (kept : ∀ b o, b ≠ P → H b = some o → H1 b = some o) (t : TabS H1 P q) : ∃ F1, Same F F1 ∧ Rel K F1 M H1 ∧ ∀ c, H1 c = some (CodeO c q) → F1 c = some (CodeO c q) := by
  classical
  obtain ⟨tab, hP, ok, all⟩ := t
  obtain ⟨nP, _, _, _⟩ := r.mr P _ h
  have sF : Same F H1 := fun b o e => kept b o (fun z => by rw [z, nP] at e; cases e) (r.sub b o e)
  let F1 : Hp := fun b => match F b with | some o => some o | none => if H1 b = some (CodeO b q) then some (CodeO b q) else none
  have s1 : Same F F1 := fun b o e => by show (match F b with | some o => some o | none => _) = _; rw [e]
  have cF : ∀ c, H1 c = some (CodeO c q) → F1 c = some (CodeO c q) := fun c e2 => by
    show (match F c with | some o => some o | none => if H1 c = some (CodeO c q) then some (CodeO c q) else none) = _
    rcases hf : F c with _ | o'
    · exact if_pos e2
    · have := sF c o' hf
      rw [e2] at this
      exact this.symm
  refine ⟨F1, s1, ⟨fun b o e => ?_, fun a mo e => ?_⟩, cF⟩
  · have e : (match F b with | some o => some o | none => if H1 b = some (CodeO b q) then some (CodeO b q) else none) = some o := e
    rcases hb : F b with _ | o'
    · rw [hb] at e
      by_cases hc : H1 b = some (CodeO b q)
      · simp only [if_pos hc] at e; rw [hc, e]
      · simp only [if_neg hc] at e; cases e
    · rw [hb] at e
      rw [sF b o' hb]; exact e
  · obtain ⟨n1, o, ho, rm⟩ := r.mr a mo e
    have noc : ∀ {u : HO}, H1 a = some u → (∀ φ, u ≠ .ext φ) → F1 a = none := fun {u} hu ne => by
      show (match F a with | some o => some o | none => if H1 a = some (CodeO a q) then some (CodeO a q) else none) = none
      rw [n1]
      exact if_neg fun z => ne _ (Option.some.inj (hu.symm.trans z))
    by_cases ha : a = P
    · subst ha
      rw [h] at e
      cases e
      exact ⟨noc hP (fun φ z => by cases z), _, hP, tab, rfl, ok, fun p cv hc => by
        obtain ⟨c, e1, e2⟩ := all p cv hc
        exact ⟨c, e1, cF c e2⟩⟩
    · refine ⟨noc (kept a o ha ho) fun φ z => ?_, o, kept a o ha ho, rm.mono s1⟩
      subst z
      cases mo with
      | lst _ => obtain ⟨_, z, _⟩ := rm; cases z
      | ins _ _ => obtain ⟨_, _, z, _⟩ := rm; cases z
      | dK _ => obtain ⟨_, z, _⟩ := rm; cases z
      | dT _ => obtain ⟨_, z, _⟩ := rm; cases z
      | tab _ => obtain ⟨_, z, _⟩ := rm; cases z
end LM
set_option Elab.async false
set_option linter.all false
set_option maxRecDepth 100000
set_option maxHeartbeats 2000000
/-! LM5: the rule of sorted(xs, key=lambda x: ..) -/
namespace LM
open PySem PySem.Spec PyProof.Rows PySem.W L2 LamX NdefX DL DS
theorem each_map {α β γ : Type} {R : α → γ → Prop} {g : β → γ} : ∀ {as : List α} {bs : List β}, EachIs (fun a b => R a (g b)) as bs → EachIs R as (bs.map g)
  | _, _, .nil => .nil
  | _, _, .cons h t => .cons h (each_map t)
section
variable {X : Cx} {F0 : Hp}
/-- where the lambda's body runs -/
abbrev lamX (X : Cx) (q : Str) (params : Arguments) (scope : Scope) (Ng : List Str) (f k : Addr) (s : Shared) (H : Hp) : Cx := ncx (L2.CX X.prog X.w) X.prog X.w X.K X.mg X.base Ng (lamF q params scope (cloFrom X.env.cells scope.names []) k) f X.A.in1.in1 X.stack s H C8.E0
theorem lam_ctx {q : Str} {params : Arguments} {scope : Scope} {Ng : List Str} {f k : Addr} {s : Shared} {H F1 : Hp} (hN : Ng.Nodup) : Ctx (lamX X q params scope Ng f k s H) F1 W0 :=
  ⟨rfl, fun u s' ⟨_, _, _, _, _, _, _, _, _, _, _, _, _, _, _, _, hw⟩ => by obtain ⟨_, _, _, _, _, _, _, _, _, _, _, _, _, _, z⟩ := hw; exact z.elim, passes_of rfl, hN⟩
theorem dpe_sortLM {k : Nat} {P c : Addr} {q : Str} {te tb : DTE} {js : List Nat} {fr Ng : List Str} {x : Str} {e : Expr} {params : Arguments} {body : Expr} {scope : Scope} {p pos lpos kpos : Pos} (hm : X.mg "sorted" = none) (hr : Room (k + 3) X.A) (B : TabB X.base X.mg c P) (hcode : X.env.code = .ref c) (hqn : X.env.qual ++ "<lambda>" = q)
    (hdef : defaultsOf params X.env = ([], [])) (S : NScope Ng [x] fr scope) (hfr : ∀ y ∈ scope.names, y.2 = .free → X.env.scope.names.lookup y.1 = some .cell ∨ X.env.scope.names.lookup y.1 = some .free) (hl : js.length = fr.length) (hj : ∀ (i : Nat) (y : Str), fr[i]? = some y → ∃ j, js[i]? = some j ∧ X.N[j]? = some y) (hNg : Ng.length = js.length + 1)
    (hbind : ∀ (cl : List (Str × Addr)) (pm cv ctv u : Value), bindArgs (kla_fn "<lambda>" q params body scope cl pm cv ctv) ⟨[u], []⟩ = pure [(x, u)]) (he : DPE X F0 e te)
    (hb : ∀ (f k' : Addr) (s : Shared) (H F1 : Hp), Ctx (lamX X q params scope Ng f k' s H) F1 W0 → Room k (lamX X q params scope Ng f k' s H).A → DPE (lamX X q params scope Ng f k' s H) F1 body tb) (hgl : Gl X "sorted" := by rfl) (hst : starEach [e] X.env = (false, eval e X.env) :: starEach [] X.env := by rfl) :
    DPE X F0 (.Call (.Name "sorted" p) [e] [⟨some (Str.ofString "key"), .Lambda params body scope lpos, kpos⟩] pos) (dSortLM P q js tb te) := by
  refine ⟨fun pins s σ H Q I h => ?_⟩
  obtain ⟨F, δ, M, QD, e0, r, sl, h, m⟩ := h
  refine wpAny_Call_Name_kw (ld_blt I hgl hm DS.boot_sorted ?_ (by decide) (by decide))
  refine callWith_kw ?_ (by rw [hst]; rfl) (by rw [hst]; rfl) (by rfl) (by rfl)
  rw [hst]
  show wpAny _ _ (spliced ((false, eval e X.env) :: backTo pos (starEach [] X.env))) _ _ s
  refine Calls.spliced_cons (thn (he.run pins s σ H (fun v H1 => ∃ F1 M1 d, Same F F1 ∧ Rel X.K F1 M1 H1 ∧ Rep X.K F1 d v ∧ sortL P q js tb δ QD d M1) I ⟨F, δ, M, _, e0, r, sl, h, fun d M1 F1 H1 v hq e1 r1 rv => ⟨F1, M1, d, e1, r1, rv, hq⟩⟩) fun u s1 hu => Calls.spliced_nil ?_)
  obtain ⟨v, H1, I1, rv1, F1, M1, d, e1, r1, rd, xs, ex, hP, key, hSb, hkey, hq⟩ := hu
  have hfree : ∀ y ∈ scope.names, y.2 = .free → ∃ c, X.env.cells.lookup y.1 = some c := fun y hy z => (hfr y hy z).elim (fun w => I.ok.has _ (.inl w)) fun w => I.ok.has _ (.inr w)
  show wpAny _ _ (evalAll ((do let v ← eval (.Lambda params body scope lpos) X.env; standAt pos; pure v) :: [])) _ _ s1
  refine wpAny_evalAll_cons (wpAny_bind (lam_make3 I1 B hcode hqn (tab_of r1 hP) hdef hfree fun f k' H2 s2 made => wpAny_bind (wpAny_standAt (wpAny_pure (wpAny_evalAll_nil ?_)))))
  obtain ⟨I2, kept, T2, nf, ff, hk, pm, ctv, hf⟩ := made
  obtain ⟨F2, e2, r2, cF⟩ := rel_lam r1 hP kept T2
  obtain ⟨a, vs, rfl, ha, rl⟩ := asR_at r2 (rd.mono e2) ex
  obtain rfl : u = Value.ref a := rv1
  obtain ⟨its, rvs, hlst, hz⟩ := I2.list ha
  have hxl : xs.length = its.length := by rw [rl.length, rvs.length]
  have I3 : Inv X (pins ++ [(f, kla_obj "<lambda>" q params body scope (cloFrom X.env.cells scope.names []) pm k' ctv)]) σ H2 s2 := I2.pins_of fun pp hp => by
    rcases List.mem_append.mp hp with hp | hp
    · exact I2.pin pp (List.mem_append_right _ hp)
    · rw [List.mem_singleton.mp hp]
      refine ⟨hf, nf, fun z => ?_, fun z => ff ?_, fun v z => by cases z⟩
      · obtain ⟨mm, ⟨o, es, ep, ho, hd, _⟩, _⟩ := I2.loc
        rw [← z, hf] at ho
        cases ho
        cases hd
      · rcases I2.ok.stk with w | ⟨w, _⟩
        · rw [w]; exact z
        · rw [w]
          unfold frs at z ⊢
          rw [List.filterMap_cons]
          split
          · exact z
          · exact List.mem_cons_of_mem _ z
  show wpAny _ _ (call (.builtin "sorted") [.ref a] [(Str.ofString "key", .ref f)]) _ _ _
  refine keyI_sorted (JJ := fun i ks H' => ∃ F' ws, Same F2 F' ∧ Rel X.K F' M1 H' ∧ Vals ws ks ∧ RepL X.K F' ((xs.take i).map key) ws) I3 hlst.isList (by rw [← rvs.length]; exact hz) ⟨F2, [], Same.refl _, r2, .nil, RepL.nil⟩ (fun i u ks H' s' pins' hu I' sub' hj' => ?_) fun ks H' s' hkl I' hj' => ?_
  · obtain ⟨F', ws, e3, r3, qv, rk⟩ := hj'
    have hi : i < its.length := (List.getElem?_eq_some_iff.mp hu).1
    obtain ⟨y, hy⟩ : ∃ y, xs[i]? = some y := ⟨_, List.getElem?_eq_getElem (by omega)⟩
    obtain ⟨v, hv, rx⟩ := rl.get hy
    obtain ⟨u', hu', rv⟩ := rvs.get hv
    rw [hu] at hu'
    cases hu'
    have hf' := (I'.pin (f, kla_obj "<lambda>" q params body scope (cloFrom X.env.cells scope.names []) pm k' ctv) (List.mem_append_right _ (sub' _ (List.mem_append_right _ (.head _))))).1
    have ht : (xs.take (i + 1)).map key = (xs.take i).map key ++ [key y] := by
      rw [List.take_add_one, hy, List.map_append]
      rfl
    refine wpAny_mono (lam_call (A := X.A.in1.in1) (k := k) (Q := fun v H'' => ∃ F'', Same F' F'' ∧ Rel X.K F'' M1 H'' ∧ Rep X.K F'' (key y) v) I' hf' (r3.sub _ _ (e3 _ _ (cF k' hk))) (hbind _ _ _ _ _) S (cells_of I' S hfr hl hj) rv I'.ok.frames hr.in1.in1 (fun hr' => hb f k' s' H' F' (lam_ctx S.nd) hr')
      ⟨F', lamD δ js y, M1, _, Same.refl _, r3, slots_lam (sl.mono (e1.trans (e2.trans e3))) (rx.mono e3) hNg, hkey y (List.mem_of_getElem? hy), fun kd M2 F'' H'' v hh ee rr rv => ⟨F'', ee, rr.less hh.2, hh.1 ▸ rv⟩⟩) (fun w s'' hw => ?_) fun ee s'' hw => ?_
    · obtain ⟨v', H'', J, rv', F'', e4, r4, rk4⟩ := hw
      refine ⟨H'', J, F'', ws ++ [v'], e3.trans e4, r4, qv.append (.cons rv' .nil), ?_⟩
      rw [ht]
      exact (rk.mono e4).append (RepL.cons rk4 RepL.nil)
    · obtain ⟨_, _, _, _, _, _, _, _, _, _, _, _, z⟩ := hw
      exact z
  · obtain ⟨F', ws, e3, r3, qv, rk⟩ := hj'
    rw [← hxl, List.take_length] at rk
    have ek : EachIs (fun u d => ∃ v, RelV v u ∧ Rep X.K F' d v) ks (xs.map key) := each_of rk qv
    have er : EachIs (fun u d => ∃ as, Reads s'.heap u (enc d) as) ks (xs.map key) := (each_mem ek).mono fun u d ⟨⟨v, q1, q2⟩, hd⟩ => reads_of (hSb.ly d hd) (at_of I' (hSb.ly d hd) (q2.mono r3.sub) q1)
    refine ⟨(xs.map key).map enc, each_map er, allAlike hSb.al, sortable hSb.al hSb.tu, fun dd hd => ?_, fun pp out s'' np ko inv => ?_⟩
    · obtain ⟨d0, h0, rfl⟩ := List.mem_map.mp hd
      have h1 := depth_enc (hSb.ly d0 h0)
      have h2 := hr.un
      omega
    · rw [List.map_map] at ko
      have eo := keyedOut_each (fun x => enc (key x)) ko (each_of rl rvs)
      obtain ⟨ws', qw, rw'⟩ := of_each (xs := srtK key xs) eo
      have hwl : ws'.length ≤ sizeLine := by
        rw [← rw'.length, show (srtK key xs).length = xs.length from List.length_mergeSort _, rl.length]
        exact hz
      exact ⟨.ref pp, upd H' pp (.lst ws'), (inv ws' qw hwl).pins_of fun z hz => (inv ws' qw hwl).pin z (List.mem_append_right _ (List.mem_append_left _ hz)), rfl, m _ _ F' _ _ (hq pp (r3.free np)) (e1.trans (e2.trans e3)) (r3.new np ⟨ws', rfl, rw'.mono e3⟩) rep_ref⟩
end
end LM
set_option Elab.async false
set_option linter.all false
set_option maxRecDepth 100000
set_option maxHeartbeats 2000000
/-! LM6: the head with tables of code objects, the end -/
namespace LM
open PySem PySem.Spec PyProof.Rows L2 LamX NdefX DL DS DH DX
/-- the code object of the def at f, its table -/
def cdA (K : Frag) (f : Addr) : Addr := match K.lookup f with
  | some ⟨_, _, .func fd, _⟩ => (match fd.code with | .ref c => c | _ => 0)
  | _ => 0
def tbA (K : Frag) (f : Addr) : Addr := He.tabOf K (cdA K f)
/-- a def that makes lambdas: where, its lambdas' name -/
abbrev LamD : Type := (Frag → Addr) × Str
abbrev AlL : Type := AlT × Bool
def tabB (g : Addr → Option Obj) (K : Frag) (l : LamD) : Bool := PySem.W.codeHdIn K (cdA K (l.1 K)) (tbA K (l.1 K)) && (match g (tbA K (l.1 K)) with
  | some o => He.emptyTab o
  | none => false)
def ndB (K : Frag) (lf : List LamD) : Bool := decide (lf.map fun l => tbA K (l.1 K)).Nodup
def obsL (n : Nat) (file : Str) (ck : Frag → List Bool) (fn : List He5.DefA) (ini : List IniD) (ts : List TabD) (lf : List LamD) (g : Addr → Option Obj) : AlL :=
  (obsT file ck fn ini ts (He.frT g (asX g n)), lf.all (tabB g (He.frT g (asX g n))) && ndB (He.frT g (asX g n)) lf)
def valL (fn : List He5.DefA) (ini : List IniD) (ts : List TabD) (w : World) : AlL := (valT fn ini ts w, true)
structure SaysL (file : Str) (ck : Frag → List Bool) (fn : List He5.DefA) (ini : List IniD) (ts : List TabD) (lf : List LamD) (w : World) (h : Heap) (K : Frag) : Prop where
  t : SaysT file ck fn ini ts w K
  hd : ∀ l ∈ lf, PySem.W.codeHdIn K (cdA K (l.1 K)) (tbA K (l.1 K)) = true
  out : ∀ l ∈ lf, K.lookup (tbA K (l.1 K)) = none
  empty : ∀ l ∈ lf, h.get? (tbA K (l.1 K)) = some { cls := .none, data := .fields #[] }
  nd : (lf.map fun l => tbA K (l.1 K)).Nodup
theorem saysL_of {n : Nat} {file : Str} {ck : Frag → List Bool} {fn : List He5.DefA} {ini : List IniD} {ts : List TabD} {lf : List LamD} {w : World} {h : Heap} (e : obsL n file ck fn ini ts lf h.get? = valL fn ini ts w) : SaysL file ck fn ini ts lf w h (He.frT h.get? (asX h.get? n)) := by
  obtain ⟨h1, h2⟩ := He.ba (show (lf.all (tabB h.get? (He.frT h.get? (asX h.get? n))) && ndB (He.frT h.get? (asX h.get? n)) lf) = true from congrArg (fun z : AlL => z.2) e)
  have key : ∀ l ∈ lf, PySem.W.codeHdIn (He.frT h.get? (asX h.get? n)) (cdA (He.frT h.get? (asX h.get? n)) (l.1 (He.frT h.get? (asX h.get? n)))) (tbA (He.frT h.get? (asX h.get? n)) (l.1 (He.frT h.get? (asX h.get? n)))) = true ∧ ∃ o, h.get? (tbA (He.frT h.get? (asX h.get? n)) (l.1 (He.frT h.get? (asX h.get? n)))) = some o ∧ He.emptyTab o = true := fun l hl => by
    obtain ⟨h3, h4⟩ := He.ba (List.all_eq_true.mp h1 l hl)
    refine ⟨h3, ?_⟩
    split at h4
    · rename_i o q
      exact ⟨o, q, h4⟩
    · cases h4
  refine ⟨congrArg (fun z : AlL => z.1) e, fun l hl => (key l hl).1, fun l hl => ?_, fun l hl => ?_, of_decide_eq_true h2⟩
  · obtain ⟨_, o, q, z⟩ := key l hl
    exact He.frT_none q z
  · obtain ⟨_, o, q, z⟩ := key l hl
    rw [q, He.emptyTab_eq z]
def hookL (n : Nat) (file : Str) (ck : Frag → List Bool) (fn : List He5.DefA) (ini : List IniD) (ts : List TabD) (lf : List LamD) : PySem.W.Hook where
  α := AlL
  obs := fun s => obsL n file ck fn ini ts lf s.heap.get?
  val := fun w => valL fn ini ts w
  says := fun w h => ∃ K : Frag, K.In h ∧ SaysL file ck fn ini ts lf w h K
  of := fun _ _ e => ⟨_, He.frT_in, saysL_of e⟩
  keeps := fun _ _ _ ⟨K, hK, c⟩ k => ⟨K, PySem.W.Frag.In.keeps hK k, ⟨c.t, c.hd, c.out, fun p hp => k _ _ (c.empty p hp), c.nd⟩⟩
theorem obsL_eq {n : Nat} {file : Str} {ck : Frag → List Bool} {fn : List He5.DefA} {ini : List IniD} {ts : List TabD} {lf : List LamD} {g : Addr → Option Obj} {s : Shared} (h : ∀ a, g a = s.heap.get? a) : obsL n file ck fn ini ts lf g = (hookL n file ck fn ini ts lf).obs s := by
  have e : g = s.heap.get? := funext h
  rw [e]; rfl
/-- what a base tells of the tables -/
def Tbs (lf : List LamD) (K : Frag) (mg : Str → Option Value) (base : Heap) : Prop := ∀ l ∈ lf, LamX.TabB base mg (cdA K (l.1 K)) (tbA K (l.1 K))
theorem Tbs.at {lf : List LamD} {K : Frag} {mg : Str → Option Value} {base : Heap} (h : Tbs lf K mg base) (i : Nat) {l : LamD} (e : lf[i]? = some l := by rfl) : LamX.TabB base mg (cdA K (l.1 K)) (tbA K (l.1 K)) := h l (List.mem_of_getElem? e)
/-- the tables in M -/
def TM (lf : List LamD) (K : Frag) (M : DM) : Prop := ∀ l ∈ lf, M (tbA K (l.1 K)) = some (.tab l.2)
def tabM (lf : List LamD) (K : Frag) : DM := fun b => (lf.find? fun l => tbA K (l.1 K) == b).map fun l => MO.tab l.2
theorem find_nd {α : Type} {f : α → Addr} : ∀ {l : List α} {x : α}, (l.map f).Nodup → x ∈ l → l.find? (fun y => f y == f x) = some x
  | y :: l, x, h, hx => by
    rw [List.map_cons, List.nodup_cons] at h
    rw [List.find?_cons]
    by_cases e : f y = f x
    · rw [show (f y == f x) = true by simpa using e]
      rcases List.mem_cons.mp hx with rfl | hx
      · rfl
      · exact (h.1 (List.mem_map.mpr ⟨x, hx, e.symm⟩)).elim
    · rw [show (f y == f x) = false by simpa using e]
      rcases List.mem_cons.mp hx with rfl | hx
      · exact (e rfl).elim
      · exact find_nd h.2 hx
theorem tabM_ok {lf : List LamD} {K : Frag} (h : (lf.map fun l => tbA K (l.1 K)).Nodup) : TM lf K (tabM lf K) := fun l hl => by
  unfold tabM
  rw [find_nd (f := fun l : LamD => tbA K (l.1 K)) h hl]
  rfl
theorem TM.ext {lf : List LamD} {K : Frag} {M M' : DM} (h : TM lf K M) (e : ∀ a m, M a = some m → M' a = some m) : TM lf K M' := fun l hl => e _ _ (h l hl)
theorem TM.at {lf : List LamD} {K : Frag} {M : DM} (h : TM lf K M) (i : Nat) {l : LamD} (e : lf[i]? = some l := by rfl) : M (tbA K (l.1 K)) = some (.tab l.2) := h l (List.mem_of_getElem? e)
theorem TM.ne {lf : List LamD} {K : Frag} {M : DM} (h : TM lf K M) {p : Addr} (hp : ∀ q, M p ≠ some (.tab q)) {l : LamD} (hl : l ∈ lf) : tbA K (l.1 K) ≠ p := fun e => hp l.2 (e ▸ h l hl)
/-- M grows or an object that is no table is written -/
theorem TM.put {lf : List LamD} {K : Frag} {M : DM} {p : Addr} {o : MO} (h : TM lf K M) (hp : ∀ q, M p ≠ some (.tab q)) : TM lf K (put M p o) := fun l hl => by
  rw [put_ne (h.ne hp hl)]; exact h l hl
theorem TM.put_none {lf : List LamD} {K : Frag} {M : DM} {p : Addr} {o : MO} (h : TM lf K M) (hp : M p = none) : TM lf K (DL.put M p o) := h.put fun q e => by rw [hp] at e; cases e
theorem TM.put_lst {lf : List LamD} {K : Frag} {M : DM} {p : Addr} {o : MO} {xs : List D} (h : TM lf K M) (hp : M p = some (.lst xs)) : TM lf K (DL.put M p o) := h.put fun q e => by rw [hp] at e; cases e
theorem TM.put_ins {lf : List LamD} {K : Frag} {M : DM} {p C : Addr} {o : MO} {fs : List (Str × D)} (h : TM lf K M) (hp : M p = some (.ins C fs)) : TM lf K (DL.put M p o) := h.put fun q e => by rw [hp] at e; cases e
theorem cdA_eq {K : Frag} {f c : Addr} {oc : Value} {od : Option Addr} {osl : Array (Option Value)} {fd : FuncData} (lk : K.lookup f = some ⟨oc, od, .func fd, osl⟩) (e : fd.code = .ref c) : cdA K f = c := by
  unfold cdA
  rw [lk]
  show (match fd.code with | .ref c => c | _ => 0) = c
  rw [e]
/-- a def by its body, its code object told -/
theorem dfnC {P : Program} {w : World} {K : PySem.W.Frag} {mg : Str → Option Value} {base : Heap} {k : Nat} {x qual : Str} {params : Arguments} {body : List Stmt} {scope : Scope} {dvs : List V} {kws : List (Str × V)} {f : Addr} {fd : FuncData} {N ps : List Str} {dsp : DSp}
    (F : FunD K x qual params body scope dvs kws f fd) (S : FnScope N ps scope) (len : ∀ ds M Q E, dsp ds M Q E → ds.length = ps.length)
    (hb : ∀ (cdv : Value) (A : Around) (outer : List Env) (s : Shared) (H : Hp) (E : XK) (F0 : Hp) (W : DXK), cdv = .ref (cdA K f) → Ctx (cxOf (L2.CX P w) P w K mg base N qual scope f cdv A outer s H E) F0 (fun C fs _ M => upX W C fs M) →
      Room k (cxOf (L2.CX P w) P w K mg base N qual scope f cdv A outer s H E).A → ∃ t, DPSs (cxOf (L2.CX P w) P w K mg base N qual scope f cdv A outer s H E) F0 body t ∧ ∀ ds M Q, dsp ds M Q W → t (endsF Q) (startD N ds) M) :
    DFn P w K mg base (k + 1) f fd ps dsp := by
  obtain ⟨oc, od, dV, kV, doc, pm, an, cdv, ct, osl, rfl, lk, hcd, _, _⟩ := F.ex
  obtain ⟨c, rfl⟩ := He.codeIn_ref hcd
  have ec : cdA K f = c := cdA_eq lk rfl
  refine fn_of lk hcd S (fun vs H Q E h => ?_) (fun A outer s H vs Q E hr h => ?_)
  · obtain ⟨F1, M, ds, QD, ED, r, rs, h, _⟩ := h
    rw [← rs.length]; exact len _ _ _ _ h
  · obtain ⟨F1, M, ds, QD, ED, r, rs, h, mq, me⟩ := h
    have tk0 : Takes (cxOf (L2.CX P w) P w K mg base N qual scope f (.ref c) A outer s H E) (fun cls d _ H' => E cls d H') := takes_of rfl rfl rfl rfl
    have cc : Ctx (cxOf (L2.CX P w) P w K mg base N qual scope f (.ref c) A outer s H E) F1 (fun C fs _ M => upX ED C fs M) :=
      ⟨rfl, tk0.imp fun cls d σ H' ⟨C, fs, δ, M1, F2, dx, vs, h1, h2, h3, h4, h5, h6, h7, M2, le, h8⟩ => me cls d H' ⟨C, fs, M2, F2, dx, vs, h1, h2, h3, h4.less le, h6, h7, h8⟩, passes_of rfl, S.nd⟩
    obtain ⟨t, ht, hq⟩ := hb (.ref c) A outer s H E F1 ED (by rw [ec]) cc hr
    refine ⟨_, ht, F1, startD N ds, M, endsF QD, Same.refl F1, r, slots_start rs, hq ds M QD h, ⟨fun δ M1 F2 σ H1 q e r1 s1 => mq.up _ M1 F2 H1 _ q e r1 rep_non, mq.up, fun _ _ _ _ _ q => q.elim, fun _ _ _ _ _ q => q.elim⟩⟩
/-! ### the end -/
/-- a law's promise with tables: of every script it tells True -/
def TellsL (lf : List LamD) (K : Frag) (dsp : DSp) : Prop := ∀ (ns : List Int) (M : DM), ns.length ≤ 63 → TM lf K M → dsp [.scr (ns.map D.int)] M (fun d _ => d = .bl true) (fun _ _ _ => False)
theorem TellsL.low {lf : List LamD} {K : Frag} {dsp : DSp} (h : TellsL lf K dsp) (nd : (lf.map fun l => tbA K (l.1 K)).Nodup) {H : Hp} {a : Addr} {ns : List Int} (hl : ns.length ≤ 63) (hT : ∀ l ∈ lf, H (tbA K (l.1 K)) = some (.tbl #[])) (hs : SqL K H a (ns.map V.int)) : lowSp K dsp [.ref a] H (fun v _ => v = .bl true) fun _ _ _ => False := by
  classical
  let F : Hp := fun b => if b ∈ lf.map (fun l => tbA K (l.1 K)) then none else H b
  have sF : Same F H := fun b o e => by
    have e : (if b ∈ lf.map (fun l => tbA K (l.1 K)) then none else H b) = some o := e
    split at e
    · cases e
    · exact e
  have nF : ∀ b, b ∉ lf.map (fun l => tbA K (l.1 K)) → F b = H b := fun b hb => if_neg hb
  have hs' : SqL K F a (ns.map V.int) := by
    have nt : ∀ o, H a = some o → (∀ ps, o ≠ .tbl ps) → F a = some o := fun o ho hn => by
      rw [nF a fun hm => by
        obtain ⟨l, hl, e⟩ := List.mem_map.mp hm
        have := hT l hl
        rw [e, ho] at this
        exact hn _ (Option.some.inj this)]
      exact ho
    rcases hs with (h | ⟨o, h⟩) | h
    · exact .inl (.inl (nt _ h fun ps z => by cases z))
    · exact .inl (.inr ⟨o, nt _ h fun ps z => by cases z⟩)
    · exact .inr h
  refine ⟨F, tabM lf K, [.scr (ns.map D.int)], fun d _ => d = .bl true, fun _ _ _ => False, ⟨sF, fun b m e => ?_⟩, RepL.cons ?_ RepL.nil, h ns _ hl (tabM_ok nd), fun d M F' H' v q _ _ x => ?_, fun cls d H' ⟨_, _, _, _, _, _, _, _, _, _, _, _, z⟩ => z.elim⟩
  · unfold tabM at e
    cases q : lf.find? (fun l => tbA K (l.1 K) == b) with
    | none => rw [q] at e; cases e
    | some l =>
      rw [q] at e
      cases e
      have hm := List.mem_of_find?_eq_some q
      have hb : tbA K (l.1 K) = b := by simpa using List.find?_some q
      subst hb
      exact ⟨if_pos (List.mem_map.mpr ⟨l, hm, rfl⟩), _, hT l hm, #[], rfl, True.intro, fun pos cv hc => by
        have z : codeAmong pos [] = some cv := hc
        simp [codeAmong] at z⟩
  · unfold Rep
    exact ⟨a, ns.map V.int, rfl, hs', repL_ints ns⟩
  · subst q
    unfold Rep at x
    exact x
theorem walkL {l : PySem.W.OpenLaw} {k : Nat} {q : Program} {loose : List Str} {XP : (Str → Option Value) → Heap → Prop} {d : DefRec} {x : Str} {file : Str} {ck : Frag → List Bool} {fn : List He5.DefA} {ini : List IniD} {ts : List TabD} {lf : List LamD}
    (hn : l.most = some 63) (hdf : d.params.defaults = []) (hr : Room k callerA)
    (G : ∀ (w : World) (mg : Str → Option Value) (fa : Addr) (h : Heap) (K : Frag), K.In h → SaysL file ck fn ini ts lf w h K → h.Ns mainGlobals mg → mg d.name = some (.ref fa) →
      ∃ (fd : FuncData) (dsp : DSp), (∀ (s : Shared) (u : Value), BindsTo s fd ⟨[u], []⟩ [(x, u)]) ∧ TellsL lf K dsp ∧
        ∀ base : Heap, K.In base → base.Ns mainGlobals mg → Tbs lf K mg base → DFn l.prog w K mg base k fa fd [x] dsp) :
    PySem.W.WalkO q loose XP (fun w h => ∃ K : Frag, K.In h ∧ SaysL file ck fn ini ts lf w h K) l.row.toRowW d [] (fun f vs => PySem.call f vs) := by
  refine LamX.walk_ofTsE (n := 63) (CX := fun w => L2.CX l.prog w) (x := x) hn size63 hdf hr (fun w mg fa h Y hns hmg => ?_) fun w H s e s' z => cx_none z
  obtain ⟨K, KX, c⟩ := Y
  obtain ⟨fd, dsp, hb, ht, hF⟩ := G w mg fa h K KX c hns hmg
  have mem : ∀ {R : Addr × Addr → Prop}, (∀ l ∈ lf, R (cdA K (l.1 K), tbA K (l.1 K))) → ∀ p ∈ lf.map (fun l => (cdA K (l.1 K), tbA K (l.1 K))), R p := fun {R} hR p hp => by
    obtain ⟨l, hl, rfl⟩ := List.mem_map.mp hp
    exact hR l hl
  refine ⟨K, KX, fd, lf.map fun l => (cdA K (l.1 K), tbA K (l.1 K)), lowSp K dsp, mem c.empty, mem c.out, mem fun l hl => PySem.W.codeHd_of_K KX (c.hd l hl), hb, fun H a ns hl _ hT hS => ht.low c.nd hl (fun l hl => hT _ (List.mem_map.mpr ⟨l, hl, rfl⟩)) hS, fun base hKb hns' hT => hF base hKb hns' fun l hl => hT _ (List.mem_map.mpr ⟨l, hl, rfl⟩)⟩
/-- the lambda's names, by a look -/
def lamB (N : List Str) (sc scope : Scope) (Ng : List Str) (x : Str) (fr : List Str) (js : List Nat) : Bool := nscB Ng [x] fr scope && (decide (∀ y ∈ scope.names, y.2 = .free → sc.names.lookup y.1 = some .cell ∨ sc.names.lookup y.1 = some .free) && (decide (js.map (fun j => N[j]?) = fr.map some) && decide (Ng.length = js.length + 1)))
structure LamOk (N : List Str) (sc scope : Scope) (Ng : List Str) (x : Str) (fr : List Str) (js : List Nat) : Prop where
  S : NScope Ng [x] fr scope
  hfr : ∀ y ∈ scope.names, y.2 = .free → sc.names.lookup y.1 = some .cell ∨ sc.names.lookup y.1 = some .free
  hl : js.length = fr.length
  hj : ∀ (i : Nat) (y : Str), fr[i]? = some y → ∃ j, js[i]? = some j ∧ N[j]? = some y
  hNg : Ng.length = js.length + 1
theorem lam_of {N : List Str} {sc scope : Scope} {Ng : List Str} {x : Str} {fr : List Str} {js : List Nat} (h : lamB N sc scope Ng x fr js = true) : LamOk N sc scope Ng x fr js := by
  obtain ⟨h1, h⟩ := He.ba h
  obtain ⟨h2, h⟩ := He.ba h
  obtain ⟨h3, h4⟩ := He.ba h
  have e := of_decide_eq_true h3
  refine ⟨nscope_by h1, of_decide_eq_true h2, ?_, fun i y hy => ?_, of_decide_eq_true h4⟩
  · simpa using congrArg List.length e
  · have e2 : (js.map (fun j => N[j]?))[i]? = (fr.map some)[i]? := by rw [e]
    rw [List.getElem?_map, List.getElem?_map, hy] at e2
    cases q : js[i]? with
    | none => rw [q] at e2; cases e2
    | some j =>
      rw [q] at e2
      exact ⟨j, rfl, Option.some.inj e2⟩
section
variable {X : Cx} {F0 : Hp}
theorem dpe_sortL {k : Nat} {f0 : Addr} {q : Str} {te tb : DTE} {js : List Nat} {fr Ng N : List Str} {sc : Scope} {x : Str} {e : Expr} {params : Arguments} {body : Expr} {scope : Scope} {p pos lpos kpos : Pos} (hm : X.mg "sorted" = none) (hr : Room (k + 3) X.A) (B : LamX.TabB X.base X.mg (cdA X.K f0) (tbA X.K f0)) (hcode : X.env.code = .ref (cdA X.K f0)) (L : LamOk N sc scope Ng x fr js) (hN : X.N = N) (hsc : X.env.scope = sc) (hqn : X.env.qual ++ "<lambda>" = q)
    (he : DPE X F0 e te)
    (hb : ∀ (f k' : Addr) (s : Shared) (H F1 : Hp), Ctx (lamX X q params scope Ng f k' s H) F1 W0 → Room k (lamX X q params scope Ng f k' s H).A → DPE (lamX X q params scope Ng f k' s H) F1 body tb)
    (hdef : defaultsOf params X.env = ([], []) := by rfl) (hbind : ∀ (cl : List (Str × Addr)) (pm cv ctv u : Value), bindArgs (PySem.W.kla_fn "<lambda>" q params body scope cl pm cv ctv) ⟨[u], []⟩ = pure [(x, u)] := by intros; rfl) (hgl : Gl X "sorted" := by rfl) (hst : starEach [e] X.env = (false, eval e X.env) :: starEach [] X.env := by rfl) :
    DPE X F0 (.Call (.Name "sorted" p) [e] [⟨some (Str.ofString "key"), .Lambda params body scope lpos, kpos⟩] pos) (dSortLM (tbA X.K f0) q js tb te) :=
  dpe_sortLM hm hr B hcode hqn hdef L.S (by rw [hsc]; exact L.hfr) L.hl (by rw [hN]; exact L.hj) L.hNg hbind he hb hgl hst
end
end LM
set_option Elab.async false
set_option linter.all false
set_option maxRecDepth 100000
set_option maxHeartbeats 2000000
/-! LM7: sum(t) of a tuple of ints -/
namespace LM
open PySem PySem.Spec PyProof.Rows L2 DL
section
variable {X : Cx} {F0 : Hp}
def dSumT : DN := fun ds M Q => match ds with
  | [.tup xs] => (match intsD xs with | some ns => Q (.int ns.sum) M | none => False)
  | _ => False
theorem cr_dsumT (hc : X.calm = true) : CallR X (.builtin "sum") (lowN X.K F0 dSumT) := by
  intro pins s σ H xs us Q I rv h
  obtain ⟨F, M, ds, QD, e0, r, rs, q, m⟩ := h
  unfold dSumT at q
  split at q
  · rename_i zs
    obtain ⟨v, rfl, h1⟩ := rep1 rs
    split at q
    · rename_i ns en
      unfold Rep at h1
      obtain ⟨a, vs, rfl, ha, rl⟩ := h1
      rw [ints_rep rl en] at ha
      obtain ⟨its, rv2, pl, _⟩ := I.tuple (SqT_mono r.sub ha)
      rw [Vals.ref1 rv]
      have hi := rv2.ints
      obtain ⟨ys, e⟩ := hi.allInts.items
      have hn : numsOf (intItems ys).toList = ns := by rw [← e]; exact hi.numsOf
      rw [nums_intItems] at hn
      rw [e] at pl
      refine PySem.W.ktm_sumG (I.ok.hd hc) pl fun h' tk t' hk => ?_
      rw [preSum_eq, List.take_of_length_le (by simp), hn]
      exact ⟨.int _, H, I.kept hk, ⟨_, rfl⟩, m _ M F H _ q (Same.refl F) r rep_int⟩
    · exact q.elim
  · exact q.elim
@[simp] theorem dSumT_ints {M : DM} {Q : DK} (l : List Int) : dSumT [.tup (l.map D.int)] M Q = Q (.int l.sum) M := by
  have ei : ∀ l : List Int, intsD (l.map D.int) = some l := fun l => by
    induction l with
    | nil => rfl
    | cons x l ih => simp [intsD, ih]
  show (match intsD (l.map D.int) with | some ns => Q (.int ns.sum) M | none => False) = _
  rw [ei]
@[simp] theorem dSum_ints {M : DM} {Q : DK} (l : List Int) : dSum [.lst (l.map D.int)] M Q = Q (.int l.sum) M := by
  have ei : ∀ l : List Int, intsD (l.map D.int) = some l := fun l => by
    induction l with
    | nil => rfl
    | cons x l ih => simp [intsD, ih]
  show (match intsD (l.map D.int) with | some ns => Q (.int ns.sum) M | none => False) = _
  rw [ei]
end
end LM
set_option Elab.async false
set_option linter.all false
set_option maxRecDepth 100000
set_option maxHeartbeats 4000000
/-! PT7: forms, keys (plain) -/
namespace PL
open PySem PySem.Spec L2 DX DL DH DS
def permS (z : Str) : Bool := (cl z).isPerm (cl alpha)
def isWh : D → Bool
  | .int _ => true
  | _ => false
def inR : D → Bool
  | .int n => decide (1 ≤ n) && decide (n ≤ 1000)
  | _ => false
def isOrd (l c : D) : Bool := match l with
  | .str z => permS z && inR c
  | _ => false
/-- short enough -/
def short : D → Bool
  | .str z => decide (z.length ≤ 10000)
  | _ => true
/-! ### texts -/
/-- a row of single signs, as a row of numbers -/
theorem rising_chain : ∀ (l : List Nat) (p : Nat), PyProof.Rows.risingS ⟨#[p]⟩ (l.map fun c => (⟨#[c]⟩ : Str)) = true → (p :: l).Pairwise (· ≤ ·) := by
  intro l
  induction l with
  | nil => intro p _; simp
  | cons c l ih =>
    intro p h
    have h2 : (!ltCps [c] [p] && PyProof.Rows.risingS ⟨#[c]⟩ (l.map fun c => (⟨#[c]⟩ : Str))) = true := h
    simp only [Bool.and_eq_true, Bool.not_eq_true'] at h2
    obtain ⟨h3, h4⟩ := h2
    have hp : p ≤ c := by
      simp [ltCps] at h3
      exact h3
    have := ih c h4
    refine List.pairwise_cons.mpr ⟨fun x hx => ?_, this⟩
    rcases List.mem_cons.mp hx with rfl | hx
    · exact hp
    · exact Nat.le_trans hp ((List.pairwise_cons.mp this).1 x hx)
theorem sorted_chain (l : List Nat) (h : PyProof.Rows.sortedS (l.map fun c => (⟨#[c]⟩ : Str)) = true) : l.Pairwise (· ≤ ·) := by
  cases l with
  | nil => exact .nil
  | cons c l => exact rising_chain l c h
theorem signs_of {ys : List Str} {z : Str} (hp : ys.Perm (signs z)) : ∃ l : List Nat, ys = l.map (fun c => (⟨#[c]⟩ : Str)) ∧ l.Perm (cl z) := by
  have inj : ∀ ys : List Str, (∀ x ∈ ys, ∃ c : Nat, x = ⟨#[c]⟩) → ∃ l : List Nat, ys = l.map (fun c => (⟨#[c]⟩ : Str)) := by
    intro ys
    induction ys with
    | nil => intro _; exact ⟨[], rfl⟩
    | cons x ys ih =>
      intro h
      obtain ⟨c, rfl⟩ := h x (List.mem_cons_self ..)
      obtain ⟨l, rfl⟩ := ih fun x hx => h x (List.mem_cons_of_mem _ hx)
      exact ⟨c :: l, rfl⟩
  obtain ⟨l, rfl⟩ := inj ys fun x hx => by
    obtain ⟨c, _, e⟩ := List.mem_map.mp (hp.mem_iff.mp hx)
    exact ⟨c, e.symm⟩
  refine ⟨l, rfl, ?_⟩
  have h2 := hp.map (fun s : Str => s.cps.toList.headD 0)
  simpa [signs, List.map_map, Function.comp_def] using h2
theorem eqL_strs : ∀ (a b : List Str), eqL (a.map D.str) (b.map D.str) = decide (a = b)
  | [], [] => rfl
  | [], _ :: _ => rfl
  | _ :: _, [] => rfl
  | x :: a, y :: b => by
    have e : (x == y) = decide (x = y) := by by_cases h : x = y <;> simp [h]
    simp only [List.map_cons, eqL, eqD, eqL_strs a b, e, List.cons.injEq, Bool.decide_and]
theorem alpha_sorted : (cl alpha).Pairwise (· ≤ ·) := by decide +kernel
theorem order_str {z : Str} {ys : List Str} (hp : ys.Perm (signs z)) (hs : PyProof.Rows.sortedS ys = true) : eqD (.lst (ys.map D.str)) (.lst ((signs alpha).map D.str)) = permS z := by
  obtain ⟨l, rfl, hl⟩ := signs_of hp
  have so := sorted_chain l hs
  show eqL _ _ = _
  rw [eqL_strs]
  have key : (l.map (fun c => (⟨#[c]⟩ : Str)) = signs alpha) ↔ (cl z).Perm (cl alpha) := by
    constructor
    · intro e
      have e2 := congrArg (List.map fun s : Str => s.cps.toList.headD 0) e
      have e3 : l = cl alpha := by simpa [signs, List.map_map, Function.comp_def] using e2
      rw [← e3]; exact hl.symm
    · intro h
      have e3 : l = cl alpha := (hl.trans h).eq_of_pairwise (fun a b _ _ => Nat.le_antisymm) so alpha_sorted
      rw [e3]; rfl
  cases hz : permS z with
  | true => exact decide_eq_true (key.mpr (List.isPerm_iff.mp hz))
  | false =>
    refine decide_eq_false fun h => ?_
    have h2 : permS z = true := List.isPerm_iff.mpr (key.mp h)
    rw [hz] at h2
    cases h2
/-! ### letters -/
theorem permS_iff {z : Str} : permS z = true ↔ (cl z).Perm (cl alpha) := List.isPerm_iff
theorem perm_len {z : Str} (h : permS z = true) : (cl z).length = 26 := by
  rw [(permS_iff.mp h).length_eq]; decide +kernel
theorem alpha_nodup : (cl alpha).Nodup := by decide +kernel
theorem perm_nodup {z : Str} (h : permS z = true) : (cl z).Nodup := (permS_iff.mp h).nodup_iff.mpr alpha_nodup
theorem perm_mem {z : Str} (h : permS z = true) {c : Nat} (hc : c ∈ cl z) : c ∈ cl alpha := (permS_iff.mp h).mem_iff.mp hc
theorem permS_false {z : Str} (h : ¬ (cl z).Perm (cl alpha)) : permS z = false := by
  cases e : permS z with
  | false => rfl
  | true => exact absurd (permS_iff.mp e) h
theorem not_perm_len {z : Str} (h : (cl z).length ≠ 26) : permS z = false := permS_false fun p => h (by rw [p.length_eq]; decide +kernel)
theorem not_perm_mem {z : Str} {c : Nat} (hc : c ∈ cl z) (h : c ∉ cl alpha) : permS z = false := permS_false fun p => h (p.mem_iff.mp hc)
theorem not_perm_dup {z : Str} (h : ¬ (cl z).Nodup) : permS z = false := permS_false fun p => h (p.nodup_iff.mpr alpha_nodup)
theorem cl_mk (l : List Nat) : cl ⟨l.toArray⟩ = l := rfl
theorem sIx_some {n d : Nat} {i : Int} (h0 : 0 ≤ i) (h1 : i ≤ n) : HT.sIx n d (some i) = i.toNat := by
  show (if i < 0 then (i + (n : Int)).toNat else min i.toNat n) = _
  rw [if_neg (by omega)]
  omega
theorem cut_from {z : Str} {i : Int} (h0 : 0 ≤ i) (h1 : i ≤ (cl z).length) : cl (cutS z (some i) none) = (cl z).drop i.toNat := by
  rw [cl_cut, len_cl, sIx_some h0 (by omega)]
  show ((cl z).drop i.toNat).take ((cl z).length - i.toNat) = _
  rw [List.take_of_length_le (by rw [List.length_drop]; exact Nat.le_refl _)]
theorem cut_to {z : Str} {i : Int} (h0 : 0 ≤ i) (h1 : i ≤ (cl z).length) : cl (cutS z none (some i)) = (cl z).take i.toNat := by
  rw [cl_cut, len_cl, sIx_some h0 (by omega)]
  rfl
theorem cut_mid {z : Str} {i j : Int} (h0 : 0 ≤ i) (h1 : i ≤ j) (h2 : j ≤ (cl z).length) : cl (cutS z (some i) (some j)) = ((cl z).drop i.toNat).take (j.toNat - i.toNat) := by
  rw [cl_cut, len_cl, sIx_some h0 (by omega), sIx_some (by omega) h2]
theorem short_len {z : Str} (h : permS z = true) : z.length ≤ sizeLine := by rw [len_cl, perm_len h]; exact small (by decide)
/-- one letter taken to the place k -/
theorem move_perm (l : List Nat) {k i : Nat} (h1 : k ≤ i) (h2 : i < l.length) : (l.take k ++ [l[i]] ++ ((l.drop k).take (i - k) ++ l.drop (i + 1))).Perm l := by
  have e : l = l.take k ++ ((l.drop k).take (i - k) ++ (l[i] :: l.drop (i + 1))) := by
    have e1 : l.drop k = (l.drop k).take (i - k) ++ l.drop i := by
      conv => lhs; rw [← List.take_append_drop (i - k) (l.drop k)]
      rw [List.drop_drop, show k + (i - k) = i by omega]
    rw [← List.drop_eq_getElem_cons h2, ← e1, List.take_append_drop]
  conv => rhs; rw [e]
  rw [List.append_assoc]
  refine List.Perm.append_left _ ?_
  simp only [List.singleton_append]
  exact List.perm_middle.symm

theorem alpha_perm : permS alpha = true := by decide +kernel
/-! ### keys -/
def rk (z : Str) (c : Nat) : Int := match Builtin.Str.occurrences z ⟨#[c]⟩ 0 z.length 1 with
  | i :: _ => ((i : Nat) : Int)
  | [] => 0
theorem dIndexS_one {z : Str} {c : Nat} {M : DM} {Q : DK} (h : c ∈ cl z) (q : Q (.int (rk z c)) M) : dIndexS (.str z) [one c] M Q := by
  have e := PySem.StrLaws.found_one z c
  have e2 : decide (c ∈ z.cps.toList) = true := decide_eq_true h
  rw [e2] at e
  unfold rk at q
  show (match Builtin.Str.occurrences z ⟨#[c]⟩ 0 z.length 1 with | i :: _ => Q (.int (i : Nat)) M | [] => False)
  cases o : Builtin.Str.occurrences z ⟨#[c]⟩ 0 z.length 1 with
  | nil => rw [o] at e; cases e
  | cons i r => rw [o] at q; exact q
def rks (z n : Str) : List Int := (cl n).map (rk z)
def chn (z : Str) (m : Int) (n : Str) : Int := (rks z n).sum % m
def rkD (z n : Str) : List D := (rks z n).map D.int
def keyT (z : Str) (m : Int) (n : Str) : D := .tup [.int (chn z m n), .tup (rkD z n)]
def keyL (z : Str) (m : Int) (n : Str) : D := .tup [.int (chn z m n), .lst (rkD z n)]
/-- the key of a name -/
def kT (z : Str) (m : Int) : D → D
  | .str n => keyT z m n
  | d => d
def kL (z : Str) (m : Int) : D → D
  | .str n => keyL z m n
  | d => d
/-- the names in the order of the form -/
def ordN (z : Str) (m : Int) (xs : List D) : List D := LM.srtK (kT z m) xs
theorem toks_TL {z : Str} {m : Int} (d : D) : PySem.W.keyToks (enc (kL z m d)) = PySem.W.keyToks (enc (kT z m d)) := by
  cases d <;> simp [kL, kT, keyL, keyT, enc, encs, PySem.W.keyToks, PySem.W.keyToksAll]
theorem srtK_L {z : Str} {m : Int} {xs : List D} : LM.srtK (kL z m) xs = ordN z m xs := by
  unfold ordN LM.srtK
  congr 1
  funext a b
  unfold PySem.W.dataLe
  simp only [PySem.W.sortLe, toks_TL]
theorem ints_like : ∀ a b : List Int, likeL (a.map D.int) (b.map D.int) = true
  | [], _ => by cases ‹List Int› <;> rfl
  | x :: a, [] => rfl
  | x :: a, y :: b => by simp only [List.map_cons, likeL, like, ints_like a b, Bool.and_self]
theorem likeT {z : Str} {m : Int} {a b : Str} : like (keyT z m a) (keyT z m b) = true := by
  simp [keyT, like, likeL, rkD, ints_like]
theorem likeLk {z : Str} {m : Int} {a b : Str} : like (keyL z m a) (keyL z m b) = true := by
  simp [keyL, like, likeL, rkD, ints_like]
theorem ints_lay {n : Nat} (a : List Int) : (a.map D.int).all (lay n) = true := by simp
theorem layT {z : Str} {m : Int} {a : Str} {n : Nat} : lay (n + 2) (keyT z m a) = true := by simp [keyT, lay, rkD]
theorem layL {z : Str} {m : Int} {a : Str} {n : Nat} : lay (n + 2) (keyL z m a) = true := by simp [keyL, lay, rkD]
theorem lt_TL {z : Str} {m : Int} {a b : Str} : ltD (keyL z m a) (keyL z m b) = ltD (keyT z m a) (keyT z m b) := by
  rw [ltD_toks likeLk, ltD_toks likeT]
  have h := fun s : Str => toks_TL (z := z) (m := m) (.str s)
  simp only [kL, kT] at h
  rw [h, h]
theorem sbT {z : Str} {m : Int} (xs : List Str) : Sb ((xs.map D.str).map (kT z m)) := by
  refine ⟨fun x hx y hy => ?_, .inl fun x hx => ?_, fun x hx => ?_⟩
  · obtain ⟨u, hu, rfl⟩ := List.mem_map.mp hx
    obtain ⟨a, _, rfl⟩ := List.mem_map.mp hu
    obtain ⟨v, hv, rfl⟩ := List.mem_map.mp hy
    obtain ⟨b, _, rfl⟩ := List.mem_map.mp hv
    exact likeT
  · obtain ⟨u, hu, rfl⟩ := List.mem_map.mp hx
    obtain ⟨a, _, rfl⟩ := List.mem_map.mp hu
    exact ⟨_, _, rfl⟩
  · obtain ⟨u, hu, rfl⟩ := List.mem_map.mp hx
    obtain ⟨a, _, rfl⟩ := List.mem_map.mp hu
    exact layT
theorem sbL {z : Str} {m : Int} (xs : List Str) : Sb ((xs.map D.str).map (kL z m)) := by
  refine ⟨fun x hx y hy => ?_, .inl fun x hx => ?_, fun x hx => ?_⟩
  · obtain ⟨u, hu, rfl⟩ := List.mem_map.mp hx
    obtain ⟨a, _, rfl⟩ := List.mem_map.mp hu
    obtain ⟨v, hv, rfl⟩ := List.mem_map.mp hy
    obtain ⟨b, _, rfl⟩ := List.mem_map.mp hv
    exact likeLk
  · obtain ⟨u, hu, rfl⟩ := List.mem_map.mp hx
    obtain ⟨a, _, rfl⟩ := List.mem_map.mp hu
    exact ⟨_, _, rfl⟩
  · obtain ⟨u, hu, rfl⟩ := List.mem_map.mp hx
    obtain ⟨a, _, rfl⟩ := List.mem_map.mp hu
    exact layL
theorem ordN_perm {z : Str} {m : Int} {xs : List D} : (ordN z m xs).Perm xs := List.mergeSort_perm ..
theorem ordN_strs {z : Str} {m : Int} (xs : List Str) : ∃ ys : List Str, ys.Perm xs ∧ ordN z m (xs.map D.str) = ys.map D.str := by
  obtain ⟨bs, h1, h2⟩ := perm_map_inv (ordN_perm (z := z) (m := m) (xs := xs.map D.str)) xs rfl
  exact ⟨bs, h1, h2⟩
theorem ordN_lay {z : Str} {m : Int} {xs : List Str} {n : Nat} : (ordN z m (xs.map D.str)).all (lay n) = true := by
  obtain ⟨ys, _, e⟩ := ordN_strs (z := z) (m := m) xs
  rw [e]; simp
/-- a letter of a name is one of the form's -/
theorem nm_in {z n : Str} (hz : permS z = true) (hn : nm n = true) {c : Nat} (hc : c ∈ cl n) : c ∈ cl z := (permS_iff.mp hz).mem_iff.mpr ((nm_iff.mp hn).2.2 c hc)
end PL
set_option Elab.async false
set_option linter.all false
set_option maxRecDepth 100000
set_option maxHeartbeats 1000000
/-! PT8: small steps of readings -/
namespace PL
open PySem PySem.Spec L2 DX DL DH DS
section
variable {K : Frag} {M : DM} {Q : DK} {δ : DSt} {w w' : Bool} {te : DTE} {E : DEnds} {wx : DW}
theorem and_bl {ta tb : DTE} (e0 : ∀ R : DK, R (.bl w) M → ta δ M R) (e1 : ∀ R : DK, R (.bl w') M → tb δ M R) (q : Q (.bl (w && w')) M) : dAndV ta tb δ M Q := by
  simp only [dAndV]
  refine e0 _ ?_
  cases w
  · simpa using q
  · simpa using e1 _ q
theorem or_bl {ta tb : DTE} (e0 : ∀ R : DK, R (.bl w) M → ta δ M R) (e1 : ∀ R : DK, R (.bl w') M → tb δ M R) (q : Q (.bl (w || w')) M) : dOrV ta tb δ M Q := by
  simp only [dOrV]
  refine e0 _ ?_
  cases w
  · simpa using e1 _ q
  · simpa using q
theorem ne_bl {ta tb : DTE} (e0 : ∀ R : DK, R (.bl w) M → ta δ M R) (e1 : ∀ R : DK, R (.bl w') M → tb δ M R) (q : Q (.bl (!(w == w'))) M) : dOp dNe ta tb δ M Q := by
  simp only [dOp]
  refine e0 _ (e1 _ ?_)
  rw [dNe_bb]; exact q
theorem ne_bl_t {ta tb : DTE} {k : Bool → DM → Prop} (e0 : ∀ R : DK, R (.bl w) M → ta δ M R) (e1 : ∀ R : DK, R (.bl w) M → tb δ M R) (q : k false M) : dB (dOp dNe ta tb) δ M k := by
  simp only [dB]
  exact ne_bl e0 e1 (by simpa using q)
theorem or_f {t t' : DTT} {k : Bool → DM → Prop} (e0 : ∀ k : Bool → DM → Prop, k false M → t δ M k) (e1 : ∀ k : Bool → DM → Prop, k false M → t' δ M k) (q : k false M) : dOr t t' δ M k := by
  simp only [dOr]
  refine e0 _ ?_
  simpa using e1 _ q
theorem not_t {t : DTT} {k : Bool → DM → Prop} (e0 : ∀ k : Bool → DM → Prop, k true M → t δ M k) (q : k false M) : dNot t δ M k := by
  simp only [dNot]
  exact e0 _ q
theorem skip_if {t : DTT} {a tr : DTS} {E : DEnds} (e : ∀ k : Bool → DM → Prop, k false M → t δ M k) (q : tr E δ M) : dSeq (dIfS t a dNext) tr E δ M := by
  simp only [dSeq, dIfS]
  refine e _ ?_
  simpa using q
theorem val_t {te : DTE} {b : Bool} {k : Bool → DM → Prop} (e : ∀ R : DK, R (.bl b) M → te δ M R) (q : k b M) : dB te δ M k := by
  simp only [dB]
  exact e _ q
theorem seq_set {te : DTE} {tr : DTS} {i : Nat} (h : te δ M fun d M1 => tr E (δ.set i (some d)) M1) : dSeq (dSet i te) tr E δ M := h
theorem go_op {f : D2} {ta tb : DTE} (h : ta δ M fun u M1 => tb δ M1 fun v M2 => f u v M2 Q) : dOp f ta tb δ M Q := h
theorem go_lst {ta : DTA} (h : ta δ M fun ds M1 => ds.length ≤ sizeLine ∧ Q (.lst ds) M1) : dLst ta δ M Q := h
theorem go_tup {ta : DTA} (h : ta δ M fun ds M1 => ds.length ≤ sizeLine ∧ Q (.tup ds) M1) : dTup ta δ M Q := h
theorem go_c2 {te : DTE} {ta : DTA} {R : List D → DM → Prop} (h : te δ M fun d M1 => ta δ M1 fun ds M2 => R (d :: ds) M2) : dCons te ta δ M R := h
theorem go_ret {te : DTE} (h : te δ M E.rt) : dRet te E δ M := h
theorem go_for {g : DTG} {tb : DTS} {zs : List D} (h0 : Ev te δ M (.lst zs)) (h : forR g tb (fun M2 => asR M2 (.lst zs) = some zs) E zs δ M) : dFor (dSeqI te) g tb E δ M := h0 _ h
end
def fL : D → Option D
  | .str s => if (s.cps.toList.all fun c => decide (c ∈ alpha.cps.toList)) = true then none else some (.str s)
  | _ => none
theorem fL_one {c : Nat} : fL (DL.one c) = if decide (c ∈ alpha.cps.toList) = true then none else some (DL.one c) := by
  simp [fL, DL.one]
theorem fL_map : ∀ l : List Nat, eqD (.lst ((l.map DL.one).filterMap fL)) (.lst []) = l.all fun c => decide (c ∈ alpha.cps.toList)
  | [] => rfl
  | c :: l => by
    rw [List.map_cons, List.filterMap_cons, fL_one, List.all_cons]
    by_cases h : c ∈ alpha.cps.toList
    · simpa [h] using fL_map l
    · simp [h, eqD, eqL]
theorem fL_lay (l : List Nat) : lay 60 (.lst ((l.map DL.one).filterMap fL)) = true := by
  refine List.all_eq_true.mpr fun x hx => ?_
  obtain ⟨y, hy, e⟩ := List.mem_filterMap.mp hx
  obtain ⟨c, _, rfl⟩ := List.mem_map.mp hy
  rw [fL_one] at e
  split at e
  · cases e
  · cases e; rfl

theorem put_id {M : DM} {q : Addr} {m : MO} (h : M q = some m) : put M q m = M := by
  funext x
  by_cases hx : x = q
  · rw [hx, put_same, h]
  · rw [put_ne hx]
/-- a list, frozen or written -/
def lsD (M : DM) (d : D) (xs : List D) : Prop := d = .lst xs ∨ ∃ p, d = .ref p ∧ M p = some (.lst xs)
section
variable {K : Frag} {M : DM} {Q : DK}
theorem lsD.asR {v : D} {xs : List D} (h : lsD M v xs) : asR M v = some xs := by
  rcases h with rfl | ⟨p, rfl, h⟩
  · rfl
  · exact asR_ref h
theorem lsD.isi {v : D} {xs : List D} (h : lsD M v xs) (q : Q (.bl true) M) : dIsi K [v, .ty "list"] M Q := by
  rcases h with rfl | ⟨p, rfl, h⟩
  · exact isi_list rfl q
  · exact isi_listR h q
/-- [x for x in v if ..], v a list that is not written meanwhile -/
theorem lc_ls {st : DStep} {te : DTE} {δ : DSt} {v : D} {xs : List D} (f : D → Option D) (hv : lsD M v xs) (he : Ev te δ M v) (hs : ∀ x ∈ xs, ∀ p acc K, M p = none → K (f x) (put M p (.lst acc)) → st x δ (put M p (.lst acc)) K) (hl : xs.length ≤ sizeLine) (q : Q (.lst (xs.filterMap f)) M) : dLc st (dSeqI te) δ M Q := by
  have go : ∀ p, M p = none → lcR st (fun M2 => asR M2 v = some xs) δ p (fun acc M2 => Q (.lst acc) (drp M2 p)) xs [] (put M p (.lst [])) := fun p hp => by
    have kp : ∀ acc, asR (put M p (.lst acc)) v = some xs := fun acc => by
      rcases hv with rfl | ⟨p', rfl, h⟩
      · rfl
      · exact asR_ref (by rw [put_ne' h hp])
    refine lc_pure f xs [] (fun x hx M' K e k => ?_) (fun acc => kp acc) (by simpa using hl) ?_
    · obtain ⟨acc, rfl⟩ := e
      exact hs x hx p acc K hp k
    · rw [List.nil_append, drp_put hp]; exact q
  unfold dLc dSeqI
  refine he _ ?_
  rcases hv with rfl | ⟨p', rfl, h⟩
  · exact go
  · show (match asR M (.ref p') with | some xs => _ | none => False)
    rw [asR_ref h]
    exact go
theorem lsD.mono {M' : DM} {v : D} {xs : List D} (s : sub M M') (h : lsD M v xs) : lsD M' v xs := h.imp id fun ⟨p, e, h⟩ => ⟨p, e, s _ _ h⟩
/-- what is no name -/
def fN (x : D) : Option D := if nmD x = true then none else some x
theorem fN_eq : ∀ xs : List D, eqD (.lst (xs.filterMap fN)) (.lst []) = xs.all nmD
  | [] => rfl
  | x :: xs => by
    rw [List.filterMap_cons, List.all_cons]
    by_cases h : nmD x = true
    · simpa [fN, h] using fN_eq xs
    · simp [fN, h, eqD, eqL]
theorem fN_lay {xs : List D} {n : Nat} (h : ∀ x ∈ xs, lay n x = true) : lay (n + 1) (.lst (xs.filterMap fN)) = true := by
  refine List.all_eq_true.mpr fun x hx => ?_
  obtain ⟨y, hy, e⟩ := List.mem_filterMap.mp hx
  unfold fN at e
  split at e
  · cases e
  · cases e; exact h _ hy
end
end PL
set_option Elab.async false
set_option linter.all false
set_option maxRecDepth 100000
set_option maxHeartbeats 1000000
/-! PT9: more small steps of readings -/
namespace PL
open PySem PySem.Spec L2 DX DL DH DS LM
section
variable {K : Frag} {M : DM} {Q : DK} {W : DXK} {δ : DSt} {te : DTE} {wx : DW} {E : DEnds}
theorem seq_if {t : DTT} {a tr : DTS} (h : t δ M fun b M1 => if b = true then a { E with nx := tr E } δ M1 else tr E δ M1) : dSeq (dIfS t a dNext) tr E δ M := h
theorem go_ifS {t : DTT} {a b : DTS} (h : t δ M fun k M1 => if k = true then a E δ M1 else b E δ M1) : dIfS t a b E δ M := h
theorem go_or {t t' : DTT} {k : Bool → DM → Prop} (h : t δ M fun b M1 => if b = true then k true M1 else t' δ M1 k) : dOr t t' δ M k := h
theorem go_and {t t' : DTT} {k : Bool → DM → Prop} (h : t δ M fun b M1 => if b = true then t' δ M1 k else k false M1) : dAnd t t' δ M k := h
theorem go_not {t : DTT} {k : Bool → DM → Prop} (h : t δ M fun b M1 => k (!b) M1) : dNot t δ M k := h
theorem go_B {k : Bool → DM → Prop} (h : te δ M fun d M1 => match d with | .bl b => k b M1 | _ => False) : dB te δ M k := h
theorem go_if {t : DTT} {ta tb : DTE} (h : t δ M fun k M1 => if k = true then ta δ M1 Q else tb δ M1 Q) : dIf t ta tb δ M Q := h
theorem go_drop (h : te δ M fun _ M1 => E.nx δ M1) : dDrop te E δ M := h
theorem seq_drop {tr : DTS} (h : te δ M fun _ M1 => tr E δ M1) : dSeq (dDrop te) tr E δ M := h
theorem go_set {i : Nat} (h : te δ M fun d M1 => E.nx (δ.set i (some d)) M1) : dSet i te E δ M := h
theorem go_next (h : E.nx δ M) : dNext E δ M := h
/-- [x for x in xs if not ok(x)] != [] -/
theorem none_bad {st : DStep} {tr : DTS} {xs : List D} (he : Ev te δ M (.lst xs)) (hl : xs.length ≤ 1000) (hs : ∀ x ∈ xs, ∀ M' (k : Option D → DM → Prop), k none M' → st x δ M' k) (q : tr E δ M) : dSeq (dIfS (dB (dOp dNe (dLc st (dSeqI te)) (dLst dNil))) (dRet (dC (.bl false))) dNext) tr E δ M := by
  refine skip_if (fun k h => val_t (b := false) (fun R q => go_op ?_) h) q
  refine lc_lst (fun _ => none) he hs (small (by omega)) ?_
  rw [filterMap_none fun _ _ => rfl]
  refine ev_lst ev_nil (by simp) _ ?_
  simpa [eqD, eqL, lay] using q
theorem none_bad1 {st : DStep} {xs : List D} (he : Ev te δ M (.lst xs)) (hl : xs.length ≤ 1000) (hs : ∀ x ∈ xs, ∀ M' (k : Option D → DM → Prop), k none M' → st x δ M' k) (q : E.nx δ M) : dIfS (dB (dOp dNe (dLc st (dSeqI te)) (dLst dNil))) (dRet (dC (.bl false))) dNext E δ M :=
  none_bad (tr := fun E δ M => E.nx δ M) he hl hs q
theorem seq_for {g : DTG} {tb tr : DTS} {zs : List D} (h0 : Ev te δ M (.lst zs)) (h : forR g tb (fun M2 => asR M2 (.lst zs) = some zs) { E with nx := tr E } zs δ M) : dSeq (dFor (dSeqI te) g tb) tr E δ M := h0 _ h
theorem seq_app {ty : DTE} {tr : DTS} {p : Addr} {y : D} {zs : List D} (h0 : Ev te δ M (.ref p)) (hp : M p = some (.lst zs)) (hl : zs.length ≤ 100000) (h1 : Ev ty δ M y) (h : tr E δ (put M p (.lst (zs ++ [y])))) : dSeq (dDrop (dBM "list" dAppend te (dCons ty dNil))) tr E δ M := by
  refine h0 _ ⟨⟨rfl, _, hp⟩, ev_cons h1 ev_nil _ ?_⟩
  rw [dAppend_ref hp]
  exact ⟨Nat.lt_of_lt_of_le (by omega : zs.length < 100001) (small (by decide)), h⟩
theorem go_app {ty : DTE} {p : Addr} {y : D} {zs : List D} (h0 : Ev te δ M (.ref p)) (hp : M p = some (.lst zs)) (hl : zs.length ≤ 100000) (h1 : Ev ty δ M y) (h : E.nx δ (put M p (.lst (zs ++ [y])))) : dDrop (dBM "list" dAppend te (dCons ty dNil)) E δ M :=
  seq_app (tr := fun E δ M => E.nx δ M) h0 hp hl h1 h
theorem seq_rng {ta : DTA} {g : DTG} {tb tr : DTS} {j : Int} (h0 : EvA ta δ M [.int j]) (h1 : 0 ≤ j ∧ j < 1000) (h : forR g tb (fun _ => True) { E with nx := tr E } (rng 0 j.toNat) δ M) : dSeq (dFor (dRng1 ta) g tb) tr E δ M := h0 _ ⟨by omega, by omega, h⟩
theorem go_rng {ta : DTA} {g : DTG} {tb : DTS} {j : Int} (h0 : EvA ta δ M [.int j]) (h1 : 0 ≤ j ∧ j < 1000) (h : forR g tb (fun _ => True) E (rng 0 j.toNat) δ M) : dFor (dRng1 ta) g tb E δ M := h0 _ ⟨by omega, by omega, h⟩
theorem seq_forL {ta : DTA} {g : DTG} {tb tr : DTS} (h : ta δ M fun ds M1 => ds.length ≤ sizeLine ∧ forR g tb (fun M2 => asR M2 (.lst ds) = some ds) { E with nx := tr E } ds δ M1) : dSeq (dFor (dSeqI (dLst ta)) g tb) tr E δ M := h
theorem ev_mod {ta tb : DTE} {i j : Int} (hj : 0 < j) (e0 : Ev ta δ M (.int i)) (e1 : Ev tb δ M (.int j)) : Ev (dOp dMod ta tb) δ M (.int (i % j)) := fun R q => go_op (e0 _ (e1 _ (by rw [dMod_ii]; exact ⟨hj, q⟩)))
/-- int(sum(script[at:at + 1])) -/
theorem ev_cell {ns : List Int} {i : Int} {ta tb tc : DTE} (h0 : Ev ta δ M (.scr (ns.map D.int))) (h1 : Ev tb δ M (.int i)) : ∃ s, Ev (dCB dInt (dCons (dCB dSum (dCons (dSlice ta (dPart tb) (dPart (dOp dAdd tb (dC (.int 1))))) dNil)) dNil)) δ M (.int s) := by
  have e : ∀ lo hi Q, dSl (.scr (ns.map D.int)) lo hi M Q = Q (.lst ((cut ns lo hi).map D.int)) M := fun lo hi Q => by
    unfold dSl asR res cut
    simp
  have ei : ∀ l : List Int, intsD (l.map D.int) = some l := fun l => by
    induction l with
    | nil => rfl
    | cons x l ih => simp [intsD, ih]
  have es : ∀ (l : List Int) Q, dSum [.lst (l.map D.int)] M Q = Q (.int l.sum) M := fun l Q => by
    show (match intsD (l.map D.int) with | some ns => Q (.int ns.sum) M | none => False) = _
    rw [ei]
  refine ⟨(cut ns (some i) (some (i + 1))).sum, fun R q => ?_⟩
  refine h0 _ (h1 _ ?_)
  refine h1 _ (ev_c _ ?_)
  rw [dAdd_ii]
  dsimp only
  rw [e]
  show dSum [.lst ((cut ns (some i) (some (i + 1))).map D.int)] M _
  rw [es]
  exact q
theorem seq_par {ta tb : DTE} {tr : DTS} {i j : Nat} {a b : D} (h0 : Ev ta δ M a) (h1 : Ev tb δ M b) (h : tr E ((δ.set i (some a)).set j (some b)) M) : dSeq (dPar i j (dCons ta (dCons tb dNil))) tr E δ M := h0 _ (h1 _ h)
theorem seq_asg2 {tr : DTS} {i j : Nat} {x y : D} (h : Ev te δ M (.tup [x, y])) (q : tr E ((δ.set i (some x)).set j (some y)) M) : dSeq (dAsg te (dgTup 2 (dgCons (dgN i) (dgCons (dgN j) dgNil)))) tr E δ M := h _ ⟨rfl, q⟩
theorem eq_ii {ta tb : DTE} {i j : Int} (e0 : Ev ta δ M (.int i)) (e1 : Ev tb δ M (.int j)) : Ev (dOp dEq ta tb) δ M (.bl (decide (i = j))) := fun R q => go_op (e0 _ (e1 _ (by rw [dEq_ii]; exact q)))
theorem ne_ii {ta tb : DTE} {i j : Int} (e0 : Ev ta δ M (.int i)) (e1 : Ev tb δ M (.int j)) : Ev (dOp dNe ta tb) δ M (.bl (!decide (i = j))) := fun R q => go_op (e0 _ (e1 _ (by rw [dNe_ii]; exact q)))
theorem eq_ss {ta tb : DTE} {i j : Str} (e0 : Ev ta δ M (.str i)) (e1 : Ev tb δ M (.str j)) : Ev (dOp dEq ta tb) δ M (.bl (i == j)) := fun R q => go_op (e0 _ (e1 _ (by rw [dEq_ss]; exact q)))
theorem ne_ss {ta tb : DTE} {i j : Str} (e0 : Ev ta δ M (.str i)) (e1 : Ev tb δ M (.str j)) : Ev (dOp dNe ta tb) δ M (.bl (!(i == j))) := fun R q => go_op (e0 _ (e1 _ (by rw [dNe_ss]; exact q)))
/-- x != y of frozen values that are alike -/
theorem ne_same {ta tb : DTE} {d : D} (hd : lay 60 d = true) (hr : res M d = d) (e0 : Ev ta δ M d) (e1 : Ev tb δ M d) : Ev (dOp dNe ta tb) δ M (.bl false) := fun R q => go_op (e0 _ (e1 _ (by
  rw [dNe_data (by rw [hr]; exact hd) (by rw [hr]; exact hd), hr, eqD_refl hd]; exact q)))
theorem ev_sub {ta tb : DTE} {i j : Int} (e0 : Ev ta δ M (.int i)) (e1 : Ev tb δ M (.int j)) : Ev (dOp dSub ta tb) δ M (.int (i - j)) := fun R q => go_op (e0 _ (e1 _ (by rw [dSub_ii]; exact q)))
theorem ev_plus {ta tb : DTE} {i j : Int} (e0 : Ev ta δ M (.int i)) (e1 : Ev tb δ M (.int j)) : Ev (dOp dAdd ta tb) δ M (.int (i + j)) := fun R q => go_op (e0 _ (e1 _ (by rw [dAdd_ii]; exact q)))
theorem ev_mul {ta tb : DTE} {i j : Int} (hi : -(2 ^ 64) < i ∧ i < 2 ^ 64) (e0 : Ev ta δ M (.int i)) (e1 : Ev tb δ M (.int j)) : Ev (dOp dMul ta tb) δ M (.int (i * j)) := fun R q => go_op (e0 _ (e1 _ (by rw [dMul_ii]; exact ⟨.inl hi, q⟩)))
theorem ev_div {ta tb : DTE} {i j : Int} (hj : 0 < j ∧ j < 1073741824) (e0 : Ev ta δ M (.int i)) (e1 : Ev tb δ M (.int j)) : Ev (dOp dFdiv ta tb) δ M (.int (i / j)) := fun R q => go_op (e0 _ (e1 _ (by rw [dFdiv_ii]; exact ⟨hj, q⟩)))
theorem ev_max {ta tb : DTE} {i j : Int} (e0 : Ev ta δ M (.int i)) (e1 : Ev tb δ M (.int j)) : Ev (dCB dMax (dCons ta (dCons tb dNil))) δ M (.int (max i j)) := fun R q => (ev_cons e0 (ev_cons e1 ev_nil)) _ (by exact q)
theorem ev_le {ta tb : DTE} {i j : Int} (e0 : Ev ta δ M (.int i)) (e1 : Ev tb δ M (.int j)) : Ev (dOp (dCmp .LtE) ta tb) δ M (.bl (decide (i ≤ j))) := fun R q => go_op (e0 _ (e1 _ (by rw [dLe_ii]; exact q)))
theorem ev_lt {ta tb : DTE} {i j : Int} (e0 : Ev ta δ M (.int i)) (e1 : Ev tb δ M (.int j)) : Ev (dOp (dCmp .Lt) ta tb) δ M (.bl (decide (i < j))) := fun R q => go_op (e0 _ (e1 _ (by rw [dLt_ii]; exact q)))
theorem ev_gt {ta tb : DTE} {i j : Int} (e0 : Ev ta δ M (.int i)) (e1 : Ev tb δ M (.int j)) : Ev (dOp (dCmp .Gt) ta tb) δ M (.bl (decide (j < i))) := fun R q => go_op (e0 _ (e1 _ (by rw [dGt_ii]; exact q)))
end
end PL
set_option Elab.async false
set_option linter.all false
set_option maxRecDepth 100000
set_option maxHeartbeats 1000000
/-! PT10: names in the order of a form; pieces (plain) -/
namespace PL
open PySem PySem.Spec L2 DX DL DH DS LM
theorem occ_all (s sub : Str) (hi limit : Nat) : ∀ (l : List Nat) (st : Array Nat × Nat), (∀ a ∈ st.fst.toList, a + sub.length ≤ hi ∧ Builtin.Str.subAt s sub a = true) → ∀ a ∈ (forIn l st (StrLaws.occBody s sub hi limit)).run.fst.toList, a + sub.length ≤ hi ∧ Builtin.Str.subAt s sub a = true
  | [], st, h => h
  | b :: l, st, h => by
    rw [List.forIn_cons]
    unfold StrLaws.occBody
    split
    · rename_i hc
      refine occ_all s sub hi limit l _ fun a ha => ?_
      simp only [Array.toList_push, List.mem_append, List.mem_singleton] at ha
      rcases ha with ha | rfl
      · exact h a ha
      · exact ⟨hc.1.2, hc.2⟩
    · exact occ_all s sub hi limit l _ h
/-- the rank is where the letter stands -/
theorem rk_at {z : Str} {c : Nat} (h : c ∈ cl z) : ∃ i : Nat, rk z c = i ∧ (cl z)[i]? = some c := by
  have e := StrLaws.found_one z c
  have e2 : decide (c ∈ z.cps.toList) = true := decide_eq_true h
  rw [e2] at e
  have a : ∀ i ∈ Builtin.Str.occurrences z ⟨#[c]⟩ 0 z.length 1, (cl z)[i]? = some c := fun i hi => by
    rw [StrLaws.occ_eq] at hi
    exact (StrLaws.subAt_one z c i).mp (occ_all z ⟨#[c]⟩ z.length 1 _ _ (by simp) i hi)
  unfold rk
  cases o : Builtin.Str.occurrences z ⟨#[c]⟩ 0 z.length 1 with
  | nil => rw [o] at e; cases e
  | cons i r => rw [o] at a; exact ⟨i, rfl, a i (List.mem_cons_self ..)⟩
theorem rk_inj {z : Str} {c d : Nat} (hc : c ∈ cl z) (hd : d ∈ cl z) (h : rk z c = rk z d) : c = d := by
  obtain ⟨i, e1, e2⟩ := rk_at hc
  obtain ⟨j, e3, e4⟩ := rk_at hd
  have : i = j := by omega
  subst this
  rw [e2] at e4
  exact Option.some.inj e4
theorem map_inj_of {α β : Type} {f : α → β} : ∀ {a b : List α}, (∀ x ∈ a, ∀ y ∈ b, f x = f y → x = y) → a.map f = b.map f → a = b
  | [], [], _, _ => rfl
  | [], _ :: _, _, e => by simp at e
  | _ :: _, [], _, e => by simp at e
  | x :: a, y :: b, h, e => by
    simp only [List.map_cons, List.cons.injEq] at e
    rw [h x (List.mem_cons_self ..) y (List.mem_cons_self ..) e.1, map_inj_of (fun x hx y hy => h x (List.mem_cons_of_mem _ hx) y (List.mem_cons_of_mem _ hy)) e.2]
theorem cl_inj {a b : Str} (h : cl a = cl b) : a = b := by
  obtain ⟨a⟩ := a
  obtain ⟨b⟩ := b
  have : a.toList = b.toList := h
  rw [Array.toList_inj.mp this]
structure Fm (z : Str) (m : Int) : Prop where
  p : permS z = true
  l : 1 ≤ m
  h : m ≤ 1000
/-- a before b in the form -/
def kb (z : Str) (m : Int) (a b : Str) : Bool := ltD (keyT z m a) (keyT z m b)
section
variable {z : Str} {m : Int} {a b c : Str}
theorem kb_irr : kb z m a a = false := ltD_irrefl likeT
theorem kb_trans (h : kb z m a b = true) (h' : kb z m b c = true) : kb z m a c = true := ltD_trans likeT likeT likeT h h'
theorem kb_asym (h : kb z m a b = true) : kb z m b a = false := ltD_asym likeT likeT likeT h
theorem kpT : kp 3 (keyT z m a) = true := by
  simp [keyT, kp, rkD]
theorem key_inj (hz : permS z = true) (ha : nm a = true) (hb : nm b = true) (h : keyT z m a = keyT z m b) : a = b := by
  have e : rkD z a = rkD z b := by
    injection h with h
    injection h with _ h
    injection h with h
    injection h
  have e2 : (cl a).map (rk z) = (cl b).map (rk z) := map_inj_of (f := D.int) (fun x _ y _ e => by injection e) e
  exact cl_inj (map_inj_of (fun x hx y hy e => rk_inj (nm_in hz ha hx) (nm_in hz hb hy) e) e2)
theorem kb_tri (hz : permS z = true) (ha : nm a = true) (hb : nm b = true) (ne : a ≠ b) (h : kb z m b a = false) : kb z m a b = true :=
  ltD_tri kpT kpT likeT likeT (fun e => ne (key_inj hz ha hb e)) h
/-- ordered names -/
theorem ordN_asc (xs : List Str) : ∃ ys : List Str, ordN z m (xs.map D.str) = ys.map D.str ∧ ys.Perm xs ∧ ys.Pairwise fun a b => kb z m b a = false := by
  obtain ⟨ys, p, e⟩ := ordN_strs (z := z) (m := m) xs
  refine ⟨ys, e, p, ?_⟩
  have h : (ordN z m (xs.map D.str)).Pairwise fun a b => ltD (kT z m b) (kT z m a) = false := by
    refine List.Pairwise.imp_of_mem (fun {a b} ha hb le => ?_) (PySem.W.sort_pairwise (PySem.W.sortLe_total (PyProof.Rows.listOrd PyProof.Rows.itemOrd) false fun b => PySem.W.keyToks (enc (kT z m b))) (xs.map D.str))
    have ha := (ordN_perm (z := z) (m := m)).mem_iff.mp ha
    have hb := (ordN_perm (z := z) (m := m)).mem_iff.mp hb
    obtain ⟨s, _, rfl⟩ := List.mem_map.mp ha
    obtain ⟨t, _, rfl⟩ := List.mem_map.mp hb
    have l : like (kT z m (.str t)) (kT z m (.str s)) = true := likeT
    rw [ltD_toks l]
    have le2 : (!(PyProof.Rows.listOrd PyProof.Rows.itemOrd).blt (PySem.W.keyToks (enc (kT z m (.str t)))) (PySem.W.keyToks (enc (kT z m (.str s))))) = true := le
    simpa using le2
  rw [e] at h
  exact List.pairwise_map.mp h
theorem ord_strict {xs : List Str} (hz : permS z = true) (hn : ∀ x ∈ xs, nm x = true) (nd : xs.Nodup) : ∃ ys : List Str, ordN z m (xs.map D.str) = ys.map D.str ∧ ys.Perm xs ∧ ys.Pairwise fun a b => kb z m a b = true := by
  obtain ⟨ys, e, p, h⟩ := ordN_asc (z := z) (m := m) xs
  refine ⟨ys, e, p, ?_⟩
  have nd2 : ys.Nodup := p.nodup_iff.mpr nd
  exact (List.Pairwise.and nd2 h).imp_of_mem fun {a b} ha hb q => kb_tri hz (hn a (p.mem_iff.mp ha)) (hn b (p.mem_iff.mp hb)) q.1 q.2
end
/-- a piece -/
structure Pc where
  f : Str
  z : Str
  m : Int
  mrk : Option Str
  ns : List Str
  en : Bool
def lastS (ns : List Str) : Str := ns.getLast?.getD ""
structure Pc.ok (p : Pc) : Prop where
  f : nm p.f = true
  fm : Fm p.z p.m
  mrk : ∀ k, p.mrk = some k → nm k = true
  ns : ∀ n ∈ p.ns, nm n = true
  asc : (p.mrk.toList ++ p.ns).Pairwise fun a b => kb p.z p.m a b = true
  en : p.en = false → p.ns ≠ []
  le : p.ns.length ≤ 30
def Pc.cov (p : Pc) (a b : Str) : Bool := (a == p.f) && ((match p.mrk with | none => true | some k => kb p.z p.m k b) && (p.en || !kb p.z p.m (lastS p.ns) b))
def Pc.says (p : Pc) (a b : Str) : Option Bool := if p.cov a b = true then some (decide (b ∈ p.ns)) else none
def oS : Option Str → D
  | none => .non
  | some s => .str s
def oB : Option Bool → D
  | some b => .bl b
  | none => .non
/-- the law's piece -/
def Pc.spec (p : Pc) : D := .tup [.str "list", .str p.f, .tup [.str p.z, .int p.m], oS p.mrk, .lst (p.ns.map D.str), .bl p.en]
def Pc.low (p : Pc) : D := match p.mrk with
  | none => .non
  | some k => keyT p.z p.m k
def Pc.high (p : Pc) : D := if p.en = true then .non else keyT p.z p.m (lastS p.ns)
/-- the places that stand -/
def Pc.std (p : Pc) : List D := srt (p.ns.map fun n => .tup [.str p.f, .str n])
theorem lastS_of {ns : List Str} (h : ns ≠ []) : lastS ns = ns.getLast h := by
  unfold lastS
  rw [List.getLast?_eq_some_getLast h]
  rfl
theorem last_nm {p : Pc} (h : p.ok) (he : p.en = false) : nm (lastS p.ns) = true := by
  rw [lastS_of (h.en he)]
  exact h.ns _ (List.getLast_mem _)
end PL
set_option Elab.async false
set_option linter.all false
set_option maxRecDepth 100000
set_option maxHeartbeats 1000000
/-! PT11: fields, ranges, last items: steps of readings -/
namespace PL
open PySem PySem.Spec L2 DX DL DH DS LM
section
variable {K : Frag} {M : DM} {Q : DK} {δ : DSt} {te : DTE} {wx : DW} {E : DEnds}
theorem one_fld {f : Str} {to : DTE} {q C : Addr} {fs fs' : List (Str × D)} {y : D} (pf : PF K C f) (hM : M q = some (.ins C fs)) (hl : fs.length < 1000) (e0 : Ev to δ M (.ref q)) (e1 : Ev te δ M y) (e : putD f y fs = fs') (h : E.nx δ (put M q (.ins C fs'))) : dSetF K f to te E δ M := by
  subst e
  simp only [dSetF]
  refine e1 _ (e0 _ ?_)
  simp only [hM]
  exact ⟨pf, hl, h⟩
theorem seq_fld {f : Str} {to : DTE} {tr : DTS} {q C : Addr} {fs fs' : List (Str × D)} {y : D} (pf : PF K C f) (hM : M q = some (.ins C fs)) (hl : fs.length < 1000) (e0 : Ev to δ M (.ref q)) (e1 : Ev te δ M y) (e : putD f y fs = fs') (h : tr E δ (put M q (.ins C fs'))) : dSeq (dSetF K f to te) tr E δ M :=
  one_fld (E := { E with nx := tr E }) pf hM hl e0 e1 e h
theorem lc_lst' {st : DStep} {xs : List D} (f : D → Option D) (he : Ev te δ M (.lst xs)) (hs : ∀ x ∈ xs, ∀ M' K, sub M M' → K (f x) M' → st x δ M' K) (hl : xs.length ≤ sizeLine) (q : Q (.lst (xs.filterMap f)) M) : dLc st (dSeqI te) δ M Q := by
  unfold dLc dSeqI
  refine he _ fun p hp => ?_
  refine lc_pure f xs [] (fun x hx M' K e k => hs x hx M' K (by obtain ⟨acc, rfl⟩ := e; exact sub_put hp) k) (fun acc => (rfl : asR (put M p (.lst acc)) (.lst xs) = some xs)) (by simpa using hl) ?_
  rw [List.nil_append, drp_put hp]
  exact q
theorem lc_rng2 {st : DStep} {ta : DTA} {i j : Int} (f : D → Option D) (he : EvA ta δ M [.int i, .int j]) (hi : 0 ≤ i ∧ i < 1000000) (hj : 0 ≤ j ∧ j < 1000000) (hs : ∀ k : Int, i ≤ k → k < j → ∀ M' K, sub M M' → K (f (.int k)) M' → st (.int k) δ M' K) (q : Q (.lst ((rng i (j - i).toNat).filterMap f)) M) : dLc st (dRng2 ta) δ M Q := by
  unfold dLc dRng2
  refine he _ ⟨⟨by omega, by omega, by omega, by omega⟩, fun p hp => ?_⟩
  refine lc_pure f _ [] (fun x hx M' K e k => ?_) (fun acc => trivial) (by rw [List.length_nil, Nat.zero_add, rng, List.length_map, List.length_range]; exact small (by omega)) ?_
  · obtain ⟨n, hn, rfl⟩ := List.mem_map.mp hx
    have := List.mem_range.mp hn
    exact hs _ (by omega) (by omega) M' K (by obtain ⟨acc, rfl⟩ := e; exact sub_put hp) k
  · rw [List.nil_append, drp_put hp]
    exact q
theorem lc_rng1 {st : DStep} {ta : DTA} {j : Int} (f : D → Option D) (he : EvA ta δ M [.int j]) (hj : 0 ≤ j ∧ j < 1000000) (hs : ∀ k : Int, 0 ≤ k → k < j → ∀ M' K, sub M M' → K (f (.int k)) M' → st (.int k) δ M' K) (q : Q (.lst ((rng 0 j.toNat).filterMap f)) M) : dLc st (dRng1 ta) δ M Q := by
  unfold dLc dRng1
  refine he _ ⟨by omega, by omega, fun p hp => ?_⟩
  refine lc_pure f _ [] (fun x hx M' K e k => ?_) (fun acc => trivial) (by rw [List.length_nil, Nat.zero_add, rng, List.length_map, List.length_range]; exact small (by omega)) ?_
  · obtain ⟨n, hn, rfl⟩ := List.mem_map.mp hx
    have := List.mem_range.mp hn
    exact hs _ (by omega) (by omega) M' K (by obtain ⟨acc, rfl⟩ := e; exact sub_put hp) k
  · rw [List.nil_append, drp_put hp]
    exact q
theorem ev_at {xs : List D} {i : Int} {d : D} {tb : DTE} (h : Ev te δ M (.lst xs)) (h1 : Ev tb δ M (.int i)) (e : atI xs i = some d) : Ev (dOp dIx te tb) δ M d := fun R q => go_op (h _ (h1 _ (by rw [dIx_lst, e]; exact q)))
theorem ev_atT {xs : List D} {i : Int} {d : D} {tb : DTE} (h : Ev te δ M (.tup xs)) (h1 : Ev tb δ M (.int i)) (e : atI xs i = some d) : Ev (dOp dIx te tb) δ M d := fun R q => go_op (h _ (h1 _ (by rw [dIx_tup, e]; exact q)))
theorem ev_m1 : Ev (dUn dNegR (dC (.int 1))) δ M (.int (-1)) := fun R q => by simpa using q
/-- v[-1] -/
theorem ev_last {v : D} {xs : List D} (hv : lsD M v xs) (h : Ev te δ M v) (hn : xs ≠ []) : Ev (dOp dIx te (dUn dNegR (dC (.int 1)))) δ M (xs.getLast hn) := fun R q => by
  refine go_op (h _ (ev_m1 _ ?_))
  rcases hv with rfl | ⟨p, rfl, hp⟩
  · rw [dIx_lst, at_m1 hn]; exact q
  · rw [dIx_ref hp, at_m1 hn]; exact q
theorem ev_len {xs : List D} (h : Ev te δ M (.lst xs)) : Ev (dCB dLen (dCons te dNil)) δ M (.int xs.length) := fun R q => ev_cons h ev_nil _ (by rw [dLen_lst]; exact q)
theorem ev_tupls {v : D} {xs : List D} (hv : lsD M v xs) (h : Ev te δ M v) : Ev (dCB dTuple (dCons te dNil)) δ M (.tup xs) := fun R q => ev_cons h ev_nil _ (by
  rcases hv with rfl | ⟨p, rfl, hp⟩
  · rw [dTuple_lst]; exact q
  · show (match seqOf M (.ref p) with | some xs => R (.tup xs) M | none => False)
    have : seqOf M (.ref p) = some xs := by
      unfold seqOf
      exact asR_ref hp
    rw [this]; exact q)
theorem ev_list {xs : List D} (h : Ev te δ M (.lst xs)) : Ev (dCB dList (dCons te dNil)) δ M (.lst xs) := fun R q => ev_cons h ev_nil _ (by rw [dList_lst]; exact q)
/-- x <= y and so on, of keys -/
theorem ev_cmp {op : CmpOp} {ta tb : DTE} {a b : D} (ha : lay 50 a = true) (hb : lay 50 b = true) (hl : like a b = true) (ra : res M a = a) (rb : res M b = b) (e0 : Ev ta δ M a) (e1 : Ev tb δ M b) : Ev (dOp (dCmp op) ta tb) δ M (.bl (cmpD op a b)) := fun R q => go_op (e0 _ (e1 _ ⟨by
  rw [ra, rb]
  simp [lay_mono (n := 50) (m := 60) (by decide) ha, lay_mono (n := 50) (m := 60) (by decide) hb, hl], by rw [ra, rb]; exact q⟩))
theorem ev_keys {op : CmpOp} {ta tb : DTE} {z : Str} {m : Int} {a b : Str} (e0 : Ev ta δ M (keyT z m a)) (e1 : Ev tb δ M (keyT z m b)) : Ev (dOp (dCmp op) ta tb) δ M (.bl (cmpD op (keyT z m a) (keyT z m b))) := ev_cmp (layT (n := 48)) (layT (n := 48)) likeT rfl rfl e0 e1
theorem cmp_TL {op : CmpOp} {z : Str} {m : Int} {a b : Str} : cmpD op (keyL z m a) (keyL z m b) = cmpD op (keyT z m a) (keyT z m b) := by
  cases op <;> simp [cmpD, lt_TL]
theorem ev_lkeys {op : CmpOp} {ta tb : DTE} {z : Str} {m : Int} {a b : Str} (e0 : Ev ta δ M (keyL z m a)) (e1 : Ev tb δ M (keyL z m b)) : Ev (dOp (dCmp op) ta tb) δ M (.bl (cmpD op (keyT z m a) (keyT z m b))) := by
  rw [← cmp_TL]
  exact ev_cmp (layL (n := 48)) (layL (n := 48)) likeLk rfl rfl e0 e1
theorem ev_isnon {d : D} (h : Ev te δ M d) : Ev (dOp dIs te (dC .non)) δ M (.bl (DL.isNon d)) := fun R q => go_op (h _ (ev_c _ (by rw [dIs_non]; exact q)))
theorem ev_notnon {d : D} (h : Ev te δ M d) : Ev (dOp dIsNot te (dC .non)) δ M (.bl (!DL.isNon d)) := fun R q => go_op (h _ (ev_c _ (by rw [dIsNot_non]; exact q)))
theorem ev_inS {ta : DTE} {b : Str} {ns : List Str} (h : Ev ta δ M (.str b)) (h1 : Ev te δ M (.lst (ns.map D.str))) : Ev (dOp dIn ta te) δ M (.bl (decide (b ∈ ns))) := fun R q => go_op (h _ (h1 _ (by
  rw [dIn_lst, res_str, inD_str]
  exact ⟨by simp, q⟩)))
theorem ev_inT {ta : DTE} {b : Str} {ns : List Str} (h : Ev ta δ M (.str b)) (h1 : Ev te δ M (.tup (ns.map D.str))) : Ev (dOp dIn ta te) δ M (.bl (decide (b ∈ ns))) := fun R q => go_op (h _ (h1 _ (by
  rw [dIn_tup, res_str, inD_str]
  exact ⟨by simp, q⟩)))
theorem ev_ne0 {xs : List D} (hx : xs.all (lay 59) = true) (h : Ev te δ M (.lst xs)) : Ev (dOp dNe te (dLst dNil)) δ M (.bl (!xs.isEmpty)) := fun R q => go_op (h _ (ev_lst ev_nil (by simp) _ (by
  rw [dNe_data (d := .lst xs) (e := .lst []) hx rfl]
  have : eqD (.lst xs) (.lst []) = xs.isEmpty := by cases xs <;> simp [eqD, eqL]
  rw [res_lst, res_lst, this]; exact q)))
theorem ev_eq0 {xs : List D} (hx : xs.all (lay 59) = true) (h : Ev te δ M (.lst xs)) : Ev (dOp dEq te (dLst dNil)) δ M (.bl xs.isEmpty) := fun R q => go_op (h _ (ev_lst ev_nil (by simp) _ (by
  rw [dEq_data (d := .lst xs) (e := .lst []) hx rfl]
  have : eqD (.lst xs) (.lst []) = xs.isEmpty := by cases xs <;> simp [eqD, eqL]
  rw [res_lst, res_lst, this]; exact q)))
theorem orV_t {ta tb : DTE} (h : Ev ta δ M (.bl true)) (q : Q (.bl true) M) : dOrV ta tb δ M Q := h _ (by simpa using q)
theorem orV_f {ta tb : DTE} (h : Ev ta δ M (.bl false)) (q : tb δ M Q) : dOrV ta tb δ M Q := h _ (by simpa using q)
theorem andV_t {ta tb : DTE} (h : Ev ta δ M (.bl true)) (q : tb δ M Q) : dAndV ta tb δ M Q := h _ (by simpa using q)
theorem andV_f {ta tb : DTE} (h : Ev ta δ M (.bl false)) (q : Q (.bl false) M) : dAndV ta tb δ M Q := h _ (by simpa using q)
theorem if_t {t : DTT} {a tr : DTS} (e : ∀ k : Bool → DM → Prop, k true M → t δ M k) (q : a { E with nx := tr E } δ M) : dSeq (dIfS t a dNext) tr E δ M := e _ (itT rfl q)
theorem and_f1 {t t' : DTT} {k : Bool → DM → Prop} (e0 : ∀ k : Bool → DM → Prop, k false M → t δ M k) (q : k false M) : dAnd t t' δ M k := e0 _ (itF (by simp) q)
theorem and_t1 {t t' : DTT} {k : Bool → DM → Prop} (e0 : ∀ k : Bool → DM → Prop, k true M → t δ M k) (q : t' δ M k) : dAnd t t' δ M k := e0 _ (itT rfl q)
theorem not_f {t : DTT} {k : Bool → DM → Prop} (e0 : ∀ k : Bool → DM → Prop, k false M → t δ M k) (q : k true M) : dNot t δ M k := e0 _ q
theorem or_t1 {t t' : DTT} {k : Bool → DM → Prop} (e0 : ∀ k : Bool → DM → Prop, k true M → t δ M k) (q : k true M) : dOr t t' δ M k := e0 _ (itT rfl q)
theorem or_f1 {t t' : DTT} {k : Bool → DM → Prop} (e0 : ∀ k : Bool → DM → Prop, k false M → t δ M k) (q : t' δ M k) : dOr t t' δ M k := e0 _ (itF (by simp) q)
/-- a value as a test -/
theorem tst {b b' : Bool} (h : Ev te δ M (.bl b)) (e : b = b') (k : Bool → DM → Prop) (q : k b' M) : dB te δ M k := by subst e; exact h _ q
theorem strs_lay (xs : List Str) {n : Nat} : (xs.map D.str).all (lay n) = true := by simp
end
end PL
set_option Elab.async false
set_option linter.all false
set_option maxRecDepth 100000
set_option maxHeartbeats 1000000
/-! PT12: places as pairs; the names of a folder (plain) -/
namespace PL
open PySem PySem.Spec L2 DX DL DH DS LM
abbrev Pr2 := Str × Str
def pD (x : Pr2) : D := .tup [.str x.1, .str x.2]
def Pr2.ok (x : Pr2) : Prop := nm x.1 = true ∧ nm x.2 = true
theorem pD_inj {x y : Pr2} (h : pD x = pD y) : x = y := by
  obtain ⟨a, b⟩ := x
  obtain ⟨c, d⟩ := y
  unfold pD at h
  injection h with h
  injection h with h1 h2
  injection h2 with h2 _
  injection h1 with h1
  injection h2 with h2
  simp_all
theorem allPl_ex : ∀ {ts : List D}, allPl ts → ∃ l : List Pr2, ts = l.map pD ∧ ∀ x ∈ l, Pr2.ok x
  | [], _ => ⟨[], rfl, fun x hx => by cases hx⟩
  | d :: ts, h => by
    obtain ⟨l, rfl, hl⟩ := allPl_ex (ts := ts) fun x hx => h x (List.mem_cons_of_mem _ hx)
    obtain ⟨a, b, rfl, ha, hb⟩ := isPl_ex (h d (List.mem_cons_self ..))
    refine ⟨(a, b) :: l, rfl, fun x hx => ?_⟩
    rcases List.mem_cons.mp hx with rfl | hx
    · exact ⟨ha, hb⟩
    · exact hl x hx
theorem isPl_pD {x : Pr2} (h : Pr2.ok x) : isPl (pD x) = true := by
  simp [pD, isPl, h.1, h.2]
theorem allPl_map {l : List Pr2} (h : ∀ x ∈ l, Pr2.ok x) : allPl (l.map pD) := fun d hd => by
  obtain ⟨x, hx, rfl⟩ := List.mem_map.mp hd
  exact isPl_pD (h x hx)
theorem nodup_pD {l : List Pr2} : (l.map pD).Nodup ↔ l.Nodup :=
  ⟨fun h => (List.pairwise_map.mp h).imp fun h e => h (by rw [e]), fun h => List.pairwise_map.mpr (h.imp fun h e => h (pD_inj e))⟩
/-- the names of a folder -/
def hn (f : Str) (l : List Pr2) : List Str := (l.filter fun x => x.1 == f).map (·.2)
def fH (f : Str) : D → Option D
  | .tup [.str a, .str b] => if (a == f) = true then some (.str b) else none
  | _ => none
theorem fH_map (f : Str) : ∀ l : List Pr2, (l.map pD).filterMap (fH f) = (hn f l).map D.str
  | [] => rfl
  | x :: l => by
    rw [List.map_cons, List.filterMap_cons, fH_map f l]
    unfold hn
    rw [List.filter_cons]
    have e : fH f (pD x) = if (x.1 == f) = true then some (.str x.2) else none := rfl
    rw [e]
    cases x.1 == f <;> simp
theorem hn_nodup {f : Str} {l : List Pr2} (h : l.Nodup) : (hn f l).Nodup := by
  unfold hn
  refine List.pairwise_map.mpr ((h.filter _).imp_of_mem fun {x y} hx hy ne e => ne ?_)
  have h1 := (List.mem_filter.mp hx).2
  have h2 := (List.mem_filter.mp hy).2
  have e1 : x.1 = f := by simpa using h1
  have e2 : y.1 = f := by simpa using h2
  exact Prod.ext (e1.trans e2.symm) e
theorem hn_nm {f : Str} {l : List Pr2} (h : ∀ x ∈ l, Pr2.ok x) : ∀ n ∈ hn f l, nm n = true := fun n hn' => by
  obtain ⟨x, hx, rfl⟩ := List.mem_map.mp hn'
  exact (h x (List.mem_filter.mp hx).1).2
theorem hn_len {f : Str} {l : List Pr2} : (hn f l).length ≤ l.length := by
  unfold hn
  rw [List.length_map]
  exact List.length_filter_le ..
theorem mem_hn {f n : Str} {l : List Pr2} : n ∈ hn f l ↔ (f, n) ∈ l := by
  unfold hn
  constructor
  · intro h
    obtain ⟨x, hx, rfl⟩ := List.mem_map.mp h
    obtain ⟨h1, h2⟩ := List.mem_filter.mp hx
    have e : x.1 = f := by simpa using h2
    rw [← e]; exact h1
  · intro h
    exact List.mem_map.mpr ⟨(f, n), List.mem_filter.mpr ⟨h, by simp⟩, rfl⟩
end PL
set_option Elab.async false
set_option linter.all false
set_option maxRecDepth 100000
set_option maxHeartbeats 4000000
namespace K06
open PySem PySem.Spec PyProof.Rows L2 DX DL DH DS PL LM
abbrev P : Program := PySem.Challenge.pw_betweenlists_k06_pieces_say
def top (i : Nat) : Stmt := P.main.body.getD i (.Pass ⟨0, 0, 0, 0⟩)
def inCls (st : Stmt) (j : Nat) : Stmt := match st with
  | .ClassDef _ _ _ b _ _ _ _ _ _ _ => b.getD j (.Pass ⟨0, 0, 0, 0⟩)
  | _ => .Pass ⟨0, 0, 0, 0⟩
abbrev s_is_whole : Stmt := top 10
theorem sc_is_whole : FnScope ["value"] ["value"] (defScope s_is_whole) := ⟨rfl, rfl, rfl, by decide +kernel, rfl, by decide +kernel, by decide +kernel⟩
abbrev s_is_name : Stmt := top 11
theorem sc_is_name : FnScope ["value", "letter"] ["value"] (defScope s_is_name) := ⟨rfl, rfl, rfl, by decide +kernel, rfl, by decide +kernel, by decide +kernel⟩
abbrev s_is_place : Stmt := top 12
theorem sc_is_place : FnScope ["value"] ["value"] (defScope s_is_place) := ⟨rfl, rfl, rfl, by decide +kernel, rfl, by decide +kernel, by decide +kernel⟩
abbrev s_check_name : Stmt := top 14
theorem sc_check_name : FnScope ["value"] ["value"] (defScope s_check_name) := ⟨rfl, rfl, rfl, by decide +kernel, rfl, by decide +kernel, by decide +kernel⟩
abbrev s_check_place : Stmt := top 15
theorem sc_check_place : FnScope ["value"] ["value"] (defScope s_check_place) := ⟨rfl, rfl, rfl, by decide +kernel, rfl, by decide +kernel, by decide +kernel⟩
abbrev s_is_order : Stmt := top 19
theorem sc_is_order : FnScope ["letters", "chains"] ["letters", "chains"] (defScope s_is_order) := ⟨rfl, rfl, rfl, by decide +kernel, rfl, by decide +kernel, by decide +kernel⟩
abbrev s_key_in : Stmt := top 20
theorem sc_key_in : FnScope ["letters", "chains", "name", "ranks", "letter"] ["letters", "chains", "name"] (defScope s_key_in) := ⟨rfl, rfl, rfl, by decide +kernel, rfl, by decide +kernel, by decide +kernel⟩
abbrev s_Form___init__ : Stmt := inCls (top 21) 0
theorem sc_Form___init__ : FnScope ["self", "letters", "chains"] ["self", "letters", "chains"] (defScope s_Form___init__) := ⟨rfl, rfl, rfl, by decide +kernel, rfl, by decide +kernel, by decide +kernel⟩
abbrev s_Form___call__ : Stmt := inCls (top 21) 3
theorem sc_Form___call__ : FnScope ["self", "name"] ["self", "name"] (defScope s_Form___call__) := ⟨rfl, rfl, rfl, by decide +kernel, rfl, by decide +kernel, by decide +kernel⟩
abbrev s_are_names_behind : Stmt := top 24
theorem sc_are_names_behind : FnScope ["form", "mark", "names", "keys", "name", "at"] ["form", "mark", "names"] (defScope s_are_names_behind) := ⟨rfl, rfl, rfl, by decide +kernel, rfl, by decide +kernel, by decide +kernel⟩
abbrev s_is_piece : Stmt := top 25
theorem sc_is_piece : FnScope ["folder", "form", "mark", "names", "ended"] ["folder", "form", "mark", "names", "ended"] (defScope s_is_piece) := ⟨rfl, rfl, rfl, by decide +kernel, rfl, by decide +kernel, by decide +kernel⟩
abbrev s_Piece___init__ : Stmt := inCls (top 26) 0
theorem sc_Piece___init__ : FnScope ["self", "folder", "form", "mark", "names", "ended"] ["self", "folder", "form", "mark", "names", "ended"] (defScope s_Piece___init__) := ⟨rfl, rfl, rfl, by decide +kernel, rfl, by decide +kernel, by decide +kernel⟩
abbrev s_Piece_covers : Stmt := inCls (top 26) 6
theorem sc_Piece_covers : FnScope ["self", "place", "key"] ["self", "place"] (defScope s_Piece_covers) := ⟨rfl, rfl, rfl, by decide +kernel, rfl, by decide +kernel, by decide +kernel⟩
abbrev s_Piece___contains__ : Stmt := inCls (top 26) 7
theorem sc_Piece___contains__ : FnScope ["self", "place"] ["self", "place"] (defScope s_Piece___contains__) := ⟨rfl, rfl, rfl, by decide +kernel, rfl, by decide +kernel, by decide +kernel⟩
abbrev s_Piece_says : Stmt := inCls (top 26) 9
theorem sc_Piece_says : FnScope ["self", "place"] ["self", "place"] (defScope s_Piece_says) := ⟨rfl, rfl, rfl, by decide +kernel, rfl, by decide +kernel, by decide +kernel⟩
abbrev s_Piece_standing : Stmt := inCls (top 26) 10
theorem sc_Piece_standing : FnScope ["self", "name"] ["self"] (defScope s_Piece_standing) := ⟨rfl, rfl, rfl, by decide +kernel, rfl, by decide +kernel, by decide +kernel⟩
abbrev s__law_purse : Stmt := top 30
theorem sc__law_purse : FnScope ["_law_script", "_law_at", "_law_cell"] ["_law_script", "_law_at"] (defScope s__law_purse) := ⟨rfl, rfl, rfl, by decide +kernel, rfl, by decide +kernel, by decide +kernel⟩
abbrev s__law_draw : Stmt := top 31
theorem sc__law_draw : FnScope ["_law_purse_here", "_law_many", "_law_drawn", "_law_number"] ["_law_purse_here", "_law_many"] (defScope s__law_draw) := ⟨rfl, rfl, rfl, by decide +kernel, rfl, by decide +kernel, by decide +kernel⟩
abbrev s__law_name : Stmt := top 32
theorem sc__law_name : FnScope ["_law_purse_here", "_law_name_here", "_law_turn"] ["_law_purse_here"] (defScope s__law_name) := ⟨rfl, rfl, rfl, by decide +kernel, rfl, by decide +kernel, by decide +kernel⟩
abbrev s__law_names : Stmt := top 33
theorem sc__law_names : FnScope ["_law_purse_here", "_law_many", "_law_names_here", "_law_turn", "_law_name_here"] ["_law_purse_here", "_law_many"] (defScope s__law_names) := ⟨rfl, rfl, rfl, by decide +kernel, rfl, by decide +kernel, by decide +kernel⟩
abbrev s__law_form : Stmt := top 34
theorem sc__law_form : FnScope ["_law_purse_here", "_law_letters", "_law_way", "_law_at", "_law_turn", "_law_rest", "_law_many"] ["_law_purse_here"] (defScope s__law_form) := ⟨rfl, rfl, rfl, by decide +kernel, rfl, by decide +kernel, by decide +kernel⟩
abbrev s__law_key : Stmt := top 35
theorem sc__law_key : FnScope ["_law_form_here", "_law_name_here", "_law_ranks", "_law_letter"] ["_law_form_here", "_law_name_here"] (defScope s__law_key) := ⟨rfl, rfl, rfl, by decide +kernel, rfl, by decide +kernel, by decide +kernel⟩
abbrev s__law_ordered : Stmt := top 36
theorem sc__law_ordered : FnScope ["_law_form_here", "_law_names_here"] ["_law_form_here", "_law_names_here"] (defScope s__law_ordered) := ⟨rfl, rfl, rfl, by decide +kernel, rfl, by decide +kernel, by decide +kernel⟩
abbrev s__law_world : Stmt := top 37
theorem sc__law_world : FnScope ["_law_purse_here", "_law_folders", "_law_names_here", "_law_places", "_law_folder", "_law_name_here"] ["_law_purse_here"] (defScope s__law_world) := ⟨rfl, rfl, rfl, by decide +kernel, rfl, by decide +kernel, by decide +kernel⟩
abbrev s__law_piece : Stmt := top 38
theorem sc__law_piece : FnScope ["_law_purse_here", "_law_places", "_law_there", "_law_folder", "_law_form_here", "_law_way", "_law_mark", "_law_here", "_law_many", "_law_ended", "_law_place", "_law_name_here"] ["_law_purse_here", "_law_places", "_law_there"] (defScope s__law_piece) := ⟨rfl, rfl, rfl, by decide +kernel, rfl, by decide +kernel, by decide +kernel⟩
abbrev s__law_made : Stmt := top 39
theorem sc__law_made : FnScope ["_law_look"] ["_law_look"] (defScope s__law_made) := ⟨rfl, rfl, rfl, by decide +kernel, rfl, by decide +kernel, by decide +kernel⟩
abbrev s__law_says : Stmt := top 40
theorem sc__law_says : FnScope ["_law_look", "_law_place", "_law_one", "_law_stands", "_law_word", "_law_folder", "_law_form_here", "_law_mark", "_law_names_here", "_law_ended", "_law_rank"] ["_law_look", "_law_place"] (defScope s__law_says) := ⟨rfl, rfl, rfl, by decide +kernel, rfl, by decide +kernel, by decide +kernel⟩
abbrev s__law_standing : Stmt := top 41
theorem sc__law_standing : FnScope ["_law_look", "_law_one", "_law_stands", "_law_name_here"] ["_law_look"] (defScope s__law_standing) := ⟨rfl, rfl, rfl, by decide +kernel, rfl, by decide +kernel, by decide +kernel⟩
abbrev s__law_around : Stmt := top 42
theorem sc__law_around : FnScope ["_law_purse_here", "_law_places", "_law_look", "_law_found", "_law_place", "_law_name_here"] ["_law_purse_here", "_law_places", "_law_look"] (defScope s__law_around) := ⟨rfl, rfl, rfl, by decide +kernel, rfl, by decide +kernel, by decide +kernel⟩
abbrev s__law_strangers : Stmt := top 43
theorem sc__law_strangers : FnScope ["_law_place", "_law_folder", "_law_name_here"] ["_law_place"] (defScope s__law_strangers) := ⟨rfl, rfl, rfl, by decide +kernel, rfl, by decide +kernel, by decide +kernel⟩
abbrev s__law_raises : Stmt := top 44
theorem sc__law_raises : FnScope ["_law_look", "_law_value", "_law_found", "e"] ["_law_look", "_law_value"] (defScope s__law_raises) := ⟨rfl, rfl, rfl, by decide +kernel, rfl, by decide +kernel, by decide +kernel⟩
abbrev s_law : Stmt := top 45
theorem sc_law : FnScope ["_law_script", "_law_at", "_law_purse_here", "_law_places", "_law_there", "_law_look", "_law_piece_here", "_law_place", "_law_due", "_law_told", "_law_strangers_here", "_law_one"] ["_law_script"] (defScope s_law) := ⟨rfl, rfl, rfl, by decide +kernel, rfl, by decide +kernel, by decide +kernel⟩
def fn : List He5.DefA := [
  ⟨fun K => He.ga K "is_whole", "is_whole", "is_whole", defArgs s_is_whole, defBody s_is_whole, defScope s_is_whole, [], []⟩,
  ⟨fun K => He.ga K "is_name", "is_name", "is_name", defArgs s_is_name, defBody s_is_name, defScope s_is_name, [], []⟩,
  ⟨fun K => He.ga K "is_place", "is_place", "is_place", defArgs s_is_place, defBody s_is_place, defScope s_is_place, [], []⟩,
  ⟨fun K => He.ga K "check_name", "check_name", "check_name", defArgs s_check_name, defBody s_check_name, defScope s_check_name, [], []⟩,
  ⟨fun K => He.ga K "check_place", "check_place", "check_place", defArgs s_check_place, defBody s_check_place, defScope s_check_place, [], []⟩,
  ⟨fun K => He.ga K "is_order", "is_order", "is_order", defArgs s_is_order, defBody s_is_order, defScope s_is_order, [], []⟩,
  ⟨fun K => He.ga K "key_in", "key_in", "key_in", defArgs s_key_in, defBody s_key_in, defScope s_key_in, [], []⟩,
  ⟨fun K => He.ma K (He.ga K "Form") "__init__", "__init__", "Form.__init__", defArgs s_Form___init__, defBody s_Form___init__, defScope s_Form___init__, [.str "abcdefghijklmnopqrstuvwxyz", .int 1], []⟩,
  ⟨fun K => He.ma K (He.ga K "Form") "__call__", "__call__", "Form.__call__", defArgs s_Form___call__, defBody s_Form___call__, defScope s_Form___call__, [], []⟩,
  ⟨fun K => He.ga K "are_names_behind", "are_names_behind", "are_names_behind", defArgs s_are_names_behind, defBody s_are_names_behind, defScope s_are_names_behind, [], []⟩,
  ⟨fun K => He.ga K "is_piece", "is_piece", "is_piece", defArgs s_is_piece, defBody s_is_piece, defScope s_is_piece, [], []⟩,
  ⟨fun K => He.ma K (He.ga K "Piece") "__init__", "__init__", "Piece.__init__", defArgs s_Piece___init__, defBody s_Piece___init__, defScope s_Piece___init__, [], []⟩,
  ⟨fun K => He.ma K (He.ga K "Piece") "covers", "covers", "Piece.covers", defArgs s_Piece_covers, defBody s_Piece_covers, defScope s_Piece_covers, [], []⟩,
  ⟨fun K => He.ma K (He.ga K "Piece") "__contains__", "__contains__", "Piece.__contains__", defArgs s_Piece___contains__, defBody s_Piece___contains__, defScope s_Piece___contains__, [], []⟩,
  ⟨fun K => He.ma K (He.ga K "Piece") "says", "says", "Piece.says", defArgs s_Piece_says, defBody s_Piece_says, defScope s_Piece_says, [], []⟩,
  ⟨fun K => He.ma K (He.ga K "Piece") "standing", "standing", "Piece.standing", defArgs s_Piece_standing, defBody s_Piece_standing, defScope s_Piece_standing, [], []⟩,
  ⟨fun K => He.ga K "_law_purse", "_law_purse", "_law_purse", defArgs s__law_purse, defBody s__law_purse, defScope s__law_purse, [], []⟩,
  ⟨fun K => He.ga K "_law_draw", "_law_draw", "_law_draw", defArgs s__law_draw, defBody s__law_draw, defScope s__law_draw, [], []⟩,
  ⟨fun K => He.ga K "_law_name", "_law_name", "_law_name", defArgs s__law_name, defBody s__law_name, defScope s__law_name, [], []⟩,
  ⟨fun K => He.ga K "_law_names", "_law_names", "_law_names", defArgs s__law_names, defBody s__law_names, defScope s__law_names, [], []⟩,
  ⟨fun K => He.ga K "_law_form", "_law_form", "_law_form", defArgs s__law_form, defBody s__law_form, defScope s__law_form, [], []⟩,
  ⟨fun K => He.ga K "_law_key", "_law_key", "_law_key", defArgs s__law_key, defBody s__law_key, defScope s__law_key, [], []⟩,
  ⟨fun K => He.ga K "_law_ordered", "_law_ordered", "_law_ordered", defArgs s__law_ordered, defBody s__law_ordered, defScope s__law_ordered, [], []⟩,
  ⟨fun K => He.ga K "_law_world", "_law_world", "_law_world", defArgs s__law_world, defBody s__law_world, defScope s__law_world, [], []⟩,
  ⟨fun K => He.ga K "_law_piece", "_law_piece", "_law_piece", defArgs s__law_piece, defBody s__law_piece, defScope s__law_piece, [], []⟩,
  ⟨fun K => He.ga K "_law_made", "_law_made", "_law_made", defArgs s__law_made, defBody s__law_made, defScope s__law_made, [], []⟩,
  ⟨fun K => He.ga K "_law_says", "_law_says", "_law_says", defArgs s__law_says, defBody s__law_says, defScope s__law_says, [], []⟩,
  ⟨fun K => He.ga K "_law_standing", "_law_standing", "_law_standing", defArgs s__law_standing, defBody s__law_standing, defScope s__law_standing, [], []⟩,
  ⟨fun K => He.ga K "_law_around", "_law_around", "_law_around", defArgs s__law_around, defBody s__law_around, defScope s__law_around, [], []⟩,
  ⟨fun K => He.ga K "_law_strangers", "_law_strangers", "_law_strangers", defArgs s__law_strangers, defBody s__law_strangers, defScope s__law_strangers, [], []⟩,
  ⟨fun K => He.ga K "_law_raises", "_law_raises", "_law_raises", defArgs s__law_raises, defBody s__law_raises, defScope s__law_raises, [], []⟩,
  ⟨fun K => He.ga K "law", "law", "law", defArgs s_law, defBody s_law, defScope s_law, [], []⟩]
abbrev i_InvalidForm : Stmt := inCls (top 5) 0
abbrev i_InvalidLook : Stmt := inCls (top 6) 0
abbrev i_InvalidName : Stmt := inCls (top 3) 0
abbrev i_InvalidPlace : Stmt := inCls (top 4) 0
def ini : List IniD := [
  ⟨"InvalidForm", "InvalidForm.__init__", defArgs i_InvalidForm, defBody i_InvalidForm, defScope i_InvalidForm, 1, ["value"]⟩,
  ⟨"InvalidLook", "InvalidLook.__init__", defArgs i_InvalidLook, defBody i_InvalidLook, defScope i_InvalidLook, 1, ["value"]⟩,
  ⟨"InvalidName", "InvalidName.__init__", defArgs i_InvalidName, defBody i_InvalidName, defScope i_InvalidName, 1, ["value"]⟩,
  ⟨"InvalidPlace", "InvalidPlace.__init__", defArgs i_InvalidPlace, defBody i_InvalidPlace, defScope i_InvalidPlace, 1, ["value"]⟩]
def ck (K : Frag) : List Bool := [
  He.Fa.ok K (.glo "Form"),
  He.Fa.ok K (.glo "Piece"),
  He.Fa.ok K (.glo "_law_around"),
  He.Fa.ok K (.glo "_law_draw"),
  He.Fa.ok K (.glo "_law_form"),
  He.Fa.ok K (.glo "_law_key"),
  He.Fa.ok K (.glo "_law_made"),
  He.Fa.ok K (.glo "_law_name"),
  He.Fa.ok K (.glo "_law_names"),
  He.Fa.ok K (.glo "_law_ordered"),
  He.Fa.ok K (.glo "_law_piece"),
  He.Fa.ok K (.glo "_law_purse"),
  He.Fa.ok K (.glo "_law_raises"),
  He.Fa.ok K (.glo "_law_says"),
  He.Fa.ok K (.glo "_law_standing"),
  He.Fa.ok K (.glo "_law_strangers"),
  He.Fa.ok K (.glo "_law_world"),
  He.Fa.ok K (.glo "are_names_behind"),
  He.Fa.ok K (.glo "check_name"),
  He.Fa.ok K (.glo "check_place"),
  He.Fa.ok K (.glo "is_name"),
  He.Fa.ok K (.glo "is_order"),
  He.Fa.ok K (.glo "is_piece"),
  He.Fa.ok K (.glo "is_place"),
  He.Fa.ok K (.glo "is_whole"),
  He.Fa.ok K (.glo "key_in"),
  He.Fa.ok K (.glo "law"),
  He.Fa.ok K (.free "bool"),
  He.Fa.ok K (.free "int"),
  He.Fa.ok K (.free "isinstance"),
  He.Fa.ok K (.free "len"),
  He.Fa.ok K (.free "list"),
  He.Fa.ok K (.free "max"),
  He.Fa.ok K (.free "min"),
  He.Fa.ok K (.free "range"),
  He.Fa.ok K (.free "sorted"),
  He.Fa.ok K (.free "str"),
  He.Fa.ok K (.free "sum"),
  He.Fa.ok K (.free "tuple"),
  He.Fa.ok K (.str "ALPHABET" "abcdefghijklmnopqrstuvwxyz"),
  He.Fa.ok K (.int "MOST_CHAINS" 1000),
  He.Fa.ok K (.cls "Form"),
  iclsB K (He.ga K "Form"),
  He.Fa.ok K (.mkr "Form"),
  He.Fa.ok K (.meth "Form" "__init__"),
  He.Fa.ok K (.meth "Form" "__call__"),
  ownB K (He.ga K "Form") "__call__",
  He.Fa.ok K (.noat "Form" "ranking"),
  He.Fa.ok K (.noat "Form" "many"),
  kitB' K (.type "NoneType") (.ref (He.ga K "Form")) false,
  PySem.W.notFirst K (He.ga K "Form") (.type "NoneType"),
  kitB' K (.ref (He.ga K "Form")) (.type "NoneType") false,
  kitB' K (.type "bool") (.ref (He.ga K "Form")) false,
  PySem.W.notFirst K (He.ga K "Form") (.type "bool"),
  kitB' K (.ref (He.ga K "Form")) (.type "bool") false,
  kitB' K (.type "int") (.ref (He.ga K "Form")) false,
  PySem.W.notFirst K (He.ga K "Form") (.type "int"),
  kitB' K (.ref (He.ga K "Form")) (.type "int") false,
  kitB' K (.type "str") (.ref (He.ga K "Form")) false,
  PySem.W.notFirst K (He.ga K "Form") (.type "str"),
  kitB' K (.ref (He.ga K "Form")) (.type "str") false,
  kitB' K (.type "tuple") (.ref (He.ga K "Form")) false,
  PySem.W.notFirst K (He.ga K "Form") (.type "tuple"),
  kitB' K (.ref (He.ga K "Form")) (.type "tuple") false,
  kitB' K (.type "list") (.ref (He.ga K "Form")) false,
  PySem.W.notFirst K (He.ga K "Form") (.type "list"),
  kitB' K (.ref (He.ga K "Form")) (.type "list") false,
  kitB' K (.type "dict") (.ref (He.ga K "Form")) false,
  PySem.W.notFirst K (He.ga K "Form") (.type "dict"),
  kitB' K (.ref (He.ga K "Form")) (.type "dict") false,
  subB K (.ref (He.ga K "Form")) (.type "tuple") false,
  kitB' K (.ref (He.ga K "Form")) (.ref (He.ga K "Ask")) false,
  PySem.W.notFirst K (He.ga K "Form") (.ref (He.ga K "Ask")),
  kitB' K (.ref (He.ga K "Form")) (.ref (He.ga K "Form")) true,
  PySem.W.notFirst K (He.ga K "Form") (.ref (He.ga K "Form")),
  kitB' K (.ref (He.ga K "Form")) (.ref (He.ga K "Look")) false,
  PySem.W.notFirst K (He.ga K "Form") (.ref (He.ga K "Look")),
  kitB' K (.ref (He.ga K "Form")) (.ref (He.ga K "Piece")) false,
  PySem.W.notFirst K (He.ga K "Form") (.ref (He.ga K "Piece")),
  He.Fa.ok K (.cls "Piece"),
  iclsB K (He.ga K "Piece"),
  He.Fa.ok K (.mkr "Piece"),
  He.Fa.ok K (.meth "Piece" "__init__"),
  He.Fa.ok K (.meth "Piece" "covers"),
  He.Fa.ok K (.meth "Piece" "__contains__"),
  He.Fa.ok K (.meth "Piece" "says"),
  He.Fa.ok K (.meth "Piece" "standing"),
  He.Fa.ok K (.noat "Piece" "drawer"),
  He.Fa.ok K (.noat "Piece" "order"),
  He.Fa.ok K (.noat "Piece" "behind"),
  He.Fa.ok K (.noat "Piece" "rows"),
  He.Fa.ok K (.noat "Piece" "finished"),
  He.Fa.ok K (.noat "Piece" "low"),
  He.Fa.ok K (.noat "Piece" "high"),
  kitB' K (.type "NoneType") (.ref (He.ga K "Piece")) false,
  PySem.W.notFirst K (He.ga K "Piece") (.type "NoneType"),
  kitB' K (.ref (He.ga K "Piece")) (.type "NoneType") false,
  kitB' K (.type "bool") (.ref (He.ga K "Piece")) false,
  PySem.W.notFirst K (He.ga K "Piece") (.type "bool"),
  kitB' K (.ref (He.ga K "Piece")) (.type "bool") false,
  kitB' K (.type "int") (.ref (He.ga K "Piece")) false,
  PySem.W.notFirst K (He.ga K "Piece") (.type "int"),
  kitB' K (.ref (He.ga K "Piece")) (.type "int") false,
  kitB' K (.type "str") (.ref (He.ga K "Piece")) false,
  PySem.W.notFirst K (He.ga K "Piece") (.type "str"),
  kitB' K (.ref (He.ga K "Piece")) (.type "str") false,
  kitB' K (.type "tuple") (.ref (He.ga K "Piece")) false,
  PySem.W.notFirst K (He.ga K "Piece") (.type "tuple"),
  kitB' K (.ref (He.ga K "Piece")) (.type "tuple") false,
  kitB' K (.type "list") (.ref (He.ga K "Piece")) false,
  PySem.W.notFirst K (He.ga K "Piece") (.type "list"),
  kitB' K (.ref (He.ga K "Piece")) (.type "list") false,
  kitB' K (.type "dict") (.ref (He.ga K "Piece")) false,
  PySem.W.notFirst K (He.ga K "Piece") (.type "dict"),
  kitB' K (.ref (He.ga K "Piece")) (.type "dict") false,
  subB K (.ref (He.ga K "Piece")) (.type "tuple") false,
  kitB' K (.ref (He.ga K "Piece")) (.ref (He.ga K "Ask")) false,
  PySem.W.notFirst K (He.ga K "Piece") (.ref (He.ga K "Ask")),
  kitB' K (.ref (He.ga K "Piece")) (.ref (He.ga K "Form")) false,
  PySem.W.notFirst K (He.ga K "Piece") (.ref (He.ga K "Form")),
  kitB' K (.ref (He.ga K "Piece")) (.ref (He.ga K "Look")) true,
  PySem.W.notFirst K (He.ga K "Piece") (.ref (He.ga K "Look")),
  kitB' K (.ref (He.ga K "Piece")) (.ref (He.ga K "Piece")) true,
  PySem.W.notFirst K (He.ga K "Piece") (.ref (He.ga K "Piece")),
  He.Fa.ok K (.exm "InvalidForm" "InvalidPlace" false),
  He.Fa.ok K (.exm "InvalidLook" "InvalidPlace" false),
  He.Fa.ok K (.exm "InvalidName" "InvalidPlace" false),
  He.Fa.ok K (.exm "InvalidPlace" "InvalidPlace" true)]
def tabs : List TabD := []
def lams : List LamD := [(fun K => He.ga K "_law_ordered", "_law_ordered.<locals>.<lambda>")]
structure Fx (K : Frag) (mg : Str → Option Value) (base : Heap) : Prop where
  s : Says P.main.file ck fn ini K
  x : ∃ h : Heap, K.In h ∧ h.Ns mainGlobals mg
  b : Tbs lams K mg base
theorem noSuper : (P.main.scope.names.lookup ("super" : Str)).isSome = false := by decide +kernel
section
variable {K : Frag} {mg : Str → Option Value} {base : Heap}
theorem Fx.g_Form (hx : Fx K mg base) : mg "Form" = some (.ref (He.ga K "Form")) := by obtain ⟨h, X, G⟩ := hx.x; exact He.glo_ok X G (hx.s.chk 0)
theorem Fx.g_Piece (hx : Fx K mg base) : mg "Piece" = some (.ref (He.ga K "Piece")) := by obtain ⟨h, X, G⟩ := hx.x; exact He.glo_ok X G (hx.s.chk 1)
theorem Fx.g__law_around (hx : Fx K mg base) : mg "_law_around" = some (.ref (He.ga K "_law_around")) := by obtain ⟨h, X, G⟩ := hx.x; exact He.glo_ok X G (hx.s.chk 2)
theorem Fx.g__law_draw (hx : Fx K mg base) : mg "_law_draw" = some (.ref (He.ga K "_law_draw")) := by obtain ⟨h, X, G⟩ := hx.x; exact He.glo_ok X G (hx.s.chk 3)
theorem Fx.g__law_form (hx : Fx K mg base) : mg "_law_form" = some (.ref (He.ga K "_law_form")) := by obtain ⟨h, X, G⟩ := hx.x; exact He.glo_ok X G (hx.s.chk 4)
theorem Fx.g__law_key (hx : Fx K mg base) : mg "_law_key" = some (.ref (He.ga K "_law_key")) := by obtain ⟨h, X, G⟩ := hx.x; exact He.glo_ok X G (hx.s.chk 5)
theorem Fx.g__law_made (hx : Fx K mg base) : mg "_law_made" = some (.ref (He.ga K "_law_made")) := by obtain ⟨h, X, G⟩ := hx.x; exact He.glo_ok X G (hx.s.chk 6)
theorem Fx.g__law_name (hx : Fx K mg base) : mg "_law_name" = some (.ref (He.ga K "_law_name")) := by obtain ⟨h, X, G⟩ := hx.x; exact He.glo_ok X G (hx.s.chk 7)
theorem Fx.g__law_names (hx : Fx K mg base) : mg "_law_names" = some (.ref (He.ga K "_law_names")) := by obtain ⟨h, X, G⟩ := hx.x; exact He.glo_ok X G (hx.s.chk 8)
theorem Fx.g__law_ordered (hx : Fx K mg base) : mg "_law_ordered" = some (.ref (He.ga K "_law_ordered")) := by obtain ⟨h, X, G⟩ := hx.x; exact He.glo_ok X G (hx.s.chk 9)
theorem Fx.g__law_piece (hx : Fx K mg base) : mg "_law_piece" = some (.ref (He.ga K "_law_piece")) := by obtain ⟨h, X, G⟩ := hx.x; exact He.glo_ok X G (hx.s.chk 10)
theorem Fx.g__law_purse (hx : Fx K mg base) : mg "_law_purse" = some (.ref (He.ga K "_law_purse")) := by obtain ⟨h, X, G⟩ := hx.x; exact He.glo_ok X G (hx.s.chk 11)
theorem Fx.g__law_raises (hx : Fx K mg base) : mg "_law_raises" = some (.ref (He.ga K "_law_raises")) := by obtain ⟨h, X, G⟩ := hx.x; exact He.glo_ok X G (hx.s.chk 12)
theorem Fx.g__law_says (hx : Fx K mg base) : mg "_law_says" = some (.ref (He.ga K "_law_says")) := by obtain ⟨h, X, G⟩ := hx.x; exact He.glo_ok X G (hx.s.chk 13)
theorem Fx.g__law_standing (hx : Fx K mg base) : mg "_law_standing" = some (.ref (He.ga K "_law_standing")) := by obtain ⟨h, X, G⟩ := hx.x; exact He.glo_ok X G (hx.s.chk 14)
theorem Fx.g__law_strangers (hx : Fx K mg base) : mg "_law_strangers" = some (.ref (He.ga K "_law_strangers")) := by obtain ⟨h, X, G⟩ := hx.x; exact He.glo_ok X G (hx.s.chk 15)
theorem Fx.g__law_world (hx : Fx K mg base) : mg "_law_world" = some (.ref (He.ga K "_law_world")) := by obtain ⟨h, X, G⟩ := hx.x; exact He.glo_ok X G (hx.s.chk 16)
theorem Fx.g_are_names_behind (hx : Fx K mg base) : mg "are_names_behind" = some (.ref (He.ga K "are_names_behind")) := by obtain ⟨h, X, G⟩ := hx.x; exact He.glo_ok X G (hx.s.chk 17)
theorem Fx.g_check_name (hx : Fx K mg base) : mg "check_name" = some (.ref (He.ga K "check_name")) := by obtain ⟨h, X, G⟩ := hx.x; exact He.glo_ok X G (hx.s.chk 18)
theorem Fx.g_check_place (hx : Fx K mg base) : mg "check_place" = some (.ref (He.ga K "check_place")) := by obtain ⟨h, X, G⟩ := hx.x; exact He.glo_ok X G (hx.s.chk 19)
theorem Fx.g_is_name (hx : Fx K mg base) : mg "is_name" = some (.ref (He.ga K "is_name")) := by obtain ⟨h, X, G⟩ := hx.x; exact He.glo_ok X G (hx.s.chk 20)
theorem Fx.g_is_order (hx : Fx K mg base) : mg "is_order" = some (.ref (He.ga K "is_order")) := by obtain ⟨h, X, G⟩ := hx.x; exact He.glo_ok X G (hx.s.chk 21)
theorem Fx.g_is_piece (hx : Fx K mg base) : mg "is_piece" = some (.ref (He.ga K "is_piece")) := by obtain ⟨h, X, G⟩ := hx.x; exact He.glo_ok X G (hx.s.chk 22)
theorem Fx.g_is_place (hx : Fx K mg base) : mg "is_place" = some (.ref (He.ga K "is_place")) := by obtain ⟨h, X, G⟩ := hx.x; exact He.glo_ok X G (hx.s.chk 23)
theorem Fx.g_is_whole (hx : Fx K mg base) : mg "is_whole" = some (.ref (He.ga K "is_whole")) := by obtain ⟨h, X, G⟩ := hx.x; exact He.glo_ok X G (hx.s.chk 24)
theorem Fx.g_key_in (hx : Fx K mg base) : mg "key_in" = some (.ref (He.ga K "key_in")) := by obtain ⟨h, X, G⟩ := hx.x; exact He.glo_ok X G (hx.s.chk 25)
theorem Fx.g_law (hx : Fx K mg base) : mg "law" = some (.ref (He.ga K "law")) := by obtain ⟨h, X, G⟩ := hx.x; exact He.glo_ok X G (hx.s.chk 26)
theorem Fx.b_bool (hx : Fx K mg base) : mg "bool" = none := by obtain ⟨h, X, G⟩ := hx.x; exact He.free_ok X G (hx.s.chk 27)
theorem Fx.b_int (hx : Fx K mg base) : mg "int" = none := by obtain ⟨h, X, G⟩ := hx.x; exact He.free_ok X G (hx.s.chk 28)
theorem Fx.b_isinstance (hx : Fx K mg base) : mg "isinstance" = none := by obtain ⟨h, X, G⟩ := hx.x; exact He.free_ok X G (hx.s.chk 29)
theorem Fx.b_len (hx : Fx K mg base) : mg "len" = none := by obtain ⟨h, X, G⟩ := hx.x; exact He.free_ok X G (hx.s.chk 30)
theorem Fx.b_list (hx : Fx K mg base) : mg "list" = none := by obtain ⟨h, X, G⟩ := hx.x; exact He.free_ok X G (hx.s.chk 31)
theorem Fx.b_max (hx : Fx K mg base) : mg "max" = none := by obtain ⟨h, X, G⟩ := hx.x; exact He.free_ok X G (hx.s.chk 32)
theorem Fx.b_min (hx : Fx K mg base) : mg "min" = none := by obtain ⟨h, X, G⟩ := hx.x; exact He.free_ok X G (hx.s.chk 33)
theorem Fx.b_range (hx : Fx K mg base) : mg "range" = none := by obtain ⟨h, X, G⟩ := hx.x; exact He.free_ok X G (hx.s.chk 34)
theorem Fx.b_sorted (hx : Fx K mg base) : mg "sorted" = none := by obtain ⟨h, X, G⟩ := hx.x; exact He.free_ok X G (hx.s.chk 35)
theorem Fx.b_str (hx : Fx K mg base) : mg "str" = none := by obtain ⟨h, X, G⟩ := hx.x; exact He.free_ok X G (hx.s.chk 36)
theorem Fx.b_sum (hx : Fx K mg base) : mg "sum" = none := by obtain ⟨h, X, G⟩ := hx.x; exact He.free_ok X G (hx.s.chk 37)
theorem Fx.b_tuple (hx : Fx K mg base) : mg "tuple" = none := by obtain ⟨h, X, G⟩ := hx.x; exact He.free_ok X G (hx.s.chk 38)
theorem Fx.c_ALPHABET (hx : Fx K mg base) : ∃ t, mg "ALPHABET" = some (.str "abcdefghijklmnopqrstuvwxyz" t) := by obtain ⟨h, X, G⟩ := hx.x; exact He.str_ok X G (hx.s.chk 39)
theorem Fx.e_ALPHABET {X : Cx} {F0 : Hp} {pos : Pos} (hx : Fx X.K X.mg X.base) (hg : Gl X "ALPHABET" := by rfl) : DPE X F0 (.Name "ALPHABET" pos) (dC (.str "abcdefghijklmnopqrstuvwxyz")) := by obtain ⟨t, e⟩ := hx.c_ALPHABET; exact dglob e (show RelV (.str _) _ from ⟨t, rfl⟩) (fun _ => rep_str) hg
theorem Fx.c_MOST_CHAINS (hx : Fx K mg base) : ∃ t, mg "MOST_CHAINS" = some (.int 1000 t) := by obtain ⟨h, X, G⟩ := hx.x; exact He.int_ok X G (hx.s.chk 40)
theorem Fx.e_MOST_CHAINS {X : Cx} {F0 : Hp} {pos : Pos} (hx : Fx X.K X.mg X.base) (hg : Gl X "MOST_CHAINS" := by rfl) : DPE X F0 (.Name "MOST_CHAINS" pos) (dC (.int 1000)) := by obtain ⟨t, e⟩ := hx.c_MOST_CHAINS; exact dglob e (show RelV (.int _) _ from ⟨t, rfl⟩) (fun _ => rep_int) hg
theorem Fx.cl_Form (hx : Fx K mg base) : Cls K (He.ga K "Form") := He.cls_ok (hx.s.chk 41)
theorem Fx.ic_Form (hx : Fx K mg base) : ICls K (He.ga K "Form") := iclsB_ok (hx.s.chk 41) (hx.s.chk 42)
theorem Fx.mk_Form (hx : Fx K mg base) : Mk K (He.ga K "Form") (He.ma K (He.ga K "Form") "__init__") := He.mkr_ok (hx.s.chk 43)
theorem Fx.me_Form___init__ (hx : Fx K mg base) : Meth K (He.ga K "Form") "__init__" (He.ma K (He.ga K "Form") "__init__") := He.meth_ok (hx.s.chk 44)
theorem Fx.me_Form___call__ (hx : Fx K mg base) : Meth K (He.ga K "Form") "__call__" (He.ma K (He.ga K "Form") "__call__") := He.meth_ok (hx.s.chk 45)
theorem Fx.ob_Form___call__ (hx : Fx K mg base) : ownB K (He.ga K "Form") "__call__" = true := hx.s.chk 46
theorem Fx.pf_Form_ranking (hx : Fx K mg base) : PF K (He.ga K "Form") "ranking" := ⟨hx.cl_Form, He.noat_ok (hx.s.chk 47)⟩
theorem Fx.pf_Form_many (hx : Fx K mg base) : PF K (He.ga K "Form") "many" := ⟨hx.cl_Form, He.noat_ok (hx.s.chk 48)⟩
theorem Fx.kt_NoneType_Form (hx : Fx K mg base) : PySem.W.kitOne K (.type "NoneType") (.ref (He.ga K "Form")) = some false := of_decide_eq_true (hx.s.chk 49)
theorem Fx.nf_Form_NoneType (hx : Fx K mg base) : PySem.W.notFirst K (He.ga K "Form") (.type "NoneType") = true := hx.s.chk 50
theorem Fx.ko_Form_NoneType (hx : Fx K mg base) : PySem.W.kitOne K (.ref (He.ga K "Form")) (.type "NoneType") = some false := of_decide_eq_true (hx.s.chk 51)
theorem Fx.kt_bool_Form (hx : Fx K mg base) : PySem.W.kitOne K (.type "bool") (.ref (He.ga K "Form")) = some false := of_decide_eq_true (hx.s.chk 52)
theorem Fx.nf_Form_bool (hx : Fx K mg base) : PySem.W.notFirst K (He.ga K "Form") (.type "bool") = true := hx.s.chk 53
theorem Fx.ko_Form_bool (hx : Fx K mg base) : PySem.W.kitOne K (.ref (He.ga K "Form")) (.type "bool") = some false := of_decide_eq_true (hx.s.chk 54)
theorem Fx.kt_int_Form (hx : Fx K mg base) : PySem.W.kitOne K (.type "int") (.ref (He.ga K "Form")) = some false := of_decide_eq_true (hx.s.chk 55)
theorem Fx.nf_Form_int (hx : Fx K mg base) : PySem.W.notFirst K (He.ga K "Form") (.type "int") = true := hx.s.chk 56
theorem Fx.ko_Form_int (hx : Fx K mg base) : PySem.W.kitOne K (.ref (He.ga K "Form")) (.type "int") = some false := of_decide_eq_true (hx.s.chk 57)
theorem Fx.kt_str_Form (hx : Fx K mg base) : PySem.W.kitOne K (.type "str") (.ref (He.ga K "Form")) = some false := of_decide_eq_true (hx.s.chk 58)
theorem Fx.nf_Form_str (hx : Fx K mg base) : PySem.W.notFirst K (He.ga K "Form") (.type "str") = true := hx.s.chk 59
theorem Fx.ko_Form_str (hx : Fx K mg base) : PySem.W.kitOne K (.ref (He.ga K "Form")) (.type "str") = some false := of_decide_eq_true (hx.s.chk 60)
theorem Fx.kt_tuple_Form (hx : Fx K mg base) : PySem.W.kitOne K (.type "tuple") (.ref (He.ga K "Form")) = some false := of_decide_eq_true (hx.s.chk 61)
theorem Fx.nf_Form_tuple (hx : Fx K mg base) : PySem.W.notFirst K (He.ga K "Form") (.type "tuple") = true := hx.s.chk 62
theorem Fx.ko_Form_tuple (hx : Fx K mg base) : PySem.W.kitOne K (.ref (He.ga K "Form")) (.type "tuple") = some false := of_decide_eq_true (hx.s.chk 63)
theorem Fx.kt_list_Form (hx : Fx K mg base) : PySem.W.kitOne K (.type "list") (.ref (He.ga K "Form")) = some false := of_decide_eq_true (hx.s.chk 64)
theorem Fx.nf_Form_list (hx : Fx K mg base) : PySem.W.notFirst K (He.ga K "Form") (.type "list") = true := hx.s.chk 65
theorem Fx.ko_Form_list (hx : Fx K mg base) : PySem.W.kitOne K (.ref (He.ga K "Form")) (.type "list") = some false := of_decide_eq_true (hx.s.chk 66)
theorem Fx.kt_dict_Form (hx : Fx K mg base) : PySem.W.kitOne K (.type "dict") (.ref (He.ga K "Form")) = some false := of_decide_eq_true (hx.s.chk 67)
theorem Fx.nf_Form_dict (hx : Fx K mg base) : PySem.W.notFirst K (He.ga K "Form") (.type "dict") = true := hx.s.chk 68
theorem Fx.ko_Form_dict (hx : Fx K mg base) : PySem.W.kitOne K (.ref (He.ga K "Form")) (.type "dict") = some false := of_decide_eq_true (hx.s.chk 69)
theorem Fx.st_Form (hx : Fx K mg base) : PySem.W.subIn K (.ref (He.ga K "Form")) (.type "tuple") = some false := of_decide_eq_true (hx.s.chk 70)
theorem Fx.kc_Form_Ask (hx : Fx K mg base) : PySem.W.kitOne K (.ref (He.ga K "Form")) (.ref (He.ga K "Ask")) = some false := of_decide_eq_true (hx.s.chk 71)
theorem Fx.nc_Form_Ask (hx : Fx K mg base) : PySem.W.notFirst K (He.ga K "Form") (.ref (He.ga K "Ask")) = true := hx.s.chk 72
theorem Fx.kc_Form_Form (hx : Fx K mg base) : PySem.W.kitOne K (.ref (He.ga K "Form")) (.ref (He.ga K "Form")) = some true := of_decide_eq_true (hx.s.chk 73)
theorem Fx.nc_Form_Form (hx : Fx K mg base) : PySem.W.notFirst K (He.ga K "Form") (.ref (He.ga K "Form")) = true := hx.s.chk 74
theorem Fx.kc_Form_Look (hx : Fx K mg base) : PySem.W.kitOne K (.ref (He.ga K "Form")) (.ref (He.ga K "Look")) = some false := of_decide_eq_true (hx.s.chk 75)
theorem Fx.nc_Form_Look (hx : Fx K mg base) : PySem.W.notFirst K (He.ga K "Form") (.ref (He.ga K "Look")) = true := hx.s.chk 76
theorem Fx.kc_Form_Piece (hx : Fx K mg base) : PySem.W.kitOne K (.ref (He.ga K "Form")) (.ref (He.ga K "Piece")) = some false := of_decide_eq_true (hx.s.chk 77)
theorem Fx.nc_Form_Piece (hx : Fx K mg base) : PySem.W.notFirst K (He.ga K "Form") (.ref (He.ga K "Piece")) = true := hx.s.chk 78
theorem Fx.cl_Piece (hx : Fx K mg base) : Cls K (He.ga K "Piece") := He.cls_ok (hx.s.chk 79)
theorem Fx.ic_Piece (hx : Fx K mg base) : ICls K (He.ga K "Piece") := iclsB_ok (hx.s.chk 79) (hx.s.chk 80)
theorem Fx.mk_Piece (hx : Fx K mg base) : Mk K (He.ga K "Piece") (He.ma K (He.ga K "Piece") "__init__") := He.mkr_ok (hx.s.chk 81)
theorem Fx.me_Piece___init__ (hx : Fx K mg base) : Meth K (He.ga K "Piece") "__init__" (He.ma K (He.ga K "Piece") "__init__") := He.meth_ok (hx.s.chk 82)
theorem Fx.me_Piece_covers (hx : Fx K mg base) : Meth K (He.ga K "Piece") "covers" (He.ma K (He.ga K "Piece") "covers") := He.meth_ok (hx.s.chk 83)
theorem Fx.me_Piece___contains__ (hx : Fx K mg base) : Meth K (He.ga K "Piece") "__contains__" (He.ma K (He.ga K "Piece") "__contains__") := He.meth_ok (hx.s.chk 84)
theorem Fx.me_Piece_says (hx : Fx K mg base) : Meth K (He.ga K "Piece") "says" (He.ma K (He.ga K "Piece") "says") := He.meth_ok (hx.s.chk 85)
theorem Fx.me_Piece_standing (hx : Fx K mg base) : Meth K (He.ga K "Piece") "standing" (He.ma K (He.ga K "Piece") "standing") := He.meth_ok (hx.s.chk 86)
theorem Fx.pf_Piece_drawer (hx : Fx K mg base) : PF K (He.ga K "Piece") "drawer" := ⟨hx.cl_Piece, He.noat_ok (hx.s.chk 87)⟩
theorem Fx.pf_Piece_order (hx : Fx K mg base) : PF K (He.ga K "Piece") "order" := ⟨hx.cl_Piece, He.noat_ok (hx.s.chk 88)⟩
theorem Fx.pf_Piece_behind (hx : Fx K mg base) : PF K (He.ga K "Piece") "behind" := ⟨hx.cl_Piece, He.noat_ok (hx.s.chk 89)⟩
theorem Fx.pf_Piece_rows (hx : Fx K mg base) : PF K (He.ga K "Piece") "rows" := ⟨hx.cl_Piece, He.noat_ok (hx.s.chk 90)⟩
theorem Fx.pf_Piece_finished (hx : Fx K mg base) : PF K (He.ga K "Piece") "finished" := ⟨hx.cl_Piece, He.noat_ok (hx.s.chk 91)⟩
theorem Fx.pf_Piece_low (hx : Fx K mg base) : PF K (He.ga K "Piece") "low" := ⟨hx.cl_Piece, He.noat_ok (hx.s.chk 92)⟩
theorem Fx.pf_Piece_high (hx : Fx K mg base) : PF K (He.ga K "Piece") "high" := ⟨hx.cl_Piece, He.noat_ok (hx.s.chk 93)⟩
theorem Fx.kt_NoneType_Piece (hx : Fx K mg base) : PySem.W.kitOne K (.type "NoneType") (.ref (He.ga K "Piece")) = some false := of_decide_eq_true (hx.s.chk 94)
theorem Fx.nf_Piece_NoneType (hx : Fx K mg base) : PySem.W.notFirst K (He.ga K "Piece") (.type "NoneType") = true := hx.s.chk 95
theorem Fx.ko_Piece_NoneType (hx : Fx K mg base) : PySem.W.kitOne K (.ref (He.ga K "Piece")) (.type "NoneType") = some false := of_decide_eq_true (hx.s.chk 96)
theorem Fx.kt_bool_Piece (hx : Fx K mg base) : PySem.W.kitOne K (.type "bool") (.ref (He.ga K "Piece")) = some false := of_decide_eq_true (hx.s.chk 97)
theorem Fx.nf_Piece_bool (hx : Fx K mg base) : PySem.W.notFirst K (He.ga K "Piece") (.type "bool") = true := hx.s.chk 98
theorem Fx.ko_Piece_bool (hx : Fx K mg base) : PySem.W.kitOne K (.ref (He.ga K "Piece")) (.type "bool") = some false := of_decide_eq_true (hx.s.chk 99)
theorem Fx.kt_int_Piece (hx : Fx K mg base) : PySem.W.kitOne K (.type "int") (.ref (He.ga K "Piece")) = some false := of_decide_eq_true (hx.s.chk 100)
theorem Fx.nf_Piece_int (hx : Fx K mg base) : PySem.W.notFirst K (He.ga K "Piece") (.type "int") = true := hx.s.chk 101
theorem Fx.ko_Piece_int (hx : Fx K mg base) : PySem.W.kitOne K (.ref (He.ga K "Piece")) (.type "int") = some false := of_decide_eq_true (hx.s.chk 102)
theorem Fx.kt_str_Piece (hx : Fx K mg base) : PySem.W.kitOne K (.type "str") (.ref (He.ga K "Piece")) = some false := of_decide_eq_true (hx.s.chk 103)
theorem Fx.nf_Piece_str (hx : Fx K mg base) : PySem.W.notFirst K (He.ga K "Piece") (.type "str") = true := hx.s.chk 104
theorem Fx.ko_Piece_str (hx : Fx K mg base) : PySem.W.kitOne K (.ref (He.ga K "Piece")) (.type "str") = some false := of_decide_eq_true (hx.s.chk 105)
theorem Fx.kt_tuple_Piece (hx : Fx K mg base) : PySem.W.kitOne K (.type "tuple") (.ref (He.ga K "Piece")) = some false := of_decide_eq_true (hx.s.chk 106)
theorem Fx.nf_Piece_tuple (hx : Fx K mg base) : PySem.W.notFirst K (He.ga K "Piece") (.type "tuple") = true := hx.s.chk 107
theorem Fx.ko_Piece_tuple (hx : Fx K mg base) : PySem.W.kitOne K (.ref (He.ga K "Piece")) (.type "tuple") = some false := of_decide_eq_true (hx.s.chk 108)
theorem Fx.kt_list_Piece (hx : Fx K mg base) : PySem.W.kitOne K (.type "list") (.ref (He.ga K "Piece")) = some false := of_decide_eq_true (hx.s.chk 109)
theorem Fx.nf_Piece_list (hx : Fx K mg base) : PySem.W.notFirst K (He.ga K "Piece") (.type "list") = true := hx.s.chk 110
theorem Fx.ko_Piece_list (hx : Fx K mg base) : PySem.W.kitOne K (.ref (He.ga K "Piece")) (.type "list") = some false := of_decide_eq_true (hx.s.chk 111)
theorem Fx.kt_dict_Piece (hx : Fx K mg base) : PySem.W.kitOne K (.type "dict") (.ref (He.ga K "Piece")) = some false := of_decide_eq_true (hx.s.chk 112)
theorem Fx.nf_Piece_dict (hx : Fx K mg base) : PySem.W.notFirst K (He.ga K "Piece") (.type "dict") = true := hx.s.chk 113
theorem Fx.ko_Piece_dict (hx : Fx K mg base) : PySem.W.kitOne K (.ref (He.ga K "Piece")) (.type "dict") = some false := of_decide_eq_true (hx.s.chk 114)
theorem Fx.st_Piece (hx : Fx K mg base) : PySem.W.subIn K (.ref (He.ga K "Piece")) (.type "tuple") = some false := of_decide_eq_true (hx.s.chk 115)
theorem Fx.kc_Piece_Ask (hx : Fx K mg base) : PySem.W.kitOne K (.ref (He.ga K "Piece")) (.ref (He.ga K "Ask")) = some false := of_decide_eq_true (hx.s.chk 116)
theorem Fx.nc_Piece_Ask (hx : Fx K mg base) : PySem.W.notFirst K (He.ga K "Piece") (.ref (He.ga K "Ask")) = true := hx.s.chk 117
theorem Fx.kc_Piece_Form (hx : Fx K mg base) : PySem.W.kitOne K (.ref (He.ga K "Piece")) (.ref (He.ga K "Form")) = some false := of_decide_eq_true (hx.s.chk 118)
theorem Fx.nc_Piece_Form (hx : Fx K mg base) : PySem.W.notFirst K (He.ga K "Piece") (.ref (He.ga K "Form")) = true := hx.s.chk 119
theorem Fx.kc_Piece_Look (hx : Fx K mg base) : PySem.W.kitOne K (.ref (He.ga K "Piece")) (.ref (He.ga K "Look")) = some true := of_decide_eq_true (hx.s.chk 120)
theorem Fx.nc_Piece_Look (hx : Fx K mg base) : PySem.W.notFirst K (He.ga K "Piece") (.ref (He.ga K "Look")) = true := hx.s.chk 121
theorem Fx.kc_Piece_Piece (hx : Fx K mg base) : PySem.W.kitOne K (.ref (He.ga K "Piece")) (.ref (He.ga K "Piece")) = some true := of_decide_eq_true (hx.s.chk 122)
theorem Fx.nc_Piece_Piece (hx : Fx K mg base) : PySem.W.notFirst K (He.ga K "Piece") (.ref (He.ga K "Piece")) = true := hx.s.chk 123
theorem Fx.xm_InvalidForm_InvalidPlace (hx : Fx K mg base) : PySem.W.exmOne K (.ref (He.ga K "InvalidForm")) (.ref (He.ga K "InvalidPlace")) = some false := He.exm_ok (hx.s.chk 124)
theorem Fx.xm_InvalidLook_InvalidPlace (hx : Fx K mg base) : PySem.W.exmOne K (.ref (He.ga K "InvalidLook")) (.ref (He.ga K "InvalidPlace")) = some false := He.exm_ok (hx.s.chk 125)
theorem Fx.xm_InvalidName_InvalidPlace (hx : Fx K mg base) : PySem.W.exmOne K (.ref (He.ga K "InvalidName")) (.ref (He.ga K "InvalidPlace")) = some false := He.exm_ok (hx.s.chk 126)
theorem Fx.xm_InvalidPlace_InvalidPlace (hx : Fx K mg base) : PySem.W.exmOne K (.ref (He.ga K "InvalidPlace")) (.ref (He.ga K "InvalidPlace")) = some true := He.exm_ok (hx.s.chk 127)
theorem Fx.tb__law_ordered (hx : Fx K mg base) : LamX.TabB base mg (cdA K (He.ga K "_law_ordered")) (tbA K (He.ga K "_law_ordered")) := Tbs.at hx.b 0
theorem s_glaw {h : Heap} (X : K.In h) (G : h.Ns mainGlobals mg) (s : Says P.main.file ck fn ini K) : mg "law" = some (.ref (He.ga K "law")) := He.glo_ok X G (s.chk 26)
theorem Fx.in_InvalidForm (hx : Fx K mg base) : IniK P K ⟨"InvalidForm", "InvalidForm.__init__", defArgs i_InvalidForm, defBody i_InvalidForm, defScope i_InvalidForm, 1, ["value"]⟩ := hx.s.exc noSuper 0
theorem Fx.g_InvalidForm (hx : Fx K mg base) : mg "InvalidForm" = some (.ref (He.ga K "InvalidForm")) := by obtain ⟨h, X, G⟩ := hx.x; exact PySem.W.mg_of X G hx.in_InvalidForm.gl
theorem xs_InvalidForm : XScope ["self", "value"] (defScope i_InvalidForm) := ⟨rfl, rfl, rfl, by decide +kernel, by decide +kernel, by decide +kernel, rfl, rfl, xfree_of (by decide +kernel)⟩
abbrev xg_InvalidForm := g1 "value"
theorem Fx.dx_InvalidForm (hx : Fx K mg base) (w : World) (_ : Heap) (k : Nat) : DExc P w K mg base (k + 1) "InvalidForm" (He.ga K "InvalidForm") xg_InvalidForm :=
  hx.in_InvalidForm.dexc1 hx.g_InvalidForm "value" rfl rfl (by decide) xs_InvalidForm (by decide) (by decide) rfl rfl (fun _ _ _ _ _ => ⟨rfl, rfl, _, rfl⟩) (fun _ _ _ _ _ _ _ _ _ us its h1 h2 => match us, its, h1, h2 with | [_, _], [_], _, _ => ⟨_, rfl, rfl⟩)
theorem Fx.in_InvalidLook (hx : Fx K mg base) : IniK P K ⟨"InvalidLook", "InvalidLook.__init__", defArgs i_InvalidLook, defBody i_InvalidLook, defScope i_InvalidLook, 1, ["value"]⟩ := hx.s.exc noSuper 1
theorem Fx.g_InvalidLook (hx : Fx K mg base) : mg "InvalidLook" = some (.ref (He.ga K "InvalidLook")) := by obtain ⟨h, X, G⟩ := hx.x; exact PySem.W.mg_of X G hx.in_InvalidLook.gl
theorem xs_InvalidLook : XScope ["self", "value"] (defScope i_InvalidLook) := ⟨rfl, rfl, rfl, by decide +kernel, by decide +kernel, by decide +kernel, rfl, rfl, xfree_of (by decide +kernel)⟩
abbrev xg_InvalidLook := g1 "value"
theorem Fx.dx_InvalidLook (hx : Fx K mg base) (w : World) (_ : Heap) (k : Nat) : DExc P w K mg base (k + 1) "InvalidLook" (He.ga K "InvalidLook") xg_InvalidLook :=
  hx.in_InvalidLook.dexc1 hx.g_InvalidLook "value" rfl rfl (by decide) xs_InvalidLook (by decide) (by decide) rfl rfl (fun _ _ _ _ _ => ⟨rfl, rfl, _, rfl⟩) (fun _ _ _ _ _ _ _ _ _ us its h1 h2 => match us, its, h1, h2 with | [_, _], [_], _, _ => ⟨_, rfl, rfl⟩)
theorem Fx.in_InvalidName (hx : Fx K mg base) : IniK P K ⟨"InvalidName", "InvalidName.__init__", defArgs i_InvalidName, defBody i_InvalidName, defScope i_InvalidName, 1, ["value"]⟩ := hx.s.exc noSuper 2
theorem Fx.g_InvalidName (hx : Fx K mg base) : mg "InvalidName" = some (.ref (He.ga K "InvalidName")) := by obtain ⟨h, X, G⟩ := hx.x; exact PySem.W.mg_of X G hx.in_InvalidName.gl
theorem xs_InvalidName : XScope ["self", "value"] (defScope i_InvalidName) := ⟨rfl, rfl, rfl, by decide +kernel, by decide +kernel, by decide +kernel, rfl, rfl, xfree_of (by decide +kernel)⟩
abbrev xg_InvalidName := g1 "value"
theorem Fx.dx_InvalidName (hx : Fx K mg base) (w : World) (_ : Heap) (k : Nat) : DExc P w K mg base (k + 1) "InvalidName" (He.ga K "InvalidName") xg_InvalidName :=
  hx.in_InvalidName.dexc1 hx.g_InvalidName "value" rfl rfl (by decide) xs_InvalidName (by decide) (by decide) rfl rfl (fun _ _ _ _ _ => ⟨rfl, rfl, _, rfl⟩) (fun _ _ _ _ _ _ _ _ _ us its h1 h2 => match us, its, h1, h2 with | [_, _], [_], _, _ => ⟨_, rfl, rfl⟩)
theorem Fx.in_InvalidPlace (hx : Fx K mg base) : IniK P K ⟨"InvalidPlace", "InvalidPlace.__init__", defArgs i_InvalidPlace, defBody i_InvalidPlace, defScope i_InvalidPlace, 1, ["value"]⟩ := hx.s.exc noSuper 3
theorem Fx.g_InvalidPlace (hx : Fx K mg base) : mg "InvalidPlace" = some (.ref (He.ga K "InvalidPlace")) := by obtain ⟨h, X, G⟩ := hx.x; exact PySem.W.mg_of X G hx.in_InvalidPlace.gl
theorem xs_InvalidPlace : XScope ["self", "value"] (defScope i_InvalidPlace) := ⟨rfl, rfl, rfl, by decide +kernel, by decide +kernel, by decide +kernel, rfl, rfl, xfree_of (by decide +kernel)⟩
abbrev xg_InvalidPlace := g1 "value"
theorem Fx.dx_InvalidPlace (hx : Fx K mg base) (w : World) (_ : Heap) (k : Nat) : DExc P w K mg base (k + 1) "InvalidPlace" (He.ga K "InvalidPlace") xg_InvalidPlace :=
  hx.in_InvalidPlace.dexc1 hx.g_InvalidPlace "value" rfl rfl (by decide) xs_InvalidPlace (by decide) (by decide) rfl rfl (fun _ _ _ _ _ => ⟨rfl, rfl, _, rfl⟩) (fun _ _ _ _ _ _ _ _ _ us its h1 h2 => match us, its, h1, h2 with | [_, _], [_], _, _ => ⟨_, rfl, rfl⟩)
theorem Fx.fd_is_whole (hx : Fx K mg base) : ∃ fd, FunD K "is_whole" "is_whole" (defArgs s_is_whole) (defBody s_is_whole) (defScope s_is_whole) [] [] (He.ga K "is_whole") fd := hx.s.def_ 0
theorem Fx.fd_is_name (hx : Fx K mg base) : ∃ fd, FunD K "is_name" "is_name" (defArgs s_is_name) (defBody s_is_name) (defScope s_is_name) [] [] (He.ga K "is_name") fd := hx.s.def_ 1
theorem Fx.fd_is_place (hx : Fx K mg base) : ∃ fd, FunD K "is_place" "is_place" (defArgs s_is_place) (defBody s_is_place) (defScope s_is_place) [] [] (He.ga K "is_place") fd := hx.s.def_ 2
theorem Fx.fd_check_name (hx : Fx K mg base) : ∃ fd, FunD K "check_name" "check_name" (defArgs s_check_name) (defBody s_check_name) (defScope s_check_name) [] [] (He.ga K "check_name") fd := hx.s.def_ 3
theorem Fx.fd_check_place (hx : Fx K mg base) : ∃ fd, FunD K "check_place" "check_place" (defArgs s_check_place) (defBody s_check_place) (defScope s_check_place) [] [] (He.ga K "check_place") fd := hx.s.def_ 4
theorem Fx.fd_is_order (hx : Fx K mg base) : ∃ fd, FunD K "is_order" "is_order" (defArgs s_is_order) (defBody s_is_order) (defScope s_is_order) [] [] (He.ga K "is_order") fd := hx.s.def_ 5
theorem Fx.fd_key_in (hx : Fx K mg base) : ∃ fd, FunD K "key_in" "key_in" (defArgs s_key_in) (defBody s_key_in) (defScope s_key_in) [] [] (He.ga K "key_in") fd := hx.s.def_ 6
theorem Fx.fd_Form___init__ (hx : Fx K mg base) : ∃ fd, FunD K "__init__" "Form.__init__" (defArgs s_Form___init__) (defBody s_Form___init__) (defScope s_Form___init__) [.str "abcdefghijklmnopqrstuvwxyz", .int 1] [] (He.ma K (He.ga K "Form") "__init__") fd := hx.s.def_ 7
theorem Fx.fd_Form___call__ (hx : Fx K mg base) : ∃ fd, FunD K "__call__" "Form.__call__" (defArgs s_Form___call__) (defBody s_Form___call__) (defScope s_Form___call__) [] [] (He.ma K (He.ga K "Form") "__call__") fd := hx.s.def_ 8
theorem Fx.fd_are_names_behind (hx : Fx K mg base) : ∃ fd, FunD K "are_names_behind" "are_names_behind" (defArgs s_are_names_behind) (defBody s_are_names_behind) (defScope s_are_names_behind) [] [] (He.ga K "are_names_behind") fd := hx.s.def_ 9
theorem Fx.fd_is_piece (hx : Fx K mg base) : ∃ fd, FunD K "is_piece" "is_piece" (defArgs s_is_piece) (defBody s_is_piece) (defScope s_is_piece) [] [] (He.ga K "is_piece") fd := hx.s.def_ 10
theorem Fx.fd_Piece___init__ (hx : Fx K mg base) : ∃ fd, FunD K "__init__" "Piece.__init__" (defArgs s_Piece___init__) (defBody s_Piece___init__) (defScope s_Piece___init__) [] [] (He.ma K (He.ga K "Piece") "__init__") fd := hx.s.def_ 11
theorem Fx.fd_Piece_covers (hx : Fx K mg base) : ∃ fd, FunD K "covers" "Piece.covers" (defArgs s_Piece_covers) (defBody s_Piece_covers) (defScope s_Piece_covers) [] [] (He.ma K (He.ga K "Piece") "covers") fd := hx.s.def_ 12
theorem Fx.fd_Piece___contains__ (hx : Fx K mg base) : ∃ fd, FunD K "__contains__" "Piece.__contains__" (defArgs s_Piece___contains__) (defBody s_Piece___contains__) (defScope s_Piece___contains__) [] [] (He.ma K (He.ga K "Piece") "__contains__") fd := hx.s.def_ 13
theorem Fx.fd_Piece_says (hx : Fx K mg base) : ∃ fd, FunD K "says" "Piece.says" (defArgs s_Piece_says) (defBody s_Piece_says) (defScope s_Piece_says) [] [] (He.ma K (He.ga K "Piece") "says") fd := hx.s.def_ 14
theorem Fx.fd_Piece_standing (hx : Fx K mg base) : ∃ fd, FunD K "standing" "Piece.standing" (defArgs s_Piece_standing) (defBody s_Piece_standing) (defScope s_Piece_standing) [] [] (He.ma K (He.ga K "Piece") "standing") fd := hx.s.def_ 15
theorem Fx.fd__law_purse (hx : Fx K mg base) : ∃ fd, FunD K "_law_purse" "_law_purse" (defArgs s__law_purse) (defBody s__law_purse) (defScope s__law_purse) [] [] (He.ga K "_law_purse") fd := hx.s.def_ 16
theorem Fx.fd__law_draw (hx : Fx K mg base) : ∃ fd, FunD K "_law_draw" "_law_draw" (defArgs s__law_draw) (defBody s__law_draw) (defScope s__law_draw) [] [] (He.ga K "_law_draw") fd := hx.s.def_ 17
theorem Fx.fd__law_name (hx : Fx K mg base) : ∃ fd, FunD K "_law_name" "_law_name" (defArgs s__law_name) (defBody s__law_name) (defScope s__law_name) [] [] (He.ga K "_law_name") fd := hx.s.def_ 18
theorem Fx.fd__law_names (hx : Fx K mg base) : ∃ fd, FunD K "_law_names" "_law_names" (defArgs s__law_names) (defBody s__law_names) (defScope s__law_names) [] [] (He.ga K "_law_names") fd := hx.s.def_ 19
theorem Fx.fd__law_form (hx : Fx K mg base) : ∃ fd, FunD K "_law_form" "_law_form" (defArgs s__law_form) (defBody s__law_form) (defScope s__law_form) [] [] (He.ga K "_law_form") fd := hx.s.def_ 20
theorem Fx.fd__law_key (hx : Fx K mg base) : ∃ fd, FunD K "_law_key" "_law_key" (defArgs s__law_key) (defBody s__law_key) (defScope s__law_key) [] [] (He.ga K "_law_key") fd := hx.s.def_ 21
theorem Fx.fd__law_ordered (hx : Fx K mg base) : ∃ fd, FunD K "_law_ordered" "_law_ordered" (defArgs s__law_ordered) (defBody s__law_ordered) (defScope s__law_ordered) [] [] (He.ga K "_law_ordered") fd := hx.s.def_ 22
theorem Fx.fd__law_world (hx : Fx K mg base) : ∃ fd, FunD K "_law_world" "_law_world" (defArgs s__law_world) (defBody s__law_world) (defScope s__law_world) [] [] (He.ga K "_law_world") fd := hx.s.def_ 23
theorem Fx.fd__law_piece (hx : Fx K mg base) : ∃ fd, FunD K "_law_piece" "_law_piece" (defArgs s__law_piece) (defBody s__law_piece) (defScope s__law_piece) [] [] (He.ga K "_law_piece") fd := hx.s.def_ 24
theorem Fx.fd__law_made (hx : Fx K mg base) : ∃ fd, FunD K "_law_made" "_law_made" (defArgs s__law_made) (defBody s__law_made) (defScope s__law_made) [] [] (He.ga K "_law_made") fd := hx.s.def_ 25
theorem Fx.fd__law_says (hx : Fx K mg base) : ∃ fd, FunD K "_law_says" "_law_says" (defArgs s__law_says) (defBody s__law_says) (defScope s__law_says) [] [] (He.ga K "_law_says") fd := hx.s.def_ 26
theorem Fx.fd__law_standing (hx : Fx K mg base) : ∃ fd, FunD K "_law_standing" "_law_standing" (defArgs s__law_standing) (defBody s__law_standing) (defScope s__law_standing) [] [] (He.ga K "_law_standing") fd := hx.s.def_ 27
theorem Fx.fd__law_around (hx : Fx K mg base) : ∃ fd, FunD K "_law_around" "_law_around" (defArgs s__law_around) (defBody s__law_around) (defScope s__law_around) [] [] (He.ga K "_law_around") fd := hx.s.def_ 28
theorem Fx.fd__law_strangers (hx : Fx K mg base) : ∃ fd, FunD K "_law_strangers" "_law_strangers" (defArgs s__law_strangers) (defBody s__law_strangers) (defScope s__law_strangers) [] [] (He.ga K "_law_strangers") fd := hx.s.def_ 29
theorem Fx.fd__law_raises (hx : Fx K mg base) : ∃ fd, FunD K "_law_raises" "_law_raises" (defArgs s__law_raises) (defBody s__law_raises) (defScope s__law_raises) [] [] (He.ga K "_law_raises") fd := hx.s.def_ 30
theorem Fx.fd_law (hx : Fx K mg base) : ∃ fd, FunD K "law" "law" (defArgs s_law) (defBody s_law) (defScope s_law) [] [] (He.ga K "law") fd := hx.s.def_ 31
theorem s_fdlaw {K : Frag} (s : Says P.main.file ck fn ini K) : ∃ fd, FunD K "law" "law" (defArgs s_law) (defBody s_law) (defScope s_law) [] [] (He.ga K "law") fd := s.def_ 31
end
end K06
set_option Elab.async false
set_option linter.all false
set_option maxRecDepth 100000
set_option maxHeartbeats 4000000
namespace K06
open PySem PySem.Spec PyProof.Rows L2 DX DL DH DS PL LM
/-! ### promises -/
abbrev cF (K : Frag) : Addr := He.ga K "Form"
abbrev cC (K : Frag) : Addr := He.ga K "Piece"
abbrev cX (K : Frag) : Addr := He.ga K "InvalidForm"
abbrev cN (K : Frag) : Addr := He.ga K "InvalidName"
abbrev cP (K : Frag) : Addr := He.ga K "InvalidPlace"
abbrev cL (K : Frag) : Addr := He.ga K "InvalidLook"
def form (K : Frag) (l c : D) : D := .ins (cF K) ["ranking", "many"] [l, c]
abbrev fm (K : Frag) (z : Str) (m : Int) : D := form K (.str z) (.int m)
def pce (K : Frag) (p : Pc) : D := .ins (cC K) ["drawer", "order", "behind", "rows", "finished", "low", "high"] [.str p.f, fm K p.z p.m, oS p.mrk, .tup (p.ns.map D.str), .bl p.en, p.low, p.high]
def purse (a b c : Int) : MO := .lst [.int a, .int b, .int c]
def sp_is_whole (K : Frag) : DSp := fun ds M Q _ => ∃ d, ds = [d] ∧ plain d = true ∧ Q (.bl (isWh d)) M
def sp_is_name (K : Frag) : DSp := fun ds M Q _ => ∃ d, ds = [d] ∧ odd M 1 d ∧ Q (.bl (nmD d)) M
def sp_is_place (K : Frag) : DSp := fun ds M Q _ => ∃ d, ds = [d] ∧ odd M 2 d ∧ Q (.bl (isPl d)) M
def sp_check_name (K : Frag) : DSp := fun ds M Q E => ∃ d, ds = [d] ∧ odd M 1 d ∧ (nmD d = true → Q .non M) ∧ (nmD d = false → E (cN K) [("value", d)] M)
def sp_check_place (K : Frag) : DSp := fun ds M Q E => ∃ d, ds = [d] ∧ odd M 2 d ∧ (isPl d = true → Q .non M) ∧ (isPl d = false → E (cP K) [("value", d)] M)
def sp_is_order (K : Frag) : DSp := fun ds M Q _ => ∃ l c, ds = [l, c] ∧ plain l = true ∧ plain c = true ∧ short l = true ∧ Q (.bl (isOrd l c)) M
def sp_key_in (K : Frag) : DSp := fun ds M Q _ => ∃ z m n, ds = [.str z, .int m, .str n] ∧ Fm z m ∧ nm n = true ∧ Q (keyT z m n) M
def sp_Form___init__ (K : Frag) : DSp := fun ds M Q E => ∃ q l c, ds = [.ref q, l, c] ∧ M q = some (.ins (cF K) []) ∧ plain l = true ∧ plain c = true ∧ short l = true ∧
  (isOrd l c = true → Q .non (put M q (.ins (cF K) [("ranking", l), ("many", c)]))) ∧ (isOrd l c = false → E (cX K) [("value", .tup [l, c])] M)
def mk_Form2 (K : Frag) : DSp := fun ds M Q E => ∃ l c, ds = [l, c] ∧ plain l = true ∧ plain c = true ∧ short l = true ∧ (isOrd l c = true → Q (form K l c) M) ∧ (isOrd l c = false → E (cX K) [("value", .tup [l, c])] M)
def sp_Form___call__ (K : Frag) : DSp := fun ds M Q E => ∃ z m d, ds = [fm K z m, d] ∧ Fm z m ∧ odd M 1 d ∧ (nmD d = true → Q (kT z m d) M) ∧ (nmD d = false → E (cN K) [("value", d)] M)
def m___call__ (K : Frag) : List (Addr × DSp) := [(cF K, sp_Form___call__ K)]
def nms (xs : List Str) : Prop := ∀ x ∈ xs, nm x = true
def sp_are_names_behind (K : Frag) : DSp := fun ds M Q _ => ∃ (p : Pc) (v : D), ds = [fm K p.z p.m, oS p.mrk, v] ∧ p.ok ∧ lsD M v (p.ns.map D.str) ∧ Q (.bl true) M
def sp_is_piece (K : Frag) : DSp := fun ds M Q _ => ∃ (p : Pc) (v : D), ds = [.str p.f, fm K p.z p.m, oS p.mrk, v, .bl p.en] ∧ p.ok ∧ lsD M v (p.ns.map D.str) ∧ Q (.bl true) M
def sp_Piece___init__ (K : Frag) : DSp := fun ds M Q _ => ∃ (q : Addr) (p : Pc) (v : D), ds = [.ref q, .str p.f, fm K p.z p.m, oS p.mrk, v, .bl p.en] ∧ p.ok ∧ v ≠ .ref q ∧ lsD M v (p.ns.map D.str) ∧ M q = some (.ins (cC K) []) ∧ Q .non (put M q (.ins (cC K) [("drawer", .str p.f), ("order", fm K p.z p.m), ("behind", oS p.mrk), ("rows", .tup (p.ns.map D.str)), ("finished", .bl p.en), ("low", p.low), ("high", p.high)]))
def mk_Piece5 (K : Frag) : DSp := fun ds M Q _ => ∃ (p : Pc) (v : D), ds = [.str p.f, fm K p.z p.m, oS p.mrk, v, .bl p.en] ∧ p.ok ∧ lsD M v (p.ns.map D.str) ∧ Q (pce K p) M
def sp_Piece_covers (K : Frag) : DSp := fun ds M Q _ => ∃ (p : Pc) (a b : Str), ds = [pce K p, .tup [.str a, .str b]] ∧ p.ok ∧ nm b = true ∧ Q (.bl (p.cov a b)) M
def m_covers (K : Frag) : List (Addr × DSp) := [(cC K, sp_Piece_covers K)]
def sp_Piece___contains__ (K : Frag) : DSp := fun ds M Q _ => ∃ (p : Pc) (d : D), ds = [pce K p, d] ∧ p.ok ∧ odd M 2 d ∧ (∀ a b, d = .tup [.str a, .str b] → nm a = true → nm b = true → Q (.bl (p.cov a b)) M) ∧ (isPl d = false → Q (.bl false) M)
def m___contains__ (K : Frag) : List (Addr × DSp) := [(cC K, sp_Piece___contains__ K)]
def sp_Piece_says (K : Frag) : DSp := fun ds M Q E => ∃ (p : Pc) (d : D), ds = [pce K p, d] ∧ p.ok ∧ odd M 2 d ∧ (∀ a b, d = .tup [.str a, .str b] → nm a = true → nm b = true → Q (oB (p.says a b)) M) ∧ (isPl d = false → E (cP K) [("value", d)] M)
def m_says (K : Frag) : List (Addr × DSp) := [(cC K, sp_Piece_says K)]
def sp_Piece_standing (K : Frag) : DSp := fun ds M Q _ => ∃ p : Pc, ds = [pce K p] ∧ p.ok ∧ ∀ r, M r = none → Q (.ref r) (put M r (.lst p.std))
def m_standing (K : Frag) : List (Addr × DSp) := [(cC K, sp_Piece_standing K)]
def sp__law_purse (K : Frag) : DSp := fun ds M Q _ => ∃ (ns : List Int) (i : Nat), ds = [.scr (ns.map D.int), .int i] ∧ ns.length ≤ 63 ∧ i < 1000 ∧ ∀ (p : Addr) (a b c : Int), M p = none → 0 ≤ a → Q (.ref p) (put M p (purse a b c))
def sp__law_draw (K : Frag) : DSp := fun ds M Q _ => ∃ (q : Addr) (a b c n : Int), ds = [.ref q, .int n] ∧ M q = some (purse a b c) ∧ 0 ≤ a ∧ 1 ≤ n ∧ n ≤ 1000 ∧ ∀ (r a' b' c' : Int), 0 ≤ r → r < n → 0 ≤ a' → Q (.int r) (put M q (purse a' b' c'))
/-- the map behind what drew of the purse at q -/
abbrev drawn (M : DM) (q : Addr) (R : DM → Prop) : Prop := ∀ a b c : Int, 0 ≤ a → R (put M q (purse a b c))
def sp__law_name (K : Frag) : DSp := fun ds M Q _ => ∃ (q : Addr) (a b c : Int), ds = [.ref q] ∧ M q = some (purse a b c) ∧ 0 ≤ a ∧ ∀ z, nm z = true → drawn M q fun M' => Q (.str z) M'
structure Nms (xs : List Str) (n : Int) : Prop where
  nd : xs.Nodup
  nm : ∀ x ∈ xs, PL.nm x = true
  le : (xs.length : Int) ≤ n
  ne : 1 ≤ xs.length
def sp__law_names (K : Frag) : DSp := fun ds M Q _ => ∃ (q : Addr) (a b c n : Int), ds = [.ref q, .int n] ∧ M q = some (purse a b c) ∧ 0 ≤ a ∧ 1 ≤ n ∧ n ≤ 20 ∧ ∀ xs, Nms xs n → drawn M q fun M' => Q (.lst (xs.map D.str)) M'
def sp__law_form (K : Frag) : DSp := fun ds M Q _ => ∃ (q : Addr) (a b c : Int), ds = [.ref q] ∧ M q = some (purse a b c) ∧ 0 ≤ a ∧ ∀ (z : Str) (n a' b' c' : Int), permS z = true → 1 ≤ n → n ≤ 1000 → 0 ≤ a' → Q (.tup [.str z, .int n]) (put M q (purse a' b' c'))
abbrev sc (z : Str) (m : Int) : D := .tup [.str z, .int m]
def sp__law_key (K : Frag) : DSp := fun ds M Q _ => ∃ z m n, ds = [sc z m, .str n] ∧ Fm z m ∧ nm n = true ∧ Q (keyL z m n) M
def sp__law_ordered (K : Frag) : DSp := fun ds M Q _ => ∃ z m xs, ds = [sc z m, .lst (xs.map D.str)] ∧ Fm z m ∧ nms xs ∧ TM lams K M ∧ Q (.lst (ordN z m (xs.map D.str))) M
structure Wld (ps : List D) : Prop where
  pl : allPl ps
  nd : ps.Nodup
  le : ps.length ≤ 18
  ne : 1 ≤ ps.length
def sp__law_world (K : Frag) : DSp := fun ds M Q _ => ∃ (q : Addr) (a b c : Int), ds = [.ref q] ∧ M q = some (purse a b c) ∧ 0 ≤ a ∧ ∀ ps, Wld ps → drawn M q fun M' => Q (.lst ps) M'
/-- a purse at q, the tables -/
structure Ok (K : Frag) (M : DM) (q : Addr) : Prop where
  p : ∃ a b c, M q = some (purse a b c) ∧ 0 ≤ a
  t : TM lams K M
/-- some of the places -/
structure Some' (ts : List D) : Prop where
  pl : allPl ts
  nd : ts.Nodup
  le : ts.length ≤ 18
def sp__law_piece (K : Frag) : DSp := fun ds M Q _ => ∃ (q : Addr) (ps ts : List D), ds = [.ref q, .lst ps, .lst ts] ∧ Ok K M q ∧ Wld ps ∧ Some' ts ∧ ∀ p : Pc, p.ok → drawn M q fun M' => Q p.spec M'
def sp__law_made (K : Frag) : DSp := fun ds M Q _ => ∃ p : Pc, ds = [p.spec] ∧ p.ok ∧ Q (pce K p) M
def sp__law_says (K : Frag) : DSp := fun ds M Q _ => ∃ (p : Pc) (a b : Str), ds = [p.spec, .tup [.str a, .str b]] ∧ p.ok ∧ nm b = true ∧ Q (oB (p.says a b)) M
def sp__law_standing (K : Frag) : DSp := fun ds M Q _ => ∃ p : Pc, ds = [p.spec] ∧ p.ok ∧ Q (.lst p.std) M
def sp__law_around (K : Frag) : DSp := fun ds M Q _ => ∃ (q : Addr) (ps : List D) (p : Pc), ds = [.ref q, .lst ps, p.spec] ∧ Ok K M q ∧ Wld ps ∧ p.ok ∧ ∀ xs, allPl xs → xs.length ≤ 1000 → drawn M q fun M' => Q (.lst xs) M'
/-- no place -/
structure Str0 (d : D) : Prop where
  o : ∀ M, odd M 2 d
  n : isPl d = false
  l : lay 8 d = true
def sp__law_strangers (K : Frag) : DSp := fun ds M Q _ => ∃ a b, ds = [.tup [.str a, .str b]] ∧ nm a = true ∧ nm b = true ∧ ∀ xs : List D, (∀ x ∈ xs, Str0 x) → xs.length ≤ 50 → Q (.lst xs) M
def sp__law_raises (K : Frag) : DSp := fun ds M Q _ => ∃ (p : Pc) (d : D), ds = [pce K p, d] ∧ p.ok ∧ Str0 d ∧ Q (.bl true) M
def sp_law (K : Frag) : DSp := fun ds M Q _ => ∃ ns : List Int, ds = [.scr (ns.map D.int)] ∧ ns.length ≤ 63 ∧ TM lams K M ∧ ∀ M', Q (.bl true) M'
end K06
set_option Elab.async false
set_option linter.all false
set_option maxRecDepth 100000
set_option maxHeartbeats 4000000
namespace K06
open PySem PySem.Spec PyProof.Rows L2 DX DL DH DS PL LM
def t_is_whole (K : Frag) (W : DXK) : DTS := dRet (dAndV (dCB (dIsi K) (dCons (dVar 0) (dCons (dC (.ty "int")) (dNil)))) (dNotE (dCB (dIsi K) (dCons (dVar 0) (dCons (dC (.ty "bool")) (dNil))))))
def t_is_name (K : Frag) (W : DXK) : DTS := dSeq (dIfS (dOr (dNot (dB (dCB (dIsi K) (dCons (dVar 0) (dCons (dC (.ty "str")) (dNil)))))) (dNot (dB (dChain (dCmp .LtE) (dCmp .LtE) (dC (.int 1)) (dCB dLen (dCons (dVar 0) (dNil))) (dC (.int 8)))))) (dRet (dC (.bl false))) (dNext)) (dRet (dOp dEq (dLc (st1 1 (dB (dOp dNotIn (dVar 1) (dC (.str "abcdefghijklmnopqrstuvwxyz")))) (dVar 1)) (dSeqI (dVar 0))) (dLst (dNil))))
def t_is_place (K : Frag) (W : DXK) : DTS := dRet (dAndV (dCB (dIsi K) (dCons (dVar 0) (dCons (dC (.ty "tuple")) (dNil)))) (dAndV (dOp dEq (dCB dLen (dCons (dVar 0) (dNil))) (dC (.int 2))) (dAndV (dCall (sp_is_name K) (dW W) (dCons (dOp dIx (dVar 0) (dC (.int 0))) (dNil))) (dCall (sp_is_name K) (dW W) (dCons (dOp dIx (dVar 0) (dC (.int 1))) (dNil))))))
def t_check_name (K : Frag) (W : DXK) : DTS := dIfS (dNot (dB (dCall (sp_is_name K) (dW W) (dCons (dVar 0) (dNil))))) (dRaise (He.ga K "InvalidName") (xg_InvalidName) (dW W) (dCons (dVar 0) (dNil))) (dNext)
def t_check_place (K : Frag) (W : DXK) : DTS := dIfS (dNot (dB (dCall (sp_is_place K) (dW W) (dCons (dVar 0) (dNil))))) (dRaise (He.ga K "InvalidPlace") (xg_InvalidPlace) (dW W) (dCons (dVar 0) (dNil))) (dNext)
def t_is_order (K : Frag) (W : DXK) : DTS := dSeq (dIfS (dOr (dNot (dB (dCB (dIsi K) (dCons (dVar 0) (dCons (dC (.ty "str")) (dNil)))))) (dB (dOp dNe (dCB dSortedS (dCons (dVar 0) (dNil))) (dCB dListS (dCons (dC (.str "abcdefghijklmnopqrstuvwxyz")) (dNil)))))) (dRet (dC (.bl false))) (dNext)) (dRet (dAndV (dCall (sp_is_whole K) (dW W) (dCons (dVar 1) (dNil))) (dChain (dCmp .LtE) (dCmp .LtE) (dC (.int 1)) (dVar 1) (dC (.int 1000)))))
def t_key_in (K : Frag) (W : DXK) : DTS := dSeq (dSet 3 (dCB dTuple (dCons (dLc (st1 4 (dYes) (dBM "str" dIndexS (dVar 0) (dCons (dVar 4) (dNil)))) (dSeqI (dVar 2))) (dNil)))) (dRet (dTup (dCons (dOp dMod (dCB dSumT (dCons (dVar 3) (dNil))) (dVar 1)) (dCons (dVar 3) (dNil)))))
def t_Form___init__ (K : Frag) (W : DXK) : DTS := dSeq (dIfS (dNot (dB (dCall (sp_is_order K) (dW W) (dCons (dVar 1) (dCons (dVar 2) (dNil)))))) (dRaise (He.ga K "InvalidForm") (xg_InvalidForm) (dW W) (dCons (dTup (dCons (dVar 1) (dCons (dVar 2) (dNil)))) (dNil))) (dNext)) (dSeq (dSetF K "ranking" (dVar 0) (dVar 1)) (dSetF K "many" (dVar 0) (dVar 2)))
def t_Form___call__ (K : Frag) (W : DXK) : DTS := dSeq (dDrop (dCall (sp_check_name K) (dW W) (dCons (dVar 1) (dNil)))) (dRet (dCall (sp_key_in K) (dW W) (dCons (dFld K "ranking" (dVar 0)) (dCons (dFld K "many" (dVar 0)) (dCons (dVar 1) (dNil))))))
def t_are_names_behind_1 (K : Frag) (W : DXK) : DTS := dRet (dOp dEq (dLc (st1 5 (dB (dOp (dCmp .GtE) (dOp dIx (dVar 3) (dOp dSub (dVar 5) (dC (.int 1)))) (dOp dIx (dVar 3) (dVar 5)))) (dVar 5)) (dRng2 (dCons (dC (.int 1)) (dCons (dCB dLen (dCons (dVar 3) (dNil))) (dNil))))) (dLst (dNil)))
def t_are_names_behind_2 (K : Frag) (W : DXK) : DTS := dSeq (dIfS (dB (dOp dIsNot (dVar 1) (dC .non))) (dSet 3 (dOp dAdd (dLst (dCons (dInstC (m___call__ K) (dW W) (dVar 0) (dCons (dVar 1) (dNil))) (dNil))) (dVar 3))) (dNext)) (t_are_names_behind_1 K W)
def t_are_names_behind_3 (K : Frag) (W : DXK) : DTS := dSeq (dSet 3 (dLc (st1 4 (dYes) (dInstC (m___call__ K) W0 (dVar 0) (dCons (dVar 4) (dNil)))) (dSeqI (dVar 2)))) (t_are_names_behind_2 K W)
def t_are_names_behind (K : Frag) (W : DXK) : DTS := dSeq (dIfS (dOr (dNot (dB (dCB (dIsi K) (dCons (dVar 2) (dCons (dC (.ty "list")) (dNil)))))) (dB (dOp dNe (dLc (st1 4 (dNot (dB (dCall (sp_is_name K) W0 (dCons (dVar 4) (dNil))))) (dVar 4)) (dSeqI (dVar 2))) (dLst (dNil))))) (dRet (dC (.bl false))) (dNext)) (t_are_names_behind_3 K W)
def t_is_piece_1 (K : Frag) (W : DXK) : DTS := dRet (dAndV (dCall (sp_are_names_behind K) (dW W) (dCons (dVar 1) (dCons (dVar 2) (dCons (dVar 3) (dNil))))) (dOrV (dVar 4) (dOp dNe (dVar 3) (dLst (dNil)))))
def t_is_piece_2 (K : Frag) (W : DXK) : DTS := dSeq (dIfS (dAnd (dB (dOp dIsNot (dVar 2) (dC .non))) (dNot (dB (dCall (sp_is_name K) (dW W) (dCons (dVar 2) (dNil)))))) (dRet (dC (.bl false))) (dNext)) (t_is_piece_1 K W)
def t_is_piece (K : Frag) (W : DXK) : DTS := dSeq (dIfS (dOr (dNot (dB (dCall (sp_is_name K) (dW W) (dCons (dVar 0) (dNil))))) (dOr (dNot (dB (dCB (dIsi K) (dCons (dVar 1) (dCons (dC (.ref (He.ga K "Form"))) (dNil)))))) (dNot (dB (dCB (dIsi K) (dCons (dVar 4) (dCons (dC (.ty "bool")) (dNil)))))))) (dRet (dC (.bl false))) (dNext)) (t_is_piece_2 K W)
def t_Piece___init___1 (K : Frag) (W : DXK) : DTS := dSetF K "high" (dVar 0) (dIf (dB (dVar 5)) (dC .non) (dInstC (m___call__ K) (dW W) (dVar 2) (dCons (dOp dIx (dVar 4) (dUn dNegR (dC (.int 1)))) (dNil))))
def t_Piece___init___2 (K : Frag) (W : DXK) : DTS := dSeq (dSetF K "low" (dVar 0) (dIf (dB (dOp dIs (dVar 3) (dC .non))) (dC .non) (dInstC (m___call__ K) (dW W) (dVar 2) (dCons (dVar 3) (dNil))))) (t_Piece___init___1 K W)
def t_Piece___init___3 (K : Frag) (W : DXK) : DTS := dSeq (dSetF K "finished" (dVar 0) (dVar 5)) (t_Piece___init___2 K W)
def t_Piece___init___4 (K : Frag) (W : DXK) : DTS := dSeq (dSetF K "rows" (dVar 0) (dCB dTuple (dCons (dVar 4) (dNil)))) (t_Piece___init___3 K W)
def t_Piece___init___5 (K : Frag) (W : DXK) : DTS := dSeq (dSetF K "behind" (dVar 0) (dVar 3)) (t_Piece___init___4 K W)
def t_Piece___init___6 (K : Frag) (W : DXK) : DTS := dSeq (dSetF K "order" (dVar 0) (dVar 2)) (t_Piece___init___5 K W)
def t_Piece___init___7 (K : Frag) (W : DXK) : DTS := dSeq (dSetF K "drawer" (dVar 0) (dVar 1)) (t_Piece___init___6 K W)
def t_Piece___init__ (K : Frag) (W : DXK) : DTS := dSeq (dIfS (dNot (dB (dCall (sp_is_piece K) (dW W) (dCons (dVar 1) (dCons (dVar 2) (dCons (dVar 3) (dCons (dVar 4) (dCons (dVar 5) (dNil))))))))) (dRaise (He.ga K "InvalidLook") (xg_InvalidLook) (dW W) (dCons (dTup (dCons (dVar 1) (dCons (dVar 2) (dCons (dVar 3) (dCons (dVar 4) (dCons (dVar 5) (dNil))))))) (dNil))) (dNext)) (t_Piece___init___7 K W)
def t_Piece_covers_1 (K : Frag) (W : DXK) : DTS := dRet (dOrV (dOp dIs (dFld K "high" (dVar 0)) (dC .non)) (dOp (dCmp .LtE) (dVar 2) (dFld K "high" (dVar 0))))
def t_Piece_covers_2 (K : Frag) (W : DXK) : DTS := dSeq (dIfS (dAnd (dB (dOp dIsNot (dFld K "low" (dVar 0)) (dC .non))) (dB (dOp (dCmp .LtE) (dVar 2) (dFld K "low" (dVar 0))))) (dRet (dC (.bl false))) (dNext)) (t_Piece_covers_1 K W)
def t_Piece_covers_3 (K : Frag) (W : DXK) : DTS := dSeq (dSet 2 (dCall (sp_key_in K) (dW W) (dCons (dFld K "ranking" (dFld K "order" (dVar 0))) (dCons (dFld K "many" (dFld K "order" (dVar 0))) (dCons (dOp dIx (dVar 1) (dC (.int 1))) (dNil)))))) (t_Piece_covers_2 K W)
def t_Piece_covers (K : Frag) (W : DXK) : DTS := dSeq (dIfS (dB (dOp dNe (dOp dIx (dVar 1) (dC (.int 0))) (dFld K "drawer" (dVar 0)))) (dRet (dC (.bl false))) (dNext)) (t_Piece_covers_3 K W)
def t_Piece___contains__ (K : Frag) (W : DXK) : DTS := dRet (dAndV (dCall (sp_is_place K) (dW W) (dCons (dVar 1) (dNil))) (dMeth (m_covers K) "covers" (dW W) (dVar 0) (dCons (dVar 1) (dNil))))
def t_Piece_says_1 (K : Frag) (W : DXK) : DTS := dRet (dOp dIn (dOp dIx (dVar 1) (dC (.int 1))) (dFld K "rows" (dVar 0)))
def t_Piece_says_2 (K : Frag) (W : DXK) : DTS := dSeq (dIfS (dNot (dB (dMeth (m_covers K) "covers" (dW W) (dVar 0) (dCons (dVar 1) (dNil))))) (dRet (dC .non)) (dNext)) (t_Piece_says_1 K W)
def t_Piece_says (K : Frag) (W : DXK) : DTS := dSeq (dDrop (dCall (sp_check_place K) (dW W) (dCons (dVar 1) (dNil)))) (t_Piece_says_2 K W)
def t_Piece_standing (K : Frag) (W : DXK) : DTS := dRet (dCB dSortedM (dCons (dLc (st1 1 (dYes) (dTup (dCons (dFld K "drawer" (dVar 0)) (dCons (dVar 1) (dNil))))) (dSeqI (dFld K "rows" (dVar 0)))) (dNil)))
def t__law_purse (K : Frag) (W : DXK) : DTS := dSeq (dSet 2 (dCB dInt (dCons (dCB dSum (dCons (dSlice (dVar 0) (dPart (dVar 1)) (dPart (dOp dAdd (dVar 1) (dC (.int 1))))) (dNil))) (dNil)))) (dRet (dLstM (dCons (dOp dMul (dCB dInt (dCons (dOp (dCmp .GtE) (dVar 2) (dOp dPow (dC (.int 10)) (dC (.int 18)))) (dNil))) (dOp dMod (dVar 2) (dOp dPow (dOp dPow (dC (.int 10)) (dC (.int 60))) (dC (.int 10))))) (dCons (dOp dMod (dVar 2) (dC (.int 2147483629))) (dCons (dOp dMul (dC (.int 1000)) (dVar 1)) (dNil))))))
def t__law_draw (K : Frag) (W : DXK) : DTS := dSeq (dIfS (dB (dOp (dCmp .Gt) (dOp dIx (dVar 0) (dC (.int 0))) (dC (.int 0)))) (dSeq (dSet 2 (dOp dMod (dOp dIx (dVar 0) (dC (.int 0))) (dVar 1))) (dSeq (dAsg (dOp dFdiv (dOp dIx (dVar 0) (dC (.int 0))) (dVar 1)) (dgSub (dVar 0) (dC (.int 0)))) (dRet (dVar 2)))) (dNext)) (dSeq (dAsg (dOp dAdd (dOp dIx (dVar 0) (dC (.int 2))) (dC (.int 1))) (dgSub (dVar 0) (dC (.int 2)))) (dSeq (dSet 3 (dOp dMod (dOp dAdd (dOp dAdd (dOp dMul (dOp dIx (dVar 0) (dC (.int 1))) (dC (.int 48271))) (dOp dMul (dOp dIx (dVar 0) (dC (.int 2))) (dC (.int 1299709)))) (dC (.int 907))) (dC (.int 2147483629)))) (dSeq (dSet 3 (dOp dMod (dOp dAdd (dOp dMul (dVar 3) (dVar 3)) (dOp dIx (dVar 0) (dC (.int 2)))) (dC (.int 2147483587)))) (dSeq (dSet 3 (dOp dMod (dOp dAdd (dOp dMul (dVar 3) (dVar 3)) (dC (.int 69621))) (dC (.int 2147483563)))) (dRet (dOp dMod (dOp dFdiv (dVar 3) (dC (.int 64))) (dVar 1)))))))
def t__law_name_1 (K : Frag) (W : DXK) : DTS := dSet 1 (dOp dAdd (dVar 1) (dOp dIx (dC (.str "abcdefghijklmnopqrstuvwxyz")) (dCall (sp__law_draw K) (dW W) (dCons (dVar 0) (dCons (dC (.int 26)) (dNil))))))
def t__law_name_2 (K : Frag) (W : DXK) : DTS := dRet (dVar 1)
def t__law_name (K : Frag) (W : DXK) : DTS := dSeq (dSet 1 (dC (.str ""))) (dSeq (dFor (dRng1 (dCons (dOp dAdd (dC (.int 1)) (dCall (sp__law_draw K) (dW W) (dCons (dVar 0) (dCons (dC (.int 8)) (dNil))))) (dNil))) (dgN 2) (t__law_name_1 K W)) (t__law_name_2 K W))
def t__law_names_1 (K : Frag) (W : DXK) : DTS := dIfS (dB (dOp dNotIn (dVar 4) (dVar 2))) (dDrop (dBM "list" dAppend (dVar 2) (dCons (dVar 4) (dNil)))) (dNext)
def t__law_names_2 (K : Frag) (W : DXK) : DTS := dSeq (dSet 4 (dCall (sp__law_name K) (dW W) (dCons (dVar 0) (dNil)))) (dSeq (dIfS (dAnd (dB (dOp dNe (dVar 2) (dLst (dNil)))) (dB (dOp dEq (dCall (sp__law_draw K) (dW W) (dCons (dVar 0) (dCons (dC (.int 3)) (dNil)))) (dC (.int 0))))) (dSet 4 (dSlice (dOp dAdd (dOp dIx (dVar 2) (dUn dNegR (dC (.int 1)))) (dVar 4)) dNoP (dPart (dOp dAdd (dC (.int 1)) (dCall (sp__law_draw K) (dW W) (dCons (dVar 0) (dCons (dC (.int 8)) (dNil)))))))) (dNext)) (t__law_names_1 K W))
def t__law_names_3 (K : Frag) (W : DXK) : DTS := dRet (dVar 2)
def t__law_names (K : Frag) (W : DXK) : DTS := dSeq (dSet 2 (dLstM (dNil))) (dSeq (dFor (dRng1 (dCons (dVar 1) (dNil))) (dgN 3) (t__law_names_2 K W)) (t__law_names_3 K W))
def t__law_form_1 (K : Frag) (W : DXK) : DTS := dSeq (dSet 3 (dOp dAdd (dVar 4) (dCall (sp__law_draw K) (dW W) (dCons (dVar 0) (dCons (dOp dSub (dC (.int 26)) (dVar 4)) (dNil)))))) (dSeq (dSet 5 (dOp dAdd (dSlice (dVar 1) (dPart (dVar 4)) (dPart (dVar 3))) (dSlice (dVar 1) (dPart (dOp dAdd (dVar 3) (dC (.int 1)))) dNoP))) (dSet 1 (dOp dAdd (dOp dAdd (dSlice (dVar 1) dNoP (dPart (dVar 4))) (dOp dIx (dVar 1) (dVar 3))) (dVar 5))))
def t__law_form_2 (K : Frag) (W : DXK) : DTS := dSeq (dSet 6 (dOp dIx (dLst (dCons (dC (.int 1)) (dCons (dC (.int 1)) (dCons (dC (.int 4)) (dCons (dC (.int 1000)) (dNil)))))) (dCall (sp__law_draw K) (dW W) (dCons (dVar 0) (dCons (dC (.int 4)) (dNil)))))) (dRet (dTup (dCons (dVar 1) (dCons (dOp dAdd (dC (.int 1)) (dCall (sp__law_draw K) (dW W) (dCons (dVar 0) (dCons (dVar 6) (dNil))))) (dNil)))))
def t__law_form_3 (K : Frag) (W : DXK) : DTS := dSeq (dIfS (dB (dOp dEq (dVar 2) (dC (.int 3)))) (dFor (dRng1 (dCons (dC (.int 25)) (dNil))) (dgN 4) (t__law_form_1 K W)) (dNext)) (t__law_form_2 K W)
def t__law_form_4 (K : Frag) (W : DXK) : DTS := dSeq (dIfS (dB (dOp dEq (dVar 2) (dC (.int 2)))) (dSeq (dSet 3 (dCall (sp__law_draw K) (dW W) (dCons (dVar 0) (dCons (dC (.int 26)) (dNil))))) (dSet 1 (dOp dAdd (dSlice (dVar 1) (dPart (dVar 3)) dNoP) (dSlice (dVar 1) dNoP (dPart (dVar 3)))))) (dNext)) (t__law_form_3 K W)
def t__law_form (K : Frag) (W : DXK) : DTS := dSeq (dSet 1 (dC (.str "abcdefghijklmnopqrstuvwxyz"))) (dSeq (dSet 2 (dCall (sp__law_draw K) (dW W) (dCons (dVar 0) (dCons (dC (.int 5)) (dNil))))) (dSeq (dIfS (dB (dOp dEq (dVar 2) (dC (.int 1)))) (dSet 1 (dRevS (dVar 1))) (dNext)) (t__law_form_4 K W)))
def t__law_key (K : Frag) (W : DXK) : DTS := dSeq (dSet 2 (dLc (st1 3 (dYes) (dBM "str" dIndexS (dOp dIx (dVar 0) (dC (.int 0))) (dCons (dVar 3) (dNil)))) (dSeqI (dVar 1)))) (dRet (dTup (dCons (dOp dMod (dCB dSum (dCons (dVar 2) (dNil))) (dOp dIx (dVar 0) (dC (.int 1)))) (dCons (dVar 2) (dNil)))))
def t__law_ordered (K : Frag) (W : DXK) : DTS := dRet (dSortLM (tbA K (He.ga K "_law_ordered")) "_law_ordered.<locals>.<lambda>" [0] (dCall (sp__law_key K) W0 (dCons (dVar 1) (dCons (dVar 0) (dNil)))) (dVar 1))
def t__law_world_1 (K : Frag) (W : DXK) : DTS := dDrop (dBM "list" dAppend (dVar 3) (dCons (dTup (dCons (dVar 4) (dCons (dVar 5) (dNil)))) (dNil)))
def t__law_world_2 (K : Frag) (W : DXK) : DTS := dFor (dSeqI (dVar 2)) (dgN 5) (t__law_world_1 K W)
def t__law_world_3 (K : Frag) (W : DXK) : DTS := dRet (dVar 3)
def t__law_world (K : Frag) (W : DXK) : DTS := dSeq (dSet 1 (dCall (sp__law_names K) (dW W) (dCons (dVar 0) (dCons (dOp dAdd (dC (.int 1)) (dCall (sp__law_draw K) (dW W) (dCons (dVar 0) (dCons (dC (.int 3)) (dNil))))) (dNil))))) (dSeq (dSet 2 (dCall (sp__law_names K) (dW W) (dCons (dVar 0) (dCons (dOp dAdd (dC (.int 1)) (dCall (sp__law_draw K) (dW W) (dCons (dVar 0) (dCons (dC (.int 6)) (dNil))))) (dNil))))) (dSeq (dSet 3 (dLstM (dNil))) (dSeq (dFor (dSeqI (dVar 1)) (dgN 4) (t__law_world_2 K W)) (t__law_world_3 K W))))
def t__law_piece_1 (K : Frag) (W : DXK) : DTS := dRet (dTup (dCons (dC (.str "list")) (dCons (dVar 3) (dCons (dVar 4) (dCons (dVar 6) (dCons (dSlice (dVar 7) dNoP (dPart (dVar 8))) (dCons (dVar 9) (dNil))))))))
def t__law_piece_2 (K : Frag) (W : DXK) : DTS := dSeq (dSet 9 (dOrV (dOp dEq (dVar 7) (dLst (dNil))) (dAndV (dOp dEq (dVar 8) (dCB dLen (dCons (dVar 7) (dNil)))) (dOp (dCmp .Gt) (dCall (sp__law_draw K) (dW W) (dCons (dVar 0) (dCons (dC (.int 3)) (dNil)))) (dC (.int 0)))))) (t__law_piece_1 K W)
def t__law_piece_3 (K : Frag) (W : DXK) : DTS := dSeq (dSet 8 (dCB dMin (dCons (dCB dLen (dCons (dVar 7) (dNil))) (dCons (dCB dMax (dCons (dC (.int 1)) (dCons (dCall (sp__law_draw K) (dW W) (dCons (dVar 0) (dCons (dC (.int 8)) (dNil)))) (dNil)))) (dNil))))) (t__law_piece_2 K W)
def t__law_piece_4 (K : Frag) (W : DXK) : DTS := dSeq (dIfS (dB (dOp dIsNot (dVar 6) (dC .non))) (dSet 7 (dLc (st1 11 (dB (dOp (dCmp .Gt) (dCall (sp__law_key K) W0 (dCons (dVar 4) (dCons (dVar 11) (dNil)))) (dCall (sp__law_key K) W0 (dCons (dVar 4) (dCons (dVar 6) (dNil)))))) (dVar 11)) (dSeqI (dVar 7)))) (dNext)) (t__law_piece_3 K W)
def t__law_piece_5 (K : Frag) (W : DXK) : DTS := dSeq (dSet 7 (dCall (sp__law_ordered K) (dW W) (dCons (dVar 4) (dCons (dLc (st1 10 (dB (dOp dEq (dOp dIx (dVar 10) (dC (.int 0))) (dVar 3))) (dOp dIx (dVar 10) (dC (.int 1)))) (dSeqI (dVar 2))) (dNil))))) (t__law_piece_4 K W)
def t__law_piece_6 (K : Frag) (W : DXK) : DTS := dSeq (dIfS (dB (dOp dEq (dVar 5) (dC (.int 2)))) (dSet 6 (dCall (sp__law_name K) (dW W) (dCons (dVar 0) (dNil)))) (dNext)) (t__law_piece_5 K W)
def t__law_piece_7 (K : Frag) (W : DXK) : DTS := dSeq (dSet 6 (dIf (dB (dOp dEq (dVar 5) (dC (.int 1)))) (dOp dIx (dOp dIx (dVar 1) (dCall (sp__law_draw K) (dW W) (dCons (dVar 0) (dCons (dCB dLen (dCons (dVar 1) (dNil))) (dNil))))) (dC (.int 1))) (dC .non))) (t__law_piece_6 K W)
def t__law_piece_8 (K : Frag) (W : DXK) : DTS := dSeq (dSet 5 (dCall (sp__law_draw K) (dW W) (dCons (dVar 0) (dCons (dC (.int 4)) (dNil))))) (t__law_piece_7 K W)
def t__law_piece_9 (K : Frag) (W : DXK) : DTS := dSeq (dSet 4 (dCall (sp__law_form K) (dW W) (dCons (dVar 0) (dNil)))) (t__law_piece_8 K W)
def t__law_piece (K : Frag) (W : DXK) : DTS := dSeq (dSet 3 (dOp dIx (dOp dIx (dVar 1) (dCall (sp__law_draw K) (dW W) (dCons (dVar 0) (dCons (dCB dLen (dCons (dVar 1) (dNil))) (dNil))))) (dC (.int 0)))) (t__law_piece_9 K W)
def t__law_made (K : Frag) (W : DXK) : DTS := dSeq (dIfS (dB (dOp dEq (dOp dIx (dVar 0) (dC (.int 0))) (dC (.str "ask")))) (dNever) (dNext)) (dRet (dCall (mk_Piece5 K) (dW W) (dCons (dOp dIx (dVar 0) (dC (.int 1))) (dCons (dCall (mk_Form2 K) (dW W) (dCons (dOp dIx (dOp dIx (dVar 0) (dC (.int 2))) (dC (.int 0))) (dCons (dOp dIx (dOp dIx (dVar 0) (dC (.int 2))) (dC (.int 1))) (dNil)))) (dCons (dOp dIx (dVar 0) (dC (.int 3))) (dCons (dCB dList (dCons (dOp dIx (dVar 0) (dC (.int 4))) (dNil))) (dCons (dOp dIx (dVar 0) (dC (.int 5))) (dNil))))))))
def t__law_says_1 (K : Frag) (W : DXK) : DTS := dNever
def t__law_says_2 (K : Frag) (W : DXK) : DTS := dRet (dOp dIn (dOp dIx (dVar 1) (dC (.int 1))) (dVar 8))
def t__law_says_3 (K : Frag) (W : DXK) : DTS := dSeq (dIfS (dAnd (dNot (dB (dVar 9))) (dB (dOp (dCmp .Gt) (dVar 10) (dCall (sp__law_key K) (dW W) (dCons (dVar 6) (dCons (dOp dIx (dVar 8) (dUn dNegR (dC (.int 1)))) (dNil))))))) (dRet (dC .non)) (dNext)) (t__law_says_2 K W)
def t__law_says_4 (K : Frag) (W : DXK) : DTS := dSeq (dIfS (dAnd (dB (dOp dIsNot (dVar 7) (dC .non))) (dB (dOp (dCmp .LtE) (dVar 10) (dCall (sp__law_key K) (dW W) (dCons (dVar 6) (dCons (dVar 7) (dNil))))))) (dRet (dC .non)) (dNext)) (t__law_says_3 K W)
def t__law_says_5 (K : Frag) (W : DXK) : DTS := dSeq (dSet 10 (dCall (sp__law_key K) (dW W) (dCons (dVar 6) (dCons (dOp dIx (dVar 1) (dC (.int 1))) (dNil))))) (t__law_says_4 K W)
def t__law_says_6 (K : Frag) (W : DXK) : DTS := dSeq (dIfS (dB (dOp dNe (dOp dIx (dVar 1) (dC (.int 0))) (dVar 5))) (dRet (dC .non)) (dNext)) (t__law_says_5 K W)
def t__law_says_7 (K : Frag) (W : DXK) : DTS := dSeq (dAsg (dVar 0) (dgTup 6 (dgCons (dgN 4) (dgCons (dgN 5) (dgCons (dgN 6) (dgCons (dgN 7) (dgCons (dgN 8) (dgCons (dgN 9) (dgNil))))))))) (t__law_says_6 K W)
def t__law_says (K : Frag) (W : DXK) : DTS := dSeq (dIfS (dB (dOp dEq (dOp dIx (dVar 0) (dC (.int 0))) (dC (.str "ask")))) (dSeq (dNever) (t__law_says_1 K W)) (dNext)) (t__law_says_7 K W)
def t__law_standing (K : Frag) (W : DXK) : DTS := dSeq (dIfS (dB (dOp dEq (dOp dIx (dVar 0) (dC (.int 0))) (dC (.str "ask")))) (dNever) (dNext)) (dRet (dCB dSorted (dCons (dLc (st1 3 (dYes) (dTup (dCons (dOp dIx (dVar 0) (dC (.int 1))) (dCons (dVar 3) (dNil))))) (dSeqI (dOp dIx (dVar 0) (dC (.int 4))))) (dNil))))
def t__law_around_1 (K : Frag) (W : DXK) : DTS := dDrop (dBM "list" dAppend (dVar 3) (dCons (dTup (dCons (dOp dIx (dVar 2) (dC (.int 1))) (dCons (dSlice (dOp dIx (dVar 4) (dC (.int 1))) dNoP (dPart (dCB dMax (dCons (dC (.int 1)) (dCons (dOp dSub (dCB dLen (dCons (dOp dIx (dVar 4) (dC (.int 1))) (dNil))) (dC (.int 1))) (dNil)))))) (dNil)))) (dNil)))
def t__law_around_2 (K : Frag) (W : DXK) : DTS := dSeq (dDrop (dBM "list" dAppend (dVar 3) (dCons (dTup (dCons (dOp dIx (dVar 2) (dC (.int 1))) (dCons (dSlice (dOp dAdd (dSlice (dOp dIx (dVar 4) (dC (.int 1))) dNoP (dPart (dUn dNegR (dC (.int 1))))) (dC (.str "z"))) dNoP (dPart (dC (.int 8)))) (dNil)))) (dNil)))) (t__law_around_1 K W)
def t__law_around_3 (K : Frag) (W : DXK) : DTS := dSeq (dDrop (dBM "list" dAppend (dVar 3) (dCons (dTup (dCons (dOp dIx (dVar 2) (dC (.int 1))) (dCons (dSlice (dOp dAdd (dOp dIx (dVar 4) (dC (.int 1))) (dC (.str "a"))) dNoP (dPart (dC (.int 8)))) (dNil)))) (dNil)))) (t__law_around_2 K W)
def t__law_around_4 (K : Frag) (W : DXK) : DTS := dSeq (dDrop (dBM "list" dAppend (dVar 3) (dCons (dTup (dCons (dOp dIx (dVar 2) (dC (.int 1))) (dCons (dOp dIx (dVar 4) (dC (.int 1))) (dNil)))) (dNil)))) (t__law_around_3 K W)
def t__law_around_5 (K : Frag) (W : DXK) : DTS := dRet (dVar 3)
def t__law_around_6 (K : Frag) (W : DXK) : DTS := dSeq (dIfS (dB (dOp dIsNot (dOp dIx (dVar 2) (dC (.int 3))) (dC .non))) (dSet 3 (dOp dAddM (dVar 3) (dLst (dCons (dTup (dCons (dOp dIx (dVar 2) (dC (.int 1))) (dCons (dOp dIx (dVar 2) (dC (.int 3))) (dNil)))) (dCons (dTup (dCons (dOp dIx (dVar 2) (dC (.int 1))) (dCons (dSlice (dOp dAdd (dOp dIx (dVar 2) (dC (.int 3))) (dC (.str "a"))) dNoP (dPart (dC (.int 8)))) (dNil)))) (dNil)))))) (dNext)) (t__law_around_5 K W)
def t__law_around_7 (K : Frag) (W : DXK) : DTS := dSeq (dFor (dSeqI (dOp dAdd (dVar 1) (dLc (st1 5 (dYes) (dTup (dCons (dOp dIx (dVar 2) (dC (.int 1))) (dCons (dVar 5) (dNil))))) (dSeqI (dOp dIx (dVar 2) (dC (.int 4))))))) (dgN 4) (t__law_around_4 K W)) (t__law_around_6 K W)
def t__law_around (K : Frag) (W : DXK) : DTS := dSeq (dSet 3 (dOp dAddM (dCB dList (dCons (dVar 1) (dNil))) (dLst (dCons (dTup (dCons (dOp dIx (dVar 2) (dC (.int 1))) (dCons (dCall (sp__law_name K) (dW W) (dCons (dVar 0) (dNil))) (dNil)))) (dCons (dTup (dCons (dCall (sp__law_name K) (dW W) (dCons (dVar 0) (dNil))) (dCons (dOp dIx (dOp dIx (dVar 1) (dC (.int 0))) (dC (.int 1))) (dNil)))) (dCons (dTup (dCons (dOp dIx (dVar 2) (dC (.int 1))) (dCons (dC (.str "zzzzzzzz")) (dNil)))) (dNil))))))) (t__law_around_7 K W)
def t__law_strangers (K : Frag) (W : DXK) : DTS := dSeq (dAsg (dVar 0) (dgTup 2 (dgCons (dgN 1) (dgCons (dgN 2) (dgNil))))) (dRet (dLst (dCons (dVar 1) (dCons (dVar 2) (dCons (dLst (dCons (dVar 1) (dCons (dVar 2) (dNil)))) (dCons (dTup (dCons (dVar 1) (dNil))) (dCons (dTup (dCons (dVar 1) (dCons (dVar 2) (dCons (dVar 2) (dNil))))) (dCons (dTup (dCons (dVar 1) (dCons (dC (.str "")) (dNil)))) (dCons (dTup (dCons (dC (.str "")) (dCons (dVar 2) (dNil)))) (dCons (dC .non) (dCons (dC (.bl true)) (dCons (dC (.int 0)) (dCons (dTup (dCons (dVar 1) (dCons (dBM0 "str" dUpper (dVar 2)) (dNil)))) (dCons (dTup (dCons (dVar 1) (dCons (dLst (dCons (dVar 2) (dNil))) (dNil)))) (dCons (dTup (dCons (dOp dAdd (dVar 1) (dC (.str "abcdefgh"))) (dCons (dVar 2) (dNil)))) (dCons (dTup (dCons (dVar 2) (dCons (dC (.int 5)) (dNil)))) (dCons (dTup (dCons (dTup (dCons (dVar 1) (dCons (dVar 2) (dNil)))) (dCons (dVar 2) (dNil)))) (dNil))))))))))))))))))
def t__law_raises_1 (K : Frag) (W : DXK) : DTS := dRet (dOp dEqS (dVar 2) (dLst (dCons (dVar 1) (dNil))))
def t__law_raises (K : Frag) (W : DXK) : DTS := dSeq (dSet 2 (dLst (dCons (dC (.str "none")) (dNil)))) (dSeq (dTry K 3 (dW W) [(.ref (He.ga K "InvalidPlace"), ["value"], fun a C fs => dSet 2 (dLst (dCons (dXf a fs "value" (dVar 3)) (dNil))))] (fun W => dDrop (dMeth (m_says K) "says" W (dVar 0) (dCons (dVar 1) (dNil))))) (t__law_raises_1 K W))
def t_law_1 (K : Frag) (W : DXK) : DTS := dIfS (dOr (dB (dOp dNe (dVar 9) (dVar 8))) (dOr (dB (dOp dNe (dCB (dIsi K) (dCons (dVar 9) (dCons (dC (.ty "bool")) (dNil)))) (dOp dIsNot (dVar 8) (dC .non)))) (dB (dOp dNe (dOp (dInO (m___contains__ K)) (dVar 7) (dVar 6)) (dOp dIsNot (dVar 8) (dC .non)))))) (dRet (dC (.bl false))) (dNext)
def t_law_2 (K : Frag) (W : DXK) : DTS := dSeq (dSet 9 (dMeth (m_says K) "says" (dW W) (dVar 6) (dCons (dVar 7) (dNil)))) (t_law_1 K W)
def t_law_3 (K : Frag) (W : DXK) : DTS := dSeq (dSet 8 (dCall (sp__law_says K) (dW W) (dCons (dVar 5) (dCons (dVar 7) (dNil))))) (t_law_2 K W)
def t_law_4 (K : Frag) (W : DXK) : DTS := dIfS (dB (dOp dNe (dLc (st1 11 (dOr (dB (dOp (dInO (m___contains__ K)) (dVar 11) (dVar 6))) (dNot (dB (dCall (sp__law_raises K) W0 (dCons (dVar 6) (dCons (dVar 11) (dNil))))))) (dVar 11)) (dSeqI (dVar 10))) (dLst (dNil)))) (dRet (dC (.bl false))) (dNext)
def t_law_5 (K : Frag) (W : DXK) : DTS := dSeq (dSet 10 (dCall (sp__law_strangers K) (dW W) (dCons (dOp dIx (dVar 3) (dCall (sp__law_draw K) (dW W) (dCons (dVar 2) (dCons (dCB dLen (dCons (dVar 3) (dNil))) (dNil))))) (dNil)))) (t_law_4 K W)
def t_law_6 (K : Frag) (W : DXK) : DTS := dSeq (dIfS (dB (dOp dNe (dMeth (m_standing K) "standing" (dW W) (dVar 6) dNil) (dCall (sp__law_standing K) (dW W) (dCons (dVar 5) (dNil))))) (dRet (dC (.bl false))) (dNext)) (t_law_5 K W)
def t_law_7 (K : Frag) (W : DXK) : DTS := dSeq (dDrop (dBM "list" dAppend (dVar 9) (dCons (dOp dIx (dVar 3) (dC (.int 0))) (dNil)))) (t_law_6 K W)
def t_law_8 (K : Frag) (W : DXK) : DTS := dSeq (dIfS (dOr (dNot (dB (dCB (dIsi K) (dCons (dVar 9) (dCons (dC (.ty "list")) (dNil)))))) (dB (dOp dNe (dVar 9) (dCall (sp__law_standing K) (dW W) (dCons (dVar 5) (dNil)))))) (dRet (dC (.bl false))) (dNext)) (t_law_7 K W)
def t_law_9 (K : Frag) (W : DXK) : DTS := dSeq (dSet 9 (dMeth (m_standing K) "standing" (dW W) (dVar 6) dNil)) (t_law_8 K W)
def t_law_10 (K : Frag) (W : DXK) : DTS := dSeq (dFor (dSeqI (dCall (sp__law_around K) (dW W) (dCons (dVar 2) (dCons (dVar 3) (dCons (dVar 5) (dNil)))))) (dgN 7) (t_law_3 K W)) (t_law_9 K W)
def t_law_11 (K : Frag) (W : DXK) : DTS := dSeq (dSet 6 (dCall (sp__law_made K) (dW W) (dCons (dVar 5) (dNil)))) (t_law_10 K W)
def t_law_12 (K : Frag) (W : DXK) : DTS := dSeq (dSet 5 (dCall (sp__law_piece K) (dW W) (dCons (dVar 2) (dCons (dVar 3) (dCons (dVar 4) (dNil)))))) (t_law_11 K W)
def t_law_13 (K : Frag) (W : DXK) : DTS := dSeq (dSet 4 (dLc (st1 7 (dB (dOp (dCmp .Gt) (dCall (sp__law_draw K) W0 (dCons (dVar 2) (dCons (dC (.int 3)) (dNil)))) (dC (.int 0)))) (dVar 7)) (dSeqI (dVar 3)))) (t_law_12 K W)
def t_law_14 (K : Frag) (W : DXK) : DTS := dSeq (dSet 3 (dCall (sp__law_world K) (dW W) (dCons (dVar 2) (dNil)))) (t_law_13 K W)
def t_law_15 (K : Frag) (W : DXK) : DTS := dSeq (dSet 2 (dCall (sp__law_purse K) (dW W) (dCons (dVar 0) (dCons (dVar 1) (dNil))))) (t_law_14 K W)
def t_law_16 (K : Frag) (W : DXK) : DTS := dRet (dC (.bl true))
def t_law (K : Frag) (W : DXK) : DTS := dSeq (dFor (dRng1 (dCons (dC (.int 4)) (dNil))) (dgN 1) (t_law_15 K W)) (t_law_16 K W)
end K06
set_option Elab.async false
set_option linter.all false
set_option maxRecDepth 100000
set_option maxHeartbeats 4000000
namespace K06
open PySem PySem.Spec L2 DX DL DH DS PL LM
section
variable {K : Frag} {mg : Str → Option Value} {base : Heap} {ds : List D} {M : DM} {Q : DK} {W : DXK}
theorem pure_is_whole (hx : Fx K mg base) (h : sp_is_whole K ds M Q W) : t_is_whole K W (endsF Q) (startD ["value"] ds) M := by
  obtain ⟨d, rfl, hp, q⟩ := h
  simp [t_is_whole]
  refine isi_int hp ?_
  have q' := up.mk q
  cases d <;> simp [isInt, isBl, isWh] at q' ⊢ <;> first | exact q' | exact isi_bool rfl (by simpa [isBl] using q') | cases hp
theorem pure_is_name (hx : Fx K mg base) (h : sp_is_name K ds M Q W) : t_is_name K W (endsF Q) (startD ["value", "letter"] ds) M := by
  obtain ⟨d, rfl, ⟨h1, h2, _⟩, q⟩ := h
  have q' := up.mk q
  simp only [t_is_name, dSeq, dIfS, dOr, dNot, dB, dCB, dCons, dNil, dVar, dC, endsF, startD, List.map_cons, List.map_nil, List.length_cons, List.length_nil, List.cons_append, List.nil_append, List.getElem?_cons_zero, dRet, dOp, dNext]
  refine isi_strO h1 ?_
  cases d with
  | str z =>
    have sl : z.length ≤ sizeLine := small (by have := h2 z rfl; omega)
    have e0 : nmD (.str z) = (decide (1 ≤ z.length) && decide (z.length ≤ 8) && z.cps.toList.all fun c => decide (c ∈ alpha.cps.toList)) := rfl
    rw [e0] at q'
    simp [isStr, sl]
    by_cases l1 : 1 ≤ z.length
    · have l1' : (1 : Int) ≤ z.length := by omega
      simp only [l1, decide_true, Bool.true_and] at q'
      simp [l1']
      by_cases l2 : z.length ≤ 8
      · have l2' : (z.length : Int) ≤ 8 := by omega
        simp only [l2, decide_true, Bool.true_and] at q'
        simp [l2']
        refine lc_str fL (fun R h => by simpa using h) (fun x hx M K k => ?_) sl ?_
        · obtain ⟨c, hc, rfl⟩ := List.mem_map.mp hx
          rw [fL_one] at k
          by_cases hc2 : c ∈ alpha.cps.toList
          · have : c ∈ (Str.ofString "abcdefghijklmnopqrstuvwxyz").cps.toList := hc2
            rw [if_pos (by simpa using hc2)] at k
            simp [st1, this]; exact k
          · have : ¬ c ∈ (Str.ofString "abcdefghijklmnopqrstuvwxyz").cps.toList := hc2
            rw [if_neg (by simpa using hc2)] at k
            simp [st1, this]; exact k
        · simp only [res_lst]
          rw [fL_map]
          exact ⟨⟨fL_lay _, rfl⟩, q'⟩
      · have l2' : ¬ (z.length : Int) ≤ 8 := by omega
        simp only [l2, decide_false, Bool.false_and] at q'
        simp [l2']; exact q'
    · have l1' : ¬ (1 : Int) ≤ z.length := by omega
      simp only [l1, decide_false, Bool.false_and] at q'
      simp [l1']; exact q'
  | _ => simpa [isStr, nmD] using q'
theorem pure_check_name (hx : Fx K mg base) (h : sp_check_name K ds M Q W) : t_check_name K (upX W) (endsF Q) (startD ["value"] ds) M := by
  obtain ⟨d, rfl, hd, q1, q2⟩ := h
  simp [t_check_name]
  refine ⟨d, rfl, hd, ?_⟩
  cases e : nmD d
  · simp
    exact ⟨_, rfl, upX.mk (q2 e)⟩
  · simp
    exact up.mk (q1 e)
theorem pure_is_order (hx : Fx K mg base) (h : sp_is_order K ds M Q W) : t_is_order K W (endsF Q) (startD ["letters", "chains"] ds) M := by
  obtain ⟨l, c, rfl, hp, hc, hs, q⟩ := h
  have q' := up.mk q
  simp [t_is_order, -dNe_tt, -dEq_tt]
  refine isi_str hp ?_
  cases l <;> simp [isStr, -dNe_tt, -dEq_tt] <;> first | exact q' | cases hp | skip
  rename_i z
  have hz : z.length ≤ sizeLine := small (Nat.le_trans (of_decide_eq_true hs) (by decide))
  refine ⟨hz, fun ys hy hso => ⟨by rw [sizeLine_eq]; decide +kernel, ?_⟩⟩
  refine dNe_of (by simp [res, lay]) (order_str hy hso) ?_
  cases hz2 : permS z with
  | false => simpa [isOrd, hz2] using q'
  | true =>
    simp
    refine ⟨c, rfl, hc, ?_⟩
    cases c <;> simp [isWh] <;> first | simpa [isOrd, inR, hz2] using q' | cases hc | skip
    rename_i n
    by_cases h1 : 1 ≤ n <;> by_cases h2 : n ≤ 1000 <;> simpa [isOrd, inR, hz2, h1, h2] using q'
theorem pure_Form___init__ (hx : Fx K mg base) (h : sp_Form___init__ K ds M Q W) : t_Form___init__ K (upX W) (endsF Q) (startD ["self", "letters", "chains"] ds) M := by
  obtain ⟨p, l, c, rfl, hM, hp, hc, hs, q1, q2⟩ := h
  simp [t_Form___init__]
  refine ⟨l, c, rfl, hp, hc, hs, ?_⟩
  cases ho : isOrd l c with
  | true =>
    simp only [if_true, hM]
    exact ⟨hx.pf_Form_ranking, by simp, hx.pf_Form_many, by simp [putD], up.mk (q1 ho)⟩
  | false => exact ⟨small (by decide), _, rfl, upX.mk (q2 ho)⟩
section
variable {as : List D} {E : DXK} {q : Addr}
theorem mkl_Form2 (hx : Fx K mg base) (hm : mk_Form2 K as M Q E) (hq : M q = none) : sp_Form___init__ K (.ref q :: (as ++ [])) (put M q (.ins (cF K) [])) (fun v M2 => v = .non ∧ up Q (.ref q) M2) (upX E) := by
  obtain ⟨l, c, rfl, hl, hc, hs, q1, q2⟩ := hm
  refine ⟨q, l, c, rfl, put_same, hl, hc, hs, fun ho => ⟨rfl, ?_⟩, fun ho => ⟨M, fun a m h => by rw [put_ne' h hq], q2 ho⟩⟩
  rw [put_put]
  exact ⟨_, _, FrzTo.insP hq, q1 ho⟩
end
theorem pure__law_purse (hx : Fx K mg base) (h : sp__law_purse K ds M Q W) : t__law_purse K W (endsF Q) (startD ["_law_script", "_law_at", "_law_cell"] ds) M := by
  obtain ⟨ns, i, rfl, hl, hi, q⟩ := h
  have e : ∀ lo hi Q, dSl (.scr (ns.map D.int)) lo hi M Q = Q (.lst ((cut ns lo hi).map D.int)) M := fun lo hi Q => by
    unfold dSl asR res cut
    simp
  simp [t__law_purse, e]
  have ei : ∀ l : List Int, intsD (l.map D.int) = some l := fun l => by
    induction l with
    | nil => rfl
    | cons x l ih => simp [intsD, ih]
  have es : ∀ (l : List Int) Q, dSum [.lst (l.map D.int)] M Q = Q (.int l.sum) M := fun l Q => by
    show (match intsD (l.map D.int) with | some ns => Q (.int ns.sum) M | none => False) = _
    rw [ei]
  refine ⟨⟨by decide, by decide +kernel⟩, ⟨by decide, by decide +kernel⟩, ⟨by decide, by decide +kernel⟩, .inl ?_, .inl (by decide), small (by decide), fun p hp => up.mk (q p _ _ _ hp ?_)⟩
  · split <;> decide
  · refine Int.mul_nonneg (by split <;> decide) (Int.emod_nonneg _ (by decide))
theorem pure__law_draw (hx : Fx K mg base) (h : sp__law_draw K ds M Q W) : t__law_draw K W (endsF Q) (startD ["_law_purse_here", "_law_many", "_law_drawn", "_law_number"] ds) M := by
  obtain ⟨p, a, b, c, n, rfl, hM, ha, h1, h2, q⟩ := h
  have hM' : M p = some (.lst [.int a, .int b, .int c]) := hM
  simp [t__law_draw, dIx_ref hM', hM', atI, ixN]
  have sm : ∀ i m : Int, 0 < m → m < 2 ^ 64 → CMul (i % m) (i % m) := fun i m h1 h2 => .inl ⟨by have := Int.emod_nonneg i (by omega : m ≠ 0); omega, by have := Int.emod_lt_of_pos i h1; omega⟩
  split
  · exact ⟨by omega, ⟨by omega, by omega⟩, up.mk (q _ _ _ _ (Int.emod_nonneg _ (by omega)) (Int.emod_lt_of_pos _ (by omega)) (Int.ediv_nonneg ha (by omega)))⟩
  · exact ⟨.inr (by decide), .inr (by decide), sm _ _ (by decide) (by decide), sm _ _ (by decide) (by decide), by constructor <;> decide, by omega, up.mk (q _ _ _ _ (Int.emod_nonneg _ (by omega)) (Int.emod_lt_of_pos _ (by omega)) ha)⟩
/-! ### drawing -/
theorem drawn.put {q : Addr} {R : DM → Prop} {m : MO} (h : drawn M q R) : drawn (put M q m) q R := fun a b c ha => by rw [put_put]; exact h a b c ha
theorem name_loop {q : Addr} {E : DEnds} {keep : DM → Prop} (hk : ∀ M, keep M) (hn : ∀ z o, 1 ≤ z.length → z.length ≤ 8 → (∀ c ∈ cl z, isLet c) → drawn M q fun M' => E.nx [some (.ref q), some (.str z), o] M') : ∀ (n k : Nat) (a b c : Int) (z : Str) (o : Option D), 0 ≤ a → z.length + n ≤ 8 → 1 ≤ z.length + n → (∀ c ∈ cl z, isLet c) →
    forR (dgN 2) (t__law_name_1 K W) keep E (rng k n) [some (.ref q), some (.str z), o] (put M q (purse a b c))
  | 0, k, a, b, c, z, o, ha, h8, h1, hz => ⟨hk _, hn z o h1 h8 hz a b c ha⟩
  | n + 1, k, a, b, c, z, o, ha, h8, h1, hz => by
    rw [rng_succ]
    refine ⟨hk _, ?_⟩
    simp [t__law_name_1]
    refine ⟨q, a, b, c, 26, rfl, put_same, ha, by decide, by decide, fun r a1 b1 c1 h0 h1 ha1 => ?_⟩
    obtain ⟨x, hx, e⟩ := letter h0 h1
    have e' : atI (Str.ofString "abcdefghijklmnopqrstuvwxyz").cps.toList r = some x := e
    have al : (Str.ofString "abcdefghijklmnopqrstuvwxyz").length = 26 := alpha_len
    simp [e']
    refine ⟨small (by omega), small (by rw [len_one]; omega), ?_⟩
    refine name_loop hk hn n (k + 1) a1 b1 c1 _ _ ha1 (by rw [len_app, len_one]; omega) (by rw [len_app, len_one]; omega) ?_
    rw [cl_app]
    intro y hy
    rcases List.mem_append.mp hy with h | h
    · exact hz y h
    · have : y = x := by simpa [cl] using h
      rw [this]; exact hx
theorem pure__law_name (hx : Fx K mg base) (h : sp__law_name K ds M Q W) : t__law_name K W (endsF Q) (startD ["_law_purse_here", "_law_name_here", "_law_turn"] ds) M := by
  obtain ⟨p, a, b, c, rfl, hM, ha, q⟩ := h
  simp [t__law_name, dRng1]
  refine ⟨p, a, b, c, 8, rfl, hM, ha, by decide, by decide, fun r a1 b1 c1 h0 h1 ha1 => ?_⟩
  simp
  obtain ⟨n, rfl⟩ := Int.eq_ofNat_of_zero_le h0
  have e : (1 + (n : Int)).toNat = n + 1 := by omega
  rw [e]
  refine ⟨by omega, by omega, ?_⟩
  refine name_loop (M := M) (fun _ => trivial) (fun z o h1 h8 hz a b c ha => ?_) (n + 1) 0 a1 b1 c1 "" _ ha1 (by show 0 + (n + 1) ≤ 8; omega) (by omega) (by rw [show cl ("" : Str) = [] from cl_nil]; intro c hc; cases hc)
  simpa [t__law_name_2] using up.mk (q z (nm_iff.mpr ⟨h1, h8, hz⟩) a b c ha)
/-- a purse at q, a list at p -/
abbrev two (M : DM) (q p : Addr) (a b c : Int) (xs : List D) : DM := put (put M q (purse a b c)) p (.lst xs)
theorem two_draw {q p : Addr} {a b c a' b' c' : Int} {xs : List D} (h : p ≠ q) : put (two M q p a b c xs) q (purse a' b' c') = two M q p a' b' c' xs := by
  rw [two, put_comm h, put_put]
theorem two_q {q p : Addr} {a b c : Int} {xs : List D} (h : p ≠ q) : two M q p a b c xs q = some (purse a b c) := by rw [two, put_ne h.symm, put_same]
theorem two_app {q p : Addr} {a b c : Int} {xs ys : List D} : put (two M q p a b c xs) p (.lst ys) = two M q p a b c ys := put_put
/-- what a call of _law_draw leaves -/
theorem draw_two {E : DXK} {q p : Addr} {a b c n : Int} {xs : List D} (h : p ≠ q) (ha : 0 ≤ a) (h1 : 1 ≤ n) (h2 : n ≤ 1000) (q' : ∀ r a' b' c', 0 ≤ r → r < n → 0 ≤ a' → Q (.int r) (two M q p a' b' c' xs)) : sp__law_draw K [.ref q, .int n] (two M q p a b c xs) Q E :=
  ⟨q, a, b, c, n, rfl, two_q h, ha, h1, h2, fun r a' b' c' h0 h1 ha' => by rw [two_draw h]; exact q' r a' b' c' h0 h1 ha'⟩
theorem names_loop {q p : Addr} {m : Option D} {N : Nat} {E : DEnds} {keep : DM → Prop} (hp : p ≠ q) (hk : ∀ M, keep M)
    (hn : ∀ xs a b c o o', Nms xs N → 0 ≤ a → E.nx [some (.ref q), m, some (.ref p), o, o'] (two M q p a b c (xs.map D.str))) : ∀ (n k : Nat) (a b c : Int) (xs : List Str) (o o' : Option D), 0 ≤ a → xs.length + n ≤ N → N ≤ 20 → 1 ≤ xs.length + n → xs.Nodup → (∀ x ∈ xs, nm x = true) →
    forR (dgN 3) (t__law_names_2 K W) keep E (rng k n) [some (.ref q), m, some (.ref p), o, o'] (two M q p a b c (xs.map D.str))
  | 0, k, a, b, c, xs, o, o', ha, hl, hN, h1, nd, hm => ⟨hk _, hn xs a b c o o' ⟨nd, hm, by omega, h1⟩ ha⟩
  | n + 1, k, a, b, c, xs, o, o', ha, hl, hN, h1, nd, hm => by
    rw [rng_succ]
    refine ⟨hk _, ?_⟩
    have go : ∀ (z : Str) (a b c : Int) (o : Option D), nm z = true → 0 ≤ a → t__law_names_1 K W { E with nx := forR (dgN 3) (t__law_names_2 K W) keep E (rng (k + 1) n), ct := forR (dgN 3) (t__law_names_2 K W) keep E (rng (k + 1) n), bk := E.nx } [some (.ref q), m, some (.ref p), o, some (.str z)] (two M q p a b c (xs.map D.str)) := fun z a b c o hz ha => by
      have e : ∀ R, dNotIn (.str z) (.ref p) (two M q p a b c (xs.map D.str)) R = R (.bl (!decide (z ∈ xs))) (two M q p a b c (xs.map D.str)) := fun R => by
        rw [dNotIn_ref put_same, res_str, inD_str]
        simp
      have e2 : ∀ (y : D) (R : DK), dAppend (.ref p) [y] (two M q p a b c (xs.map D.str)) R = (xs.length < sizeLine ∧ R .non (two M q p a b c (xs.map D.str ++ [y]))) := fun y R => by
        rw [dAppend_ref put_same, two_app, List.length_map]
      simp [t__law_names_1, e]
      by_cases hz2 : z ∈ xs
      · simp only [hz2, if_true]
        have : xs ≠ [] := List.ne_nil_of_mem hz2
        have := List.length_pos_iff.mpr this
        exact names_loop hp hk hn n (k + 1) a b c xs _ _ ha (by omega) hN (by omega) nd hm
      · simp only [hz2, if_false]
        refine ⟨⟨rfl, _, put_same⟩, ?_⟩
        rw [e2]
        refine ⟨Nat.lt_of_lt_of_le (by omega : xs.length < 20) (small (by decide)), ?_⟩
        have := names_loop hp hk hn n (k + 1) a b c (xs ++ [z]) o (some (.str z)) ha (by simp; omega) hN (by simp; omega) (List.nodup_append.mpr ⟨nd, by simp, fun x hx y hy => by rw [List.mem_singleton.mp hy]; exact fun e => hz2 (e ▸ hx)⟩) (fun x hx => by
          rcases List.mem_append.mp hx with h | h
          · exact hm x h
          · rw [List.mem_singleton.mp h]; exact hz)
        rw [List.map_append] at this
        exact this
    have e3 : ∀ (a b c : Int), res (two M q p a b c (xs.map D.str)) (.ref p) = .lst (xs.map D.str) := fun a b c => res_ref put_same
    have e4 : eqD (.lst (xs.map D.str)) (.lst []) = decide (xs = []) := by cases xs <;> simp [eqD, eqL]
    have e5 : lay 60 (.lst (xs.map D.str)) = true ∧ lay 60 (.lst []) = true := ⟨by simp [lay], by simp [lay]⟩
    simp only [t__law_names_2, dSeq, dSet, dCall, dCons, dNil, dVar, dgN, List.set_cons_zero, List.set_cons_succ, List.getElem?_cons_zero, List.getElem?_cons_succ, dIfS, dAnd, dB, dOp, dLst]
    refine ⟨q, a, b, c, rfl, two_q hp, ha, fun z hz a1 b1 c1 ha1 => ?_⟩
    rw [two_draw hp]
    simp only [dNe_tt, e3, e4, res_lst]
    simp [e5]
    by_cases hx : xs = []
    · simp only [hx, if_true]
      rw [hx] at go
      exact go z a1 b1 c1 _ hz ha1
    · simp only [hx, if_false]
      refine draw_two hp ha1 (by decide) (by decide) fun r a2 b2 c2 h0 h1 ha2 => ?_
      simp [eqD]
      by_cases hr : r = 0
      · simp only [hr, if_true]
        have hne : xs.map D.str ≠ [] := by simpa using hx
        rw [at_m1 hne, List.getLast_map]
        have hl := hm _ (List.getLast_mem hx)
        obtain ⟨x1, x2, x3⟩ := nm_iff.mp hl
        obtain ⟨z1, z2, z3⟩ := nm_iff.mp hz
        simp
        refine ⟨small (by omega), draw_two hp ha2 (by decide) (by decide) fun r a3 b3 c3 h0 h1 ha3 => ?_⟩
        simp
        exact ⟨small (by rw [len_app]; omega), go _ a3 b3 c3 _ (nm_cut hl hz h0 h1) ha3⟩
      · simp only [hr, if_false]
        exact go z a2 b2 c2 _ hz ha2
theorem pure__law_names (hx : Fx K mg base) (h : sp__law_names K ds M Q W) : t__law_names K W (endsF Q) (startD ["_law_purse_here", "_law_many", "_law_names_here", "_law_turn", "_law_name_here"] ds) M := by
  obtain ⟨q, a, b, c, n, rfl, hM, ha, h1, h2, k⟩ := h
  obtain ⟨n, rfl⟩ := Int.eq_ofNat_of_zero_le (by omega : 0 ≤ n)
  simp [t__law_names, dRng1]
  refine fun p hp => ⟨by omega, ?_⟩
  have hne : p ≠ q := fun e => by rw [e, hM] at hp; cases hp
  have := names_loop (K := K) (W := W) (M := M) (q := q) (m := some (.int n)) (N := n) (E := { nx := t__law_names_3 K W (endsF Q), rt := up Q }) (keep := fun _ => True) hne (fun _ => trivial) (fun xs a b c o o' hx ha => ?_) n 0 a b c [] none none ha (by simp) (by omega) (by simp; omega) List.nodup_nil (by simp)
  · rw [two, put_id hM] at this
    exact this
  · simp [t__law_names_3]
    exact ⟨_, _, FrzTo.new (by rw [put_ne hne]; exact hp), k xs hx a b c ha⟩
theorem pure_form2 {p : Addr} {a b c : Int} {z : Str} {o3 o4 o5 o6 : Option D} {d : D} (hM : M p = some (purse a b c)) (ha : 0 ≤ a) (hz : permS z = true)
    (q : ∀ (z : Str) (n a' b' c' : Int), permS z = true → 1 ≤ n → n ≤ 1000 → 0 ≤ a' → Q (.tup [.str z, .int n]) (put M p (purse a' b' c'))) {nx : DSt → DM → Prop} :
    t__law_form_2 K W { nx := nx, rt := up Q } [some (.ref p), some (.str z), some d, o3, o4, o5, o6] M := by
  simp [t__law_form_2]
  refine ⟨small (by decide), p, a, b, c, 4, rfl, hM, ha, by decide, by decide, fun r a1 b1 c1 h0 h1 ha1 => ?_⟩
  have key : ∀ m : Int, 1 ≤ m → m ≤ 1000 → sp__law_draw K [D.ref p, D.int m] (put M p (purse a1 b1 c1)) (fun y M2 => dAdd (D.int 1) y M2 fun x M1 => 2 ≤ sizeLine ∧ up Q (D.tup [D.str z, x]) M1) (DL.wE (dW W) [some (D.ref p), some (D.str z), some d, o3, o4, o5, some (D.int m)]) := fun m h1 h2 => by
    refine ⟨p, a1, b1, c1, m, rfl, put_same, ha1, h1, h2, fun r a2 b2 c2 h3 h4 ha2 => ?_⟩
    simp
    exact ⟨small (by decide), up.mk (q z _ _ _ _ hz (by omega) (by omega) ha2)⟩
  have hr : r = 0 ∨ r = 1 ∨ r = 2 ∨ r = 3 := by omega
  rcases hr with rfl | rfl | rfl | rfl
  · exact key 1 (by decide) (by decide)
  · exact key 1 (by decide) (by decide)
  · exact key 4 (by decide) (by decide)
  · exact key 1000 (by decide) (by decide)
abbrev QF (Q : DK) (M : DM) (p : Addr) : Prop := ∀ (z : Str) (n a' b' c' : Int), permS z = true → 1 ≤ n → n ≤ 1000 → 0 ≤ a' → Q (.tup [.str z, .int n]) (put M p (purse a' b' c'))
theorem QF.put (h : QF Q M p) {m : MO} : QF Q (put M p m) p := fun z n a b c h1 h2 h3 h4 => by rw [put_put]; exact h z n a b c h1 h2 h3 h4
theorem form_turns {p : Addr} {d : D} {nx : DSt → DM → Prop} (q : QF Q M p) : ∀ (n k : Nat) (a b c : Int) (z : Str) (o3 o4 o5 o6 : Option D), k + n = 25 → 0 ≤ a → permS z = true →
    forR (dgN 4) (t__law_form_1 K W) (fun _ => True) { nx := t__law_form_2 K W { nx := nx, rt := up Q }, rt := up Q } (rng k n) [some (.ref p), some (.str z), some d, o3, o4, o5, o6] (put M p (purse a b c))
  | 0, k, a, b, c, z, o3, o4, o5, o6, hk, ha, hz => ⟨trivial, pure_form2 put_same ha hz q.put⟩
  | n + 1, k, a, b, c, z, o3, o4, o5, o6, hk, ha, hz => by
    rw [rng_succ]
    refine ⟨trivial, ?_⟩
    simp [t__law_form_1]
    refine ⟨p, a, b, c, 26 - k, rfl, put_same, ha, by omega, by omega, fun r a1 b1 c1 h0 h1 ha1 => ?_⟩
    simp
    have hl := perm_len hz
    have hz2 := short_len hz
    obtain ⟨j, hj⟩ : ∃ j : Nat, (k : Int) + r = (j : Int) := ⟨((k : Int) + r).toNat, by omega⟩
    rw [hj]
    have hj1 : k ≤ j := by omega
    have hj2 : j < (cl z).length := by omega
    have e1 : cl (cutS z (some (k : Int)) (some (j : Int))) = ((cl z).drop k).take (j - k) := by rw [cut_mid (by omega) (by omega) (by omega)]; simp
    have e2 : cl (cutS z (some ((j : Int) + 1)) none) = (cl z).drop (j + 1) := by rw [cut_from (by omega) (by omega)]; congr 1
    have e3 : cl (cutS z none (some (k : Int))) = (cl z).take k := by rw [cut_to (by omega) (by omega)]; simp
    have e4 : atI z.cps.toList (j : Int) = some (cl z)[j] := by rw [atI_lt (by omega) (by show (j : Int) < ((cl z).length : Nat); omega)]; simp
    rw [e4]
    have sz : ∀ n : Nat, n ≤ 1000 → n ≤ sizeLine := fun n h => small (by omega)
    have l1 : (cutS z (some (k : Int)) (some (j : Int))).length ≤ 26 := by rw [len_cl, e1, List.length_take]; simp; omega
    have l2 : (cutS z (some ((j : Int) + 1)) none).length ≤ 26 := by rw [len_cl, e2, List.length_drop]; omega
    have l3 : (cutS z none (some (k : Int))).length ≤ 26 := by rw [len_cl, e3, List.length_take]; omega
    have la : ∀ x y : Str, (x ++ y).length = x.length + y.length := fun x y => by rw [len_cl, cl_app, List.length_append, ← len_cl, ← len_cl]
    have lo : ∀ c : Nat, ({ cps := #[c] } : Str).length = 1 := fun c => rfl
    refine ⟨hz2, sz _ (by omega), hz2, sz _ (by rw [lo]; omega), sz _ (by rw [la, la, lo]; omega), ?_⟩
    refine form_turns q n (k + 1) a1 b1 c1 _ _ _ _ _ (by omega) ha1 ?_
    rw [permS_iff]
    refine List.Perm.trans ?_ (permS_iff.mp hz)
    rw [cl_app, cl_app, cl_app, e1, e2, e3]
    exact move_perm (cl z) hj1 hj2
theorem pure_form3 {p : Addr} {a b c : Int} {z : Str} {o3 o4 o5 o6 : Option D} {w : Int} {nx : DSt → DM → Prop} (hM : M p = some (purse a b c)) (ha : 0 ≤ a) (hz : permS z = true) (q : QF Q M p) :
    t__law_form_3 K W { nx := nx, rt := up Q } [some (.ref p), some (.str z), some (.int w), o3, o4, o5, o6] M := by
  simp [t__law_form_3, dRng1, -dEq_tt]
  split
  · have h := form_turns (K := K) (W := W) (d := .int w) (nx := nx) q 25 0 a b c z o3 o4 o5 o6 rfl ha hz
    have e : put M p (purse a b c) = M := by
      funext x
      by_cases hx : x = p
      · rw [hx, put_same, hM]
      · rw [put_ne hx]
    rw [e] at h
    exact h
  · exact pure_form2 hM ha hz q
theorem pure_form4 {p : Addr} {a b c : Int} {z : Str} {o3 o4 o5 o6 : Option D} {w : Int} {nx : DSt → DM → Prop} (hM : M p = some (purse a b c)) (ha : 0 ≤ a) (hz : permS z = true) (q : QF Q M p) :
    t__law_form_4 K W { nx := nx, rt := up Q } [some (.ref p), some (.str z), some (.int w), o3, o4, o5, o6] M := by
  simp [t__law_form_4, -dEq_tt]
  split
  · refine ⟨p, a, b, c, 26, rfl, hM, ha, by decide, by decide, fun r a1 b1 c1 h0 h1 ha1 => ?_⟩
    have hl := perm_len hz
    have hz2 := short_len hz
    have e1 : cl (cutS z (some r) none) = (cl z).drop r.toNat := cut_from h0 (by omega)
    have e2 : cl (cutS z none (some r)) = (cl z).take r.toNat := cut_to h0 (by omega)
    simp
    refine ⟨hz2, small ?_, pure_form3 put_same ha1 ?_ q.put⟩
    · rw [len_cl, len_cl, e1, e2, List.length_drop, List.length_take]; omega
    · rw [permS_iff, cl_app, e1, e2]
      refine List.Perm.trans List.perm_append_comm ?_
      rw [List.take_append_drop]
      exact permS_iff.mp hz
  · exact pure_form3 hM ha hz q
theorem pure__law_form (hx : Fx K mg base) (h : sp__law_form K ds M Q W) : t__law_form K W (endsF Q) (startD ["_law_purse_here", "_law_letters", "_law_way", "_law_at", "_law_turn", "_law_rest", "_law_many"] ds) M := by
  obtain ⟨p, a, b, c, rfl, hM, ha, q⟩ := h
  simp [t__law_form, -dEq_tt]
  refine ⟨p, a, b, c, 5, rfl, hM, ha, by decide, by decide, fun r a1 b1 c1 h0 h1 ha1 => ?_⟩
  have q' : QF Q (put M p (purse a1 b1 c1)) p := QF.put q
  simp [-dEq_tt]
  split
  · exact ⟨short_len alpha_perm, pure_form4 put_same ha1 (by decide +kernel) q'⟩
  · exact pure_form4 put_same ha1 alpha_perm q'
end
end K06
set_option Elab.async false
set_option linter.all false
set_option maxRecDepth 100000
set_option maxHeartbeats 4000000
namespace K06
open PySem PySem.Spec L2 DX DL DH DS PL LM
section
variable {K : Frag} {mg : Str → Option Value} {base : Heap} {ds : List D} {M : DM} {Q : DK} {W : DXK}
/-- the rank of a text of one letter -/
def rkO (z : Str) : D → Option D
  | .str s => (match s.cps.toList with | [c] => some (.int (rk z c)) | _ => none)
  | _ => none
theorem rkO_map (z n : Str) : ((cl n).map one).filterMap (rkO z) = rkD z n := by
  unfold rkD rks
  rw [List.filterMap_map, List.map_map]
  induction cl n with
  | nil => rfl
  | cons c l ih =>
    rw [List.filterMap_cons, ih]
    rfl
theorem nm_len {n : Str} (h : nm n = true) : n.length ≤ sizeLine := small (by have := (nm_iff.mp h).2.1; omega)
theorem rank_step {z n : Str} {δ : DSt} {j : Nat} {te : DTE} (hz : permS z = true) (hn : nm n = true) (he : ∀ x ∈ (cl n).map one, ∀ M, Ev te (δ.set j (some x)) M (.str z)) (hj : j < δ.length) : ∀ x ∈ (cl n).map one, ∀ M (K : Option D → DM → Prop), K (rkO z x) M → st1 j dYes (dBM "str" dIndexS te (dCons (dVar j) dNil)) x δ M K := fun x hx M K k => by
  obtain ⟨c, hc, e⟩ := List.mem_map.mp hx
  have he' := he x hx
  subst e
  simp only [st1, dYes, dBM, dCons, dNil, dVar]
  simp [hj]
  refine he' M _ ⟨rfl, dIndexS_one (nm_in hz hn hc) ?_⟩
  exact k
theorem pure_key_in (hx : Fx K mg base) (h : sp_key_in K ds M Q W) : t_key_in K W (endsF Q) (startD ["letters", "chains", "name", "ranks", "letter"] ds) M := by
  obtain ⟨z, m, n, rfl, hf, hn, q⟩ := h
  have q' := up.mk q
  simp only [t_key_in, dSeq, dSet, dCB, dCons, dNil, startD, List.map_cons, List.map_nil, List.length_cons, List.length_nil, List.cons_append, List.nil_append, List.replicate]
  refine lc_str (rkO z) (fun R h => h) (rank_step hf.p hn (fun x _ M => ev_var rfl) (by simp)) (nm_len hn) ?_
  rw [show n.cps.toList = cl n from rfl, rkO_map]
  simp [rkD]
  have := hf.l
  exact ⟨by omega, small (by decide), q'⟩
theorem pure__law_key (hx : Fx K mg base) (h : sp__law_key K ds M Q W) : t__law_key K W (endsF Q) (startD ["_law_form_here", "_law_name_here", "_law_ranks", "_law_letter"] ds) M := by
  obtain ⟨z, m, n, rfl, hf, hn, q⟩ := h
  have q' := up.mk q
  simp only [t__law_key, dSeq, dSet, dCB, dCons, dNil, startD, List.map_cons, List.map_nil, List.length_cons, List.length_nil, List.cons_append, List.nil_append, List.replicate]
  refine lc_str (rkO z) (fun R h => h) (rank_step hf.p hn (fun x _ M => ev_ix0 (ev_var rfl)) (by simp)) (nm_len hn) ?_
  rw [show n.cps.toList = cl n from rfl, rkO_map]
  simp [rkD]
  have := hf.l
  exact ⟨by omega, small (by decide), q'⟩
theorem insD_fm {z : Str} {m : Int} : insD M (fm K z m) = some (cF K, [(Str.ofString "ranking", D.str z), (Str.ofString "many", D.int m)]) := rfl
theorem ev_rank (hx : Fx K mg base) {z : Str} {m : Int} {δ : DSt} {te : DTE} (h : Ev te δ M (fm K z m)) : Ev (dFld K "ranking" te) δ M (.str z) := fun R q => by
  simp only [dFld]
  refine h _ ?_
  simp only [insD_fm]
  exact ⟨hx.pf_Form_ranking, q⟩
theorem ev_many (hx : Fx K mg base) {z : Str} {m : Int} {δ : DSt} {te : DTE} (h : Ev te δ M (fm K z m)) : Ev (dFld K "many" te) δ M (.int m) := fun R q => by
  simp only [dFld]
  refine h _ ?_
  simp only [insD_fm]
  exact ⟨hx.pf_Form_many, q⟩
theorem nmD_str {d : D} (h : nmD d = true) : ∃ n, d = .str n ∧ nm n = true := by
  cases d with
  | str n => exact ⟨n, rfl, h⟩
  | _ => cases h
theorem pure_Form___call__ (hx : Fx K mg base) (h : sp_Form___call__ K ds M Q W) : t_Form___call__ K (upX W) (endsF Q) (startD ["self", "name"] ds) M := by
  obtain ⟨z, m, d, rfl, hf, ho, q1, q2⟩ := h
  simp only [t_Form___call__, dSeq, dDrop, startD, List.map_cons, List.map_nil, List.length_cons, List.length_nil, List.cons_append, List.nil_append, List.replicate]
  refine ev_call (ev_cons (ev_var rfl) ev_nil) ⟨d, rfl, ho, fun hn => ?_, fun hn => upX.mk (q2 hn)⟩
  obtain ⟨n, rfl, hn'⟩ := nmD_str hn
  refine ev_call (ev_cons (ev_rank hx (ev_var rfl)) (ev_cons (ev_many hx (ev_var rfl)) (ev_cons (ev_var rfl) ev_nil))) ⟨z, m, n, rfl, hf, hn', up.mk (q1 hn)⟩
end
end K06
set_option Elab.async false
set_option linter.all false
set_option maxRecDepth 100000
set_option maxHeartbeats 4000000
namespace K06
open PySem PySem.Spec L2 DX DL DH DS PL LM
section
variable {K : Frag} {mg : Str → Option Value} {base : Heap} {ds : List D} {M : DM} {Q : DK} {W : DXK}
theorem pure_is_place (hx : Fx K mg base) (h : sp_is_place K ds M Q W) : t_is_place K W (endsF Q) (startD ["value"] ds) M := by
  obtain ⟨d, rfl, ⟨h1, h2, h3⟩, q⟩ := h
  have q' := up.mk q
  simp only [t_is_place, dRet, dAndV, dCB, dCons, dNil, dVar, dC, endsF, startD, List.map_cons, List.map_nil, List.length_cons, List.length_nil, List.cons_append, List.nil_append, List.getElem?_cons_zero]
  refine isi_tupleO h1 ?_
  cases d with
  | tup xs =>
    obtain ⟨hl, hxs⟩ := h3 xs rfl
    match xs with
    | [a, b] =>
      simp [isTup]
      refine ⟨a, rfl, hxs a (by simp), ?_⟩
      have e : isPl (.tup [a, b]) = (nmD a && nmD b) := by
        cases a <;> cases b <;> simp [isPl, nmD]
      rw [e] at q'
      cases ea : nmD a <;> rw [ea] at q'
      · simpa using q'
      · simp
        exact ⟨b, rfl, hxs b (by simp), by simpa using q'⟩
    | [] =>
      simp [isTup]
      exact itF (by simp [eqD]) (by simpa [isPl] using q')
    | [a] =>
      simp [isTup]
      exact itF (by simp [eqD]) (by simpa [isPl] using q')
    | a :: b :: c :: r =>
      simp [isTup]
      exact itF (by simp [eqD]; omega) (by simpa [isPl] using q')
  | _ => simpa [isTup, isPl] using q'
theorem pure_check_place (hx : Fx K mg base) (h : sp_check_place K ds M Q W) : t_check_place K (upX W) (endsF Q) (startD ["value"] ds) M := by
  obtain ⟨d, rfl, hd, q1, q2⟩ := h
  simp [t_check_place]
  refine ⟨d, rfl, hd, ?_⟩
  cases e : isPl d
  · simp
    exact ⟨_, rfl, upX.mk (q2 e)⟩
  · simp
    exact up.mk (q1 e)
def pls (f : Str) (ns : List Str) : List D := ns.map fun n => .tup [.str f, .str n]
def prod (fs ns : List Str) : List D := fs.flatMap fun f => pls f ns
theorem world_in {p : Addr} {o0 o1 o2 : Option D} {f : Str} {E : DEnds} {keep : DM → Prop} (hk : ∀ M, keep M) : ∀ (ns : List Str) (acc : List D) (o : Option D), acc.length + ns.length ≤ 100 → (∀ o, E.nx [o0, o1, o2, some (.ref p), some (.str f), o] (put M p (.lst (acc ++ pls f ns)))) →
    forR (dgN 5) (t__law_world_1 K W) keep E (ns.map D.str) [o0, o1, o2, some (.ref p), some (.str f), o] (put M p (.lst acc))
  | [], acc, o, _, hn => ⟨hk _, by simpa [pls] using hn o⟩
  | n :: ns, acc, o, hl, hn => by
    have hl' : acc.length + (ns.length + 1) ≤ 100 := hl
    refine ⟨hk _, ?_⟩
    simp [t__law_world_1]
    refine ⟨⟨rfl, _, put_same⟩, small (by decide), ?_⟩
    rw [dAppend_ref put_same, put_put]
    refine ⟨Nat.lt_of_lt_of_le (by omega : acc.length < 100) (small (by decide)), ?_⟩
    exact world_in hk ns _ _ (by simp; omega) fun o => by simpa [pls] using hn o
theorem world_out {p : Addr} {o0 o1 : Option D} {ns : List Str} {E : DEnds} {keep : DM → Prop} (hk : ∀ M, keep M) (hN : ns.length ≤ 6) : ∀ (fs : List Str) (acc : List D) (o o' : Option D), acc.length + fs.length * 6 ≤ 100 → (∀ o o', E.nx [o0, o1, some (.lst (ns.map D.str)), some (.ref p), o, o'] (put M p (.lst (acc ++ prod fs ns)))) →
    forR (dgN 4) (t__law_world_2 K W) keep E (fs.map D.str) [o0, o1, some (.lst (ns.map D.str)), some (.ref p), o, o'] (put M p (.lst acc))
  | [], acc, o, o', _, hn => ⟨hk _, by simpa [prod] using hn o o'⟩
  | f :: fs, acc, o, o', hl, hn => by
    have hl' : acc.length + (fs.length + 1) * 6 ≤ 100 := hl
    refine ⟨hk _, ?_⟩
    simp [t__law_world_2, dSeqI]
    refine world_in (fun _ => trivial) ns acc _ (by omega) fun o => ?_
    refine world_out hk hN fs _ _ _ (by simp [pls]; omega) fun o o' => ?_
    simpa [prod] using hn o o'
theorem prod_pl {fs ns : List Str} (hf : ∀ x ∈ fs, nm x = true) (hn : ∀ x ∈ ns, nm x = true) : allPl (prod fs ns) := by
  intro x hx
  obtain ⟨f, h1, h2⟩ := List.mem_flatMap.mp hx
  obtain ⟨n, h3, rfl⟩ := List.mem_map.mp h2
  simp [isPl, hf f h1, hn n h3]
theorem prod_nd : ∀ {fs ns : List Str}, fs.Nodup → ns.Nodup → (prod fs ns).Nodup
  | [], ns, _, _ => List.nodup_nil
  | f :: fs, ns, h, hn => by
    obtain ⟨h1, h2⟩ := List.nodup_cons.mp h
    show (pls f ns ++ prod fs ns).Nodup
    refine List.nodup_append.mpr ⟨?_, prod_nd h2 hn, fun x hx y hy => ?_⟩
    · unfold pls
      exact List.pairwise_map.mpr (hn.imp fun h e => h (by simpa using e))
    · obtain ⟨n, _, rfl⟩ := List.mem_map.mp hx
      obtain ⟨g, h3, h4⟩ := List.mem_flatMap.mp hy
      obtain ⟨n', _, rfl⟩ := List.mem_map.mp h4
      intro e
      have : f = g := by
        injection e with e
        injection e with e _
        injection e
      exact h1 (this ▸ h3)
theorem prod_len : ∀ {fs ns : List Str}, (prod fs ns).length = fs.length * ns.length
  | [], ns => by simp [prod]
  | f :: fs, ns => by
    show (pls f ns ++ prod fs ns).length = _
    rw [List.length_append, prod_len, pls, List.length_map, List.length_cons, Nat.succ_mul, Nat.add_comm]
theorem prod_wld {fs ns : List Str} (hf : Nms fs 3) (hn : Nms ns 6) : Wld (prod fs ns) := by
  have f1 := hf.le
  have n1 := hn.le
  have f2 := hf.ne
  have n2 := hn.ne
  refine ⟨prod_pl hf.nm hn.nm, prod_nd hf.nd hn.nd, ?_, ?_⟩
  · rw [prod_len]
    exact Nat.le_trans (Nat.mul_le_mul (by omega : fs.length ≤ 3) (by omega : ns.length ≤ 6)) (by decide)
  · rw [prod_len]; exact Nat.mul_pos f2 n2
theorem Nms.up {xs : List Str} {n m : Int} (h : Nms xs n) (hm : n ≤ m) : Nms xs m := ⟨h.nd, h.nm, Int.le_trans h.le hm, h.ne⟩
theorem pure__law_world (hx : Fx K mg base) (h : sp__law_world K ds M Q W) : t__law_world K W (endsF Q) (startD ["_law_purse_here", "_law_folders", "_law_names_here", "_law_places", "_law_folder", "_law_name_here"] ds) M := by
  obtain ⟨q, a, b, c, rfl, hM, ha, k⟩ := h
  simp [t__law_world, dSeqI]
  refine ⟨q, a, b, c, 3, rfl, hM, ha, by decide, by decide, fun r a1 b1 c1 h0 h1 ha1 => ?_⟩
  simp
  refine ⟨q, a1, b1, c1, 1 + r, rfl, put_same, ha1, by omega, by omega, fun fs hf a2 b2 c2 ha2 => ?_⟩
  simp
  refine ⟨q, a2, b2, c2, 6, rfl, put_same, ha2, by decide, by decide, fun r' a3 b3 c3 h0' h1' ha3 => ?_⟩
  simp
  refine ⟨q, a3, b3, c3, 1 + r', rfl, put_same, ha3, by omega, by omega, fun ns hn a4 b4 c4 ha4 => ?_⟩
  simp
  intro p hp
  have f3 := hf.le
  have n6 := hn.le
  refine world_out (ns := ns) (fun _ => trivial) (by omega) fs [] _ _ (by simp; omega) fun o o' => ?_
  simp [t__law_world_3]
  exact ⟨_, _, FrzTo.new hp, k _ (prod_wld (hf.up (by omega)) (hn.up (by omega))) a4 b4 c4 ha4⟩

theorem nms_odd {xs : List Str} (h : nms xs) : ∀ x ∈ xs.map D.str, odd M 1 x := fun x hx => by
  obtain ⟨s, hs, rfl⟩ := List.mem_map.mp hx
  refine ⟨.inl rfl, fun z e => ?_, fun xs e => by cases e⟩
  cases e
  have := (nm_iff.mp (h s hs)).2.1
  omega
theorem pure__law_ordered (hx : Fx K mg base) (h : sp__law_ordered K ds M Q W) : t__law_ordered K W (endsF Q) (startD ["_law_form_here", "_law_names_here"] ds) M := by
  obtain ⟨z, m, xs, rfl, hf, hn, ht, q⟩ := h
  simp only [t__law_ordered, dRet, dSortLM, dVar, startD, List.map_cons, List.map_nil, List.length_cons, List.length_nil, List.cons_append, List.nil_append, List.replicate, List.getElem?_cons_zero, List.getElem?_cons_succ]
  refine ⟨xs.map D.str, rfl, ht.at 0, kL z m, sbL xs, fun x hx => ?_, fun p hp => ⟨_, _, FrzTo.new hp, by rw [srtK_L]; exact q⟩⟩
  obtain ⟨s, hs, rfl⟩ := List.mem_map.mp hx
  exact ev_call (ev_cons (ev_var rfl) (ev_cons (ev_var rfl) ev_nil)) ⟨z, m, s, rfl, hf, hn s hs, rfl, fun a m h => h⟩

end
end K06
set_option Elab.async false
set_option linter.all false
set_option maxRecDepth 100000
set_option maxHeartbeats 1000000
namespace K06
open PySem PySem.Spec L2 DX DL DH DS PL LM
section
variable {K : Frag} {mg : Str → Option Value} {base : Heap} {ds : List D} {M : DM} {Q : DK} {W : DXK} {δ : DSt} {wx : DW} {to tn tv te : DTE} {z : Str} {m : Int} {v : D} {E : DEnds}
theorem names_lc {v : D} {xs : List D} {te : DTE} {δ : DSt} {i : Nat} (hv : lsD M v xs) (ho : ∀ x ∈ xs, odd M 1 x) (hl : xs.length ≤ 1000) (he : Ev te δ M v) (hi : i < δ.length) (q : Q (.lst (xs.filterMap fN)) M) : dLc (st1 i (dNot (dB (dCall (sp_is_name K) W0 (dCons (dVar i) dNil)))) (dVar i)) (dSeqI te) δ M Q := by
  refine lc_ls fN hv he (fun x hx p acc k hp h => ?_) (small (by omega)) q
  simp only [st1, dNot, dB, dCall, dCons, dNil, dVar]
  simp [hi]
  refine ⟨x, rfl, (ho x hx).mono (sub_put hp), ?_⟩
  unfold fN at h
  cases e : nmD x <;> simp [e] at h ⊢ <;> exact h
theorem nms_all {xs : List Str} (h : nms xs) : (xs.map D.str).all nmD = true := List.all_eq_true.mpr fun x hx => by
  obtain ⟨s, hs, rfl⟩ := List.mem_map.mp hx
  exact h s hs
theorem ev_key {n : Str} (hf : Fm z m) (hn : nm n = true) (h0 : Ev to δ M (fm K z m)) (h1 : Ev tn δ M (.str n)) : Ev (dInstC (m___call__ K) wx to (dCons tn dNil)) δ M (keyT z m n) := fun R q => by
  unfold dInstC
  refine h0 _ ⟨⟨_, _, rfl⟩, ev_cons h1 ev_nil _ (.inl ⟨rfl, z, m, .str n, rfl, hf, ⟨.inl rfl, fun z e => ?_, fun xs e => by cases e⟩, fun _ => q, fun e => ?_⟩)⟩
  · cases e
    have := (nm_iff.mp hn).2.1
    omega
  · rw [show nmD (.str n) = nm n from rfl, hn] at e; cases e
theorem ev_isF (hx : Fx K mg base) (h : Ev to δ M (fm K z m)) : Ev (dCB (dIsi K) (dCons to (dCons (dC (.ref (He.ga K "Form"))) dNil))) δ M (.bl true) := fun R q => (ev_cons (d := fm K z m) h (ev_cons ev_c ev_nil)) _ ⟨hx.ic_Form, by rw [show kitD K (.o (cF K)) (.o (cF K)) = some true from hx.kc_Form_Form]; exact q⟩

theorem keys_lc {xs : List Str} {i : Nat} (hf : Fm z m) (hn : nms xs) (hl : xs.length ≤ 1000) (hv : lsD M v (xs.map D.str)) (he : Ev te δ M v) (h0 : ∀ d : D, (δ.set i (some d))[0]? = some (some (fm K z m))) (hi : i < δ.length) (q : Q (.lst (xs.map fun n => keyT z m n)) M) : dLc (st1 i dYes (dInstC (m___call__ K) W0 (dVar 0) (dCons (dVar i) dNil))) (dSeqI te) δ M Q := by
  refine lc_ls (fun d => some (kT z m d)) hv he (fun x hx p acc k hp h => ?_) (small (by simp; omega)) ?_
  · obtain ⟨s, hs, rfl⟩ := List.mem_map.mp hx
    simp only [st1, dYes]
    exact ev_key hf (hn s hs) (ev_var (h0 _)) (ev_var (by simp [hi])) _ h
  · have e : (xs.map D.str).filterMap (fun d => some (kT z m d)) = xs.map fun n => keyT z m n := by
      rw [show (fun d => some (kT z m d)) = some ∘ kT z m from rfl, List.filterMap_eq_map, List.map_map]
      rfl
    rw [e]; exact q
theorem keys_lay {xs : List Str} : (xs.map fun n => keyT z m n).all (lay 59) = true := List.all_eq_true.mpr fun d hd => by
  obtain ⟨n, _, rfl⟩ := List.mem_map.mp hd
  exact layT (n := 57)
theorem asc_lc {xs : List Str} (hl : xs.length ≤ 100) (ha : xs.Pairwise fun a b => kb z m a b = true) (h3 : ∀ d : D, (δ.set 5 (some d))[3]? = some (some (.lst (xs.map fun n => keyT z m n)))) (h33 : δ[3]? = some (some (.lst (xs.map fun n => keyT z m n)))) (h5 : 5 < δ.length) : Ev (dOp dEq (dLc (st1 5 (dB (dOp (dCmp .GtE) (dOp dIx (dVar 3) (dOp dSub (dVar 5) (dC (.int 1)))) (dOp dIx (dVar 3) (dVar 5)))) (dVar 5)) (dRng2 (dCons (dC (.int 1)) (dCons (dCB dLen (dCons (dVar 3) (dNil))) (dNil))))) (dLst (dNil))) δ M (.bl true) := fun R q => by
  refine go_op (lc_rng2 (i := 1) (j := xs.length) (fun _ => none) (ev_cons ev_c (ev_cons (by
    have := ev_len (M := M) (ev_var (M := M) h33)
    simpa using this) ev_nil)) (by decide) (by omega) (fun k h1 h2 M' kk _ h => ?_) ?_)
  · obtain ⟨k, rfl⟩ := Int.eq_ofNat_of_zero_le (by omega : 0 ≤ k)
    have hk : k < xs.length := by omega
    have hk1 : k - 1 < xs.length := by omega
    have a1 : atI (xs.map fun n => keyT z m n) ((k : Int) - 1) = some (keyT z m (xs[k - 1])) := by
      rw [show ((k : Int) - 1) = ((k - 1 : Nat) : Int) by omega]
      exact at_nat (by simp [hk1])
    have a2 : atI (xs.map fun n => keyT z m n) (k : Int) = some (keyT z m (xs[k])) := at_nat (by simp [hk])
    have v5 : (δ.set 5 (some (D.int k)))[5]? = some (some (.int k)) := by simp [h5]
    simp only [st1]
    refine val_t (b := false) (fun R q => ?_) (by simpa using h)
    refine ev_keys (op := .GtE) (ev_at (ev_var (h3 _)) (ev_sub (ev_var v5) ev_c) a1) (ev_at (ev_var (h3 _)) (ev_var v5) a2) _ ?_
    have := List.pairwise_iff_getElem.mp ha (k - 1) k hk1 hk (by omega)
    have e : cmpD .GtE (keyT z m xs[k - 1]) (keyT z m xs[k]) = false := by
      show (!kb z m xs[k - 1] xs[k]) = false
      rw [this]; rfl
    rw [e]; exact q
  · rw [filterMap_none fun _ _ => rfl]
    refine ev_lst ev_nil (by simp) _ ?_
    simpa [eqD, eqL, lay] using q
theorem oS_non (o : Option Str) : DL.isNon (oS o) = o.isNone := by cases o <;> rfl
theorem pure_are_names_behind (hx : Fx K mg base) (h : sp_are_names_behind K ds M Q W) : t_are_names_behind K W (endsF Q) (startD ["form", "mark", "names", "keys", "name", "at"] ds) M := by
  obtain ⟨p, v, rfl, ok, hv, q⟩ := h
  have hl := ok.le
  show t_are_names_behind K W (endsF Q) [some (fm K p.z p.m), some (oS p.mrk), some v, none, none, none] M
  unfold t_are_names_behind
  refine skip_if (fun k => or_f (fun k => not_t fun k => val_t (b := true) fun R q => ?_) (fun k => val_t fun R q => ?_)) ?_
  · exact ev_cons (ev_var rfl) (ev_cons ev_c ev_nil) _ (hv.isi q)
  · refine go_op (names_lc hv (nms_odd ok.ns) (by simp; omega) (ev_var rfl) (by simp) (ev_lst ev_nil (by simp) _ ?_))
    rw [dNe_data (by exact lay_mono (n := 1) (by decide) (fN_lay (n := 0) fun x hx => by obtain ⟨s, _, rfl⟩ := List.mem_map.mp hx; rfl)) rfl]
    simp only [res_lst, fN_eq, nms_all ok.ns, Bool.not_true]
    exact q
  unfold t_are_names_behind_3
  refine seq_set (keys_lc ok.fm ok.ns (by omega) hv (ev_var rfl) (fun _ => rfl) (by simp) ?_)
  show t_are_names_behind_2 K W (endsF Q) [some (fm K p.z p.m), some (oS p.mrk), some v, some (.lst (p.ns.map fun n => keyT p.z p.m n)), none, none] M
  unfold t_are_names_behind_2
  refine seq_if (go_B (ev_notnon (ev_var rfl) _ ?_))
  have fin : ∀ xs : List Str, xs = p.mrk.toList ++ p.ns → t_are_names_behind_1 K W (endsF Q) [some (fm K p.z p.m), some (oS p.mrk), some v, some (.lst (xs.map fun n => keyT p.z p.m n)), none, none] M := fun xs e => by
    subst e
    unfold t_are_names_behind_1
    exact go_ret (asc_lc (by cases p.mrk <;> simp <;> omega) ok.asc (fun _ => rfl) rfl (by simp) _ (up.mk q))
  cases hm : p.mrk with
  | none =>
    refine itF (by simp [oS, DL.isNon]) ?_
    have := fin p.ns (by simp [hm])
    rw [hm] at this
    exact this
  | some k =>
    refine itT (by simp [oS, DL.isNon]) ?_
    refine go_set (ev_add (ev_lst (ev_cons (ev_key ok.fm (ok.mrk k hm) (ev_var rfl) (ev_var rfl)) ev_nil) (by simp)) (ev_var rfl) (by simp; omega) _ ?_)
    have := fin (k :: p.ns) (by simp [hm])
    rw [hm] at this
    exact this
theorem odd_nm {s : Str} (h : nm s = true) : odd M 1 (.str s) := ⟨.inl rfl, fun z e => by cases e; have := (nm_iff.mp h).2.1; omega, fun xs e => by cases e⟩
theorem ev_isN {s : Str} (hs : nm s = true) (h : Ev to δ M (.str s)) : Ev (dCall (sp_is_name K) wx (dCons to dNil)) δ M (.bl true) := fun R q => ev_call (ev_cons h ev_nil) ⟨_, rfl, odd_nm hs, by rw [show nmD (.str s) = nm s from rfl, hs]; exact q⟩
theorem pure_is_piece (hx : Fx K mg base) (h : sp_is_piece K ds M Q W) : t_is_piece K W (endsF Q) (startD ["folder", "form", "mark", "names", "ended"] ds) M := by
  obtain ⟨p, v, rfl, ok, hv, q⟩ := h
  show t_is_piece K W (endsF Q) [some (.str p.f), some (fm K p.z p.m), some (oS p.mrk), some v, some (.bl p.en)] M
  unfold t_is_piece
  refine skip_if (fun k => or_f (fun k => not_t fun k => val_t (ev_isN ok.f (ev_var rfl))) (fun k => or_f (fun k => not_t fun k => val_t (ev_isF hx (ev_var rfl))) (fun k => not_t fun k => val_t (b := true) fun R q => ev_cons (ev_var (d := .bl p.en) rfl) (ev_cons ev_c ev_nil) _ (isi_bool rfl q)))) ?_
  unfold t_is_piece_2
  have fin : t_is_piece_1 K W (endsF Q) [some (.str p.f), some (fm K p.z p.m), some (oS p.mrk), some v, some (.bl p.en)] M := by
    unfold t_is_piece_1
    refine go_ret (and_bl (w := true) (w' := true) (fun R q => ev_call (ev_cons (ev_var rfl) (ev_cons (ev_var rfl) (ev_cons (ev_var rfl) ev_nil))) ⟨p, v, rfl, ok, hv, q⟩) (fun R q => ?_) (up.mk q))
    refine or_bl (w := p.en) (w' := !p.ns.isEmpty) (ev_var rfl) (fun R q => go_op (ev_var rfl _ (ev_lst ev_nil (by simp) _ ?_))) ?_
    · have er : res M v = .lst (p.ns.map D.str) := by
        rcases hv with rfl | ⟨r, rfl, hr⟩
        · rfl
        · exact res_ref hr
      rw [dNe_data (by rw [er]; exact strs_lay p.ns (n := 59)) rfl, er]
      have : eqD (.lst (p.ns.map D.str)) (.lst []) = p.ns.isEmpty := by cases p.ns <;> simp [eqD, eqL]
      rw [res_lst, this]; exact q
    · have := ok.en
      cases he : p.en
      · have := this he
        cases hn : p.ns with
        | nil => exact absurd hn this
        | cons a r => exact q
      · exact q
  refine seq_if (go_and (go_B (ev_notnon (ev_var rfl) _ ?_)))
  cases hm : p.mrk with
  | none => exact itF (by simp [oS, DL.isNon]) (itF (by simp) (by rw [hm] at fin; exact fin))
  | some k =>
    refine itT (by simp [oS, DL.isNon]) (go_not (go_B (ev_isN (ok.mrk k hm) (ev_var (d := .str k) rfl) _ ?_)))
    exact itF (by simp) (by rw [hm] at fin; exact fin)
theorem isi_ev {T : String} {d : D} (h : Ev to δ M d) (R : DK) (q : dIsi K [d, .ty T] M R) : dCB (dIsi K) (dCons to (dCons (dC (.ty T)) dNil)) δ M R := ev_cons h (ev_cons ev_c ev_nil) _ q
theorem put_eq {M : DM} {q : Addr} {o o' : MO} : put (put M q o) q o' = put M q o' := put_put
theorem pure_Piece___init__ (hx : Fx K mg base) (h : sp_Piece___init__ K ds M Q W) : t_Piece___init__ K (upX W) (endsF Q) (startD ["self", "folder", "form", "mark", "names", "ended"] ds) M := by
  obtain ⟨a, p, v, rfl, ok, hne, hv, hM, q⟩ := h
  have hv' : ∀ fs, lsD (put M a (.ins (cC K) fs)) v (p.ns.map D.str) := fun fs => by
    rcases hv with h | ⟨r, rfl, hr⟩
    · exact .inl h
    · refine .inr ⟨r, rfl, ?_⟩
      rw [put_ne (fun e => hne (by rw [e]))]
      exact hr
  show t_Piece___init__ K (upX W) (endsF Q) [some (.ref a), some (.str p.f), some (fm K p.z p.m), some (oS p.mrk), some v, some (.bl p.en)] M
  unfold t_Piece___init__
  refine skip_if (fun k => not_t fun k q => val_t (b := true) (fun R q => ev_call (ev_cons (ev_var rfl) (ev_cons (ev_var rfl) (ev_cons (ev_var rfl) (ev_cons (ev_var rfl) (ev_cons (ev_var rfl) ev_nil))))) ⟨p, v, rfl, ok, hv, q⟩) q) ?_
  unfold t_Piece___init___7
  refine seq_fld hx.pf_Piece_drawer hM (by decide) (ev_var rfl) (ev_var rfl) (fs' := [("drawer", .str p.f)]) rfl ?_
  unfold t_Piece___init___6
  refine seq_fld hx.pf_Piece_order put_same (by simp) (ev_var rfl) (ev_var rfl) (fs' := [("drawer", .str p.f), ("order", fm K p.z p.m)]) rfl ?_
  rw [put_put]
  unfold t_Piece___init___5
  refine seq_fld hx.pf_Piece_behind put_same (by simp) (ev_var rfl) (ev_var rfl) (fs' := [("drawer", .str p.f), ("order", fm K p.z p.m), ("behind", oS p.mrk)]) rfl ?_
  rw [put_put]
  unfold t_Piece___init___4
  refine seq_fld hx.pf_Piece_rows put_same (by simp) (ev_var rfl) (ev_tupls (hv' _) (ev_var rfl)) (fs' := [("drawer", .str p.f), ("order", fm K p.z p.m), ("behind", oS p.mrk), ("rows", .tup (p.ns.map D.str))]) rfl ?_
  rw [put_put]
  unfold t_Piece___init___3
  refine seq_fld hx.pf_Piece_finished put_same (by simp) (ev_var rfl) (ev_var rfl) (fs' := [("drawer", .str p.f), ("order", fm K p.z p.m), ("behind", oS p.mrk), ("rows", .tup (p.ns.map D.str)), ("finished", .bl p.en)]) rfl ?_
  rw [put_put]
  unfold t_Piece___init___2
  refine seq_fld hx.pf_Piece_low put_same (by simp) (ev_var rfl) (y := p.low) (fun R h => go_if (go_B (ev_isnon (ev_var rfl) _ ?_))) (fs' := [("drawer", .str p.f), ("order", fm K p.z p.m), ("behind", oS p.mrk), ("rows", .tup (p.ns.map D.str)), ("finished", .bl p.en), ("low", p.low)]) rfl ?_
  · unfold Pc.low at h
    cases hm : p.mrk with
    | none => rw [hm] at h; exact itT (by simp [oS, DL.isNon]) (ev_c _ h)
    | some k => rw [hm] at h; exact itF (by simp [oS, DL.isNon]) (ev_key ok.fm (ok.mrk k hm) (ev_var rfl) (ev_var (d := .str k) rfl) _ h)
  rw [put_put]
  unfold t_Piece___init___1
  refine one_fld hx.pf_Piece_high put_same (by simp) (ev_var rfl) (y := p.high) (fun R h => go_if (go_B (ev_var (d := .bl p.en) rfl _ ?_))) (fs' := [("drawer", .str p.f), ("order", fm K p.z p.m), ("behind", oS p.mrk), ("rows", .tup (p.ns.map D.str)), ("finished", .bl p.en), ("low", p.low), ("high", p.high)]) rfl ?_
  · unfold Pc.high at h
    cases he : p.en with
    | true => rw [he] at h; exact itT (by simp) (ev_c _ h)
    | false =>
      rw [he] at h
      have hnn := ok.en he
      have hn' : p.ns.map D.str ≠ [] := by simpa using hnn
      have el := ev_last (te := dVar 4) (hv' [("drawer", .str p.f), ("order", fm K p.z p.m), ("behind", oS p.mrk), ("rows", .tup (p.ns.map D.str)), ("finished", .bl p.en), ("low", p.low)]) (δ := [some (.ref a), some (.str p.f), some (fm K p.z p.m), some (oS p.mrk), some v, some (.bl false)]) (ev_var rfl) hn'
      have e2 : (p.ns.map D.str).getLast hn' = .str (lastS p.ns) := by rw [List.getLast_map, lastS_of hnn]
      rw [e2, he] at el
      exact itF (by simp) (ev_key ok.fm (last_nm ok he) (ev_var rfl) el _ h)
  rw [put_put]
  exact up.mk q
theorem mkl_Piece5 (hx : Fx K mg base) {as : List D} {E : DXK} {q : Addr} (h : mk_Piece5 K as M Q E) (hq : M q = none) : sp_Piece___init__ K (.ref q :: as) (put M q (.ins (cC K) [])) (fun v M2 => v = .non ∧ up Q (.ref q) M2) (upX E) := by
  obtain ⟨p, v, rfl, ok, hv, k⟩ := h
  refine ⟨q, p, v, rfl, ok, fun e => ?_, hv.mono (sub_put hq), put_same, rfl, ?_⟩
  · rcases hv with rfl | ⟨r, rfl, hr⟩
    · cases e
    · cases e; rw [hq] at hr; cases hr
  · rw [put_put]
    exact ⟨_, _, FrzTo.insP hq, k⟩
end
end K06
set_option Elab.async false
set_option linter.all false
set_option maxRecDepth 100000
set_option maxHeartbeats 1000000
namespace K06
open PySem PySem.Spec L2 DX DL DH DS PL LM
section
variable {K : Frag} {mg : Str → Option Value} {base : Heap} {ds : List D} {M : DM} {Q : DK} {W : DXK} {δ : DSt} {wx : DW} {to tn tv te : DTE} {p : Pc} {E : DEnds}
theorem insD_p : insD M (pce K p) = some (cC K, [(Str.ofString "drawer", .str p.f), (Str.ofString "order", fm K p.z p.m), (Str.ofString "behind", oS p.mrk), (Str.ofString "rows", .tup (p.ns.map D.str)), (Str.ofString "finished", .bl p.en), (Str.ofString "low", p.low), (Str.ofString "high", p.high)]) := rfl
theorem fl_drawer (hx : Fx K mg base) (h : Ev to δ M (pce K p)) : Ev (dFld K "drawer" to) δ M (.str p.f) := fun R q => h _ (by simp only [insD_p]; exact ⟨hx.pf_Piece_drawer, q⟩)
theorem fl_order (hx : Fx K mg base) (h : Ev to δ M (pce K p)) : Ev (dFld K "order" to) δ M (fm K p.z p.m) := fun R q => h _ (by simp only [insD_p]; exact ⟨hx.pf_Piece_order, q⟩)
theorem fl_rows (hx : Fx K mg base) (h : Ev to δ M (pce K p)) : Ev (dFld K "rows" to) δ M (.tup (p.ns.map D.str)) := fun R q => h _ (by simp only [insD_p]; exact ⟨hx.pf_Piece_rows, q⟩)
theorem fl_low (hx : Fx K mg base) (h : Ev to δ M (pce K p)) : Ev (dFld K "low" to) δ M p.low := fun R q => h _ (by simp only [insD_p]; exact ⟨hx.pf_Piece_low, q⟩)
theorem fl_high (hx : Fx K mg base) (h : Ev to δ M (pce K p)) : Ev (dFld K "high" to) δ M p.high := fun R q => h _ (by simp only [insD_p]; exact ⟨hx.pf_Piece_high, q⟩)
theorem pure_Piece_covers (hx : Fx K mg base) (h : sp_Piece_covers K ds M Q W) : t_Piece_covers K W (endsF Q) (startD ["self", "place", "key"] ds) M := by
  obtain ⟨p, a, b, rfl, ok, hb, q⟩ := h
  show t_Piece_covers K W (endsF Q) [some (pce K p), some (.tup [.str a, .str b]), none] M
  have q' : up Q (.bl (p.cov a b)) M := up.mk q
  unfold Pc.cov at q'
  unfold t_Piece_covers
  refine seq_if (go_B (ne_ss (ev_ix0 (ev_var rfl)) (fl_drawer hx (ev_var rfl)) _ ?_))
  cases hf : (a == p.f) with
  | false =>
    rw [hf] at q'
    exact itT rfl (go_ret (ev_c _ q'))
  | true =>
    rw [hf, Bool.true_and] at q'
    refine itF (by simp) ?_
    unfold t_Piece_covers_3
    refine seq_set (ev_call (ev_cons (ev_rank hx (fl_order hx (ev_var rfl))) (ev_cons (ev_many hx (fl_order hx (ev_var rfl))) (ev_cons (ev_ix1 (ev_var rfl)) ev_nil))) ⟨p.z, p.m, b, rfl, ok.fm, hb, ?_⟩)
    show t_Piece_covers_2 K W (endsF Q) [some (pce K p), some (.tup [.str a, .str b]), some (keyT p.z p.m b)] M
    unfold t_Piece_covers_2
    have dl : ∀ (o : D) (e : p.low = o), Ev (dFld K "low" (dVar 0)) [some (pce K p), some (.tup [.str a, .str b]), some (keyT p.z p.m b)] M o := fun o e => e ▸ fl_low hx (ev_var rfl)
    have dh : ∀ (o : D) (e : p.high = o), Ev (dFld K "high" (dVar 0)) [some (pce K p), some (.tup [.str a, .str b]), some (keyT p.z p.m b)] M o := fun o e => e ▸ fl_high hx (ev_var rfl)
    have fin : up Q (.bl (p.en || !kb p.z p.m (lastS p.ns) b)) M → t_Piece_covers_1 K W (endsF Q) [some (pce K p), some (.tup [.str a, .str b]), some (keyT p.z p.m b)] M := fun q => by
      unfold t_Piece_covers_1
      cases he : p.en with
      | true =>
        rw [he] at q
        exact go_ret (orV_t (ev_isnon (dh .non (by simp [Pc.high, he]))) q)
      | false =>
        rw [he] at q
        have e : p.high = keyT p.z p.m (lastS p.ns) := by simp [Pc.high, he]
        refine go_ret (orV_f (ev_isnon (dh _ e)) ?_)
        exact ev_keys (op := .LtE) (ev_var rfl) (dh _ e) _ q
    cases hm : p.mrk with
    | none =>
      rw [hm, Bool.true_and] at q'
      refine skip_if (fun k => and_f1 (fun k => tst (ev_notnon (dl .non (by simp [Pc.low, hm]))) rfl k)) (fin q')
    | some k =>
      rw [hm] at q'
      have e : p.low = keyT p.z p.m k := by simp [Pc.low, hm]
      refine seq_if (and_t1 (fun k => tst (ev_notnon (dl _ e)) rfl k) (tst (b' := !kb p.z p.m k b) (ev_keys (op := .LtE) (ev_var rfl) (dl _ e)) rfl _ ?_))
      cases hk : kb p.z p.m k b with
      | false =>
        simp only [hk, Bool.false_and] at q'
        exact itT rfl (go_ret (ev_c _ q'))
      | true =>
        simp only [hk, Bool.true_and] at q'
        exact itF (by simp) (fin q')
/-- p.covers(place) -/
theorem ev_cov {a b : Str} (ok : p.ok) (hb : nm b = true) (h0 : Ev to δ M (pce K p)) (h1 : Ev tv δ M (.tup [.str a, .str b])) : Ev (dMeth (m_covers K) "covers" wx to (dCons tv dNil)) δ M (.bl (p.cov a b)) := fun R q => by
  simp only [dMeth]
  refine h0 _ ?_
  simp only [insD_p]
  exact ⟨rfl, .inl ⟨rfl, ev_cons h1 ev_nil _ ⟨p, a, b, rfl, ok, hb, q⟩⟩⟩
theorem isPl_pl {a b : Str} (ha : nm a = true) (hb : nm b = true) : isPl (.tup [.str a, .str b]) = true := by simp [isPl, ha, hb]
theorem pure_Piece___contains__ (hx : Fx K mg base) (h : sp_Piece___contains__ K ds M Q W) : t_Piece___contains__ K W (endsF Q) (startD ["self", "place"] ds) M := by
  obtain ⟨p, d, rfl, ok, ho, q1, q2⟩ := h
  show t_Piece___contains__ K W (endsF Q) [some (pce K p), some d] M
  unfold t_Piece___contains__
  have ei : Ev (dCall (sp_is_place K) (dW W) (dCons (dVar 1) dNil)) [some (pce K p), some d] M (.bl (isPl d)) := fun R q => ev_call (ev_cons (ev_var rfl) ev_nil) ⟨d, rfl, ho, q⟩
  cases hd : isPl d with
  | false =>
    rw [hd] at ei
    exact go_ret (andV_f ei (up.mk (q2 hd)))
  | true =>
    rw [hd] at ei
    obtain ⟨a, b, rfl, ha, hb⟩ := isPl_ex hd
    exact go_ret (andV_t ei (ev_cov ok hb (ev_var rfl) (ev_var rfl) _ (up.mk (q1 a b rfl ha hb))))
theorem pure_Piece_says (hx : Fx K mg base) (h : sp_Piece_says K ds M Q W) : t_Piece_says K (upX W) (endsF Q) (startD ["self", "place"] ds) M := by
  obtain ⟨p, d, rfl, ok, ho, q1, q2⟩ := h
  show t_Piece_says K (upX W) (endsF Q) [some (pce K p), some d] M
  unfold t_Piece_says
  refine seq_drop (ev_call (ev_cons (ev_var rfl) ev_nil) ⟨d, rfl, ho, fun hd => ?_, fun hd => upX.mk (q2 hd)⟩)
  obtain ⟨a, b, rfl, ha, hb⟩ := isPl_ex hd
  have q := q1 a b rfl ha hb
  unfold Pc.says at q
  unfold t_Piece_says_2
  cases hc : p.cov a b with
  | false =>
    rw [hc] at q
    exact if_t (fun k => not_f fun k => tst (ev_cov ok hb (ev_var rfl) (ev_var rfl)) hc k) (go_ret (ev_c _ (up.mk (by simpa [oB] using q))))
  | true =>
    rw [hc] at q
    refine skip_if (fun k => not_t fun k => tst (ev_cov ok hb (ev_var rfl) (ev_var rfl)) hc k) ?_
    unfold t_Piece_says_1
    exact go_ret (ev_inT (ev_ix1 (ev_var rfl)) (fl_rows hx (ev_var rfl)) _ (up.mk (by simpa [oB] using q)))
theorem pls_sb (f : Str) (ns : List Str) : Sb (ns.map fun n => .tup [.str f, .str n]) := by
  refine ⟨fun x hx y hy => ?_, .inl fun x hx => ?_, fun x hx => ?_⟩
  · obtain ⟨a, _, rfl⟩ := List.mem_map.mp hx
    obtain ⟨b, _, rfl⟩ := List.mem_map.mp hy
    rfl
  · obtain ⟨a, _, rfl⟩ := List.mem_map.mp hx
    exact ⟨_, _, rfl⟩
  · obtain ⟨a, _, rfl⟩ := List.mem_map.mp hx
    rfl
theorem fm_pls (f : Str) (ns : List Str) : (ns.map D.str).filterMap (fun d => some (D.tup [.str f, d])) = ns.map fun n => D.tup [.str f, .str n] := by
  rw [show (fun d => some (D.tup [.str f, d])) = some ∘ fun d => D.tup [.str f, d] from rfl, List.filterMap_eq_map, List.map_map]
  rfl
theorem pure_Piece_standing (hx : Fx K mg base) (h : sp_Piece_standing K ds M Q W) : t_Piece_standing K W (endsF Q) (startD ["self", "name"] ds) M := by
  obtain ⟨p, rfl, ok, q⟩ := h
  have hl := ok.le
  show t_Piece_standing K W (endsF Q) [some (pce K p), none] M
  unfold t_Piece_standing
  refine go_ret ?_
  show (dCons _ dNil) _ _ _
  refine go_c2 (lc_tup (fun d => some (.tup [.str p.f, d])) (fl_rows hx (ev_var rfl)) (fun x hx' M' k h => ?_) (small (by simp; omega)) ?_)
  · simp only [st1, dYes]
    exact ev_tup (ev_cons (fl_drawer hx (ev_var rfl)) (ev_cons (ev_var rfl) ev_nil)) (by simp) (fun d M2 => k (some d) M2) h
  · rw [fm_pls]
    refine ev_nil _ ?_
    exact ⟨pls_sb _ _, fun r hr => up.mk (q r hr)⟩
end
end K06
set_option Elab.async false
set_option linter.all false
set_option maxRecDepth 100000
set_option maxHeartbeats 1000000
namespace K06
open PySem PySem.Spec L2 DX DL DH DS PL LM
section
variable {K : Frag} {mg : Str → Option Value} {base : Heap} {ds : List D} {M M0 : DM} {Q : DK} {W : DXK} {δ : DSt} {wx : DW} {to tn tv te tq : DTE} {p : Pc} {E : DEnds} {q : Addr}
theorem ev_lkey {z : Str} {m : Int} {n : Str} (hf : Fm z m) (hn : nm n = true) (h0 : Ev to δ M (sc z m)) (h1 : Ev tn δ M (.str n)) : Ev (dCall (sp__law_key K) wx (dCons to (dCons tn dNil))) δ M (keyL z m n) := fun R q =>
  ev_call (ev_cons h0 (ev_cons h1 ev_nil)) ⟨z, m, n, rfl, hf, hn, q⟩
theorem ev_ixT {xs : List D} {i : Int} {d : D} (h : Ev te δ M (.tup xs)) (e : atI xs i = some d) : Ev (dOp dIx te (dC (.int i))) δ M d := ev_atT h ev_c e
theorem word_no (h : Ev te δ M p.spec) (k : Bool → DM → Prop) (q : k false M) : dB (dOp dEq (dOp dIx te (dC (.int 0))) (dC (.str "ask"))) δ M k := tst (eq_ss (ev_ixT (d := .str "list") h rfl) ev_c) (by decide) k q
theorem short_of {z : Str} (h : permS z = true) : short (.str z) = true := by
  have := perm_len h
  have h2 : z.length = (cl z).length := len_cl z
  simp [short]
  omega
theorem ord_true {z : Str} {n : Int} (h1 : permS z = true) (h2 : 1 ≤ n) (h3 : n ≤ 1000) : isOrd (.str z) (.int n) = true := by simp [isOrd, inR, h1, h2, h3]
/-- Form(letters, chains) -/
theorem ev_form {z : Str} {m : Int} (hf : Fm z m) (h0 : Ev to δ M (.str z)) (h1 : Ev tn δ M (.int m)) : Ev (dCall (mk_Form2 K) wx (dCons to (dCons tn dNil))) δ M (fm K z m) := fun R q =>
  ev_call (ev_cons h0 (ev_cons h1 ev_nil)) ⟨.str z, .int m, rfl, rfl, rfl, short_of hf.p, fun _ => q, fun ho => by rw [ord_true hf.p hf.l hf.h] at ho; cases ho⟩
theorem pure__law_made (hx : Fx K mg base) (h : sp__law_made K ds M Q W) : t__law_made K W (endsF Q) (startD ["_law_look"] ds) M := by
  obtain ⟨p, rfl, ok, q⟩ := h
  show t__law_made K W (endsF Q) [some p.spec] M
  unfold t__law_made
  refine skip_if (word_no (ev_var rfl)) ?_
  have v0 : Ev (dVar 0) [some p.spec] M p.spec := ev_var rfl
  have v2 : Ev (dOp dIx (dVar 0) (dC (.int 2))) [some p.spec] M (.tup [.str p.z, .int p.m]) := ev_ixT v0 rfl
  refine go_ret (ev_call (ev_cons (ev_ixT v0 (d := .str p.f) rfl) (ev_cons (ev_form ok.fm (ev_ix0 v2) (ev_ix1 v2)) (ev_cons (ev_ixT v0 (d := oS p.mrk) rfl) (ev_cons (ev_list (ev_ixT v0 (d := .lst (p.ns.map D.str)) rfl)) (ev_cons (ev_ixT v0 (d := .bl p.en) rfl) ev_nil))))) ⟨p, .lst (p.ns.map D.str), rfl, ok, .inl rfl, up.mk q⟩)
theorem seq_asg6 {tr : DTS} {i j k l n o : Nat} {a b c d e f : D} (h : Ev te δ M (.tup [a, b, c, d, e, f])) (q : tr E ((((((δ.set i (some a)).set j (some b)).set k (some c)).set l (some d)).set n (some e)).set o (some f)) M) : dSeq (dAsg te (dgTup 6 (dgCons (dgN i) (dgCons (dgN j) (dgCons (dgN k) (dgCons (dgN l) (dgCons (dgN n) (dgCons (dgN o) dgNil)))))))) tr E δ M := h _ ⟨rfl, q⟩
theorem pure__law_says (hx : Fx K mg base) (h : sp__law_says K ds M Q W) : t__law_says K W (endsF Q) (startD ["_law_look", "_law_place", "_law_one", "_law_stands", "_law_word", "_law_folder", "_law_form_here", "_law_mark", "_law_names_here", "_law_ended", "_law_rank"] ds) M := by
  obtain ⟨p, a, b, rfl, ok, hb, q⟩ := h
  have q' : up Q (oB (p.says a b)) M := up.mk q
  unfold Pc.says Pc.cov at q'
  show t__law_says K W (endsF Q) [some p.spec, some (.tup [.str a, .str b]), none, none, none, none, none, none, none, none, none] M
  unfold t__law_says
  refine skip_if (word_no (ev_var rfl)) ?_
  unfold t__law_says_7
  refine seq_asg6 (ev_var rfl) ?_
  show t__law_says_6 K W (endsF Q) [some p.spec, some (.tup [.str a, .str b]), none, none, some (.str "list"), some (.str p.f), some (sc p.z p.m), some (oS p.mrk), some (.lst (p.ns.map D.str)), some (.bl p.en), none] M
  unfold t__law_says_6
  cases hf : (a == p.f) with
  | false =>
    rw [hf] at q'
    exact if_t (tst (ne_ss (ev_ix0 (ev_var rfl)) (ev_var rfl)) (by rw [hf]; rfl)) (go_ret (ev_c _ (by simpa [oB] using q')))
  | true =>
    rw [hf, Bool.true_and] at q'
    refine skip_if (tst (ne_ss (ev_ix0 (ev_var rfl)) (ev_var rfl)) (by rw [hf]; rfl)) ?_
    unfold t__law_says_5
    refine seq_set (ev_lkey ok.fm hb (ev_var rfl) (ev_ix1 (ev_var rfl)) _ ?_)
    show t__law_says_4 K W (endsF Q) [some p.spec, some (.tup [.str a, .str b]), none, none, some (.str "list"), some (.str p.f), some (sc p.z p.m), some (oS p.mrk), some (.lst (p.ns.map D.str)), some (.bl p.en), some (keyL p.z p.m b)] M
    have fin : up Q (oB (if (p.en || !kb p.z p.m (lastS p.ns) b) = true then some (decide (b ∈ p.ns)) else none)) M → t__law_says_3 K W (endsF Q) [some p.spec, some (.tup [.str a, .str b]), none, none, some (.str "list"), some (.str p.f), some (sc p.z p.m), some (oS p.mrk), some (.lst (p.ns.map D.str)), some (.bl p.en), some (keyL p.z p.m b)] M := fun q => by
      unfold t__law_says_3
      have last : up Q (.bl (decide (b ∈ p.ns))) M → t__law_says_2 K W (endsF Q) [some p.spec, some (.tup [.str a, .str b]), none, none, some (.str "list"), some (.str p.f), some (sc p.z p.m), some (oS p.mrk), some (.lst (p.ns.map D.str)), some (.bl p.en), some (keyL p.z p.m b)] M := fun q => by
        unfold t__law_says_2
        exact go_ret (ev_inS (ev_ix1 (ev_var rfl)) (ev_var rfl) _ q)
      cases he : p.en with
      | true =>
        rw [he] at q
        refine skip_if (fun k => and_f1 (fun k => not_t fun k => tst (ev_var rfl) rfl k)) ?_
        rw [← he]
        exact last (by simpa [oB] using q)
      | false =>
        have hnn := ok.en he
        have hn' : p.ns.map D.str ≠ [] := by simpa using hnn
        rw [he, Bool.false_or] at q
        have el := ev_last (M := M) (te := dVar 8) (δ := [some p.spec, some (.tup [.str a, .str b]), none, none, some (.str "list"), some (.str p.f), some (sc p.z p.m), some (oS p.mrk), some (.lst (p.ns.map D.str)), some (.bl false), some (keyL p.z p.m b)]) (.inl rfl) (ev_var rfl) hn'
        have e2 : (p.ns.map D.str).getLast hn' = .str (lastS p.ns) := by rw [List.getLast_map, lastS_of hnn]
        rw [e2] at el
        refine seq_if (and_t1 (fun k => not_f fun k => tst (ev_var rfl) rfl k) (tst (b' := kb p.z p.m (lastS p.ns) b) (ev_lkeys (op := .Gt) (ev_var rfl) (ev_lkey ok.fm (last_nm ok he) (ev_var rfl) el)) rfl _ ?_))
        cases hk : kb p.z p.m (lastS p.ns) b with
        | true =>
          rw [hk] at q
          exact itT rfl (go_ret (ev_c _ (by simpa [oB] using q)))
        | false =>
          rw [hk] at q
          refine itF (by simp) ?_
          rw [← he]
          exact last (by simpa [oB] using q)
    unfold t__law_says_4
    cases hm : p.mrk with
    | none =>
      rw [hm, Bool.true_and] at q'
      refine skip_if (fun k => and_f1 (fun k => tst (ev_notnon (d := .non) (ev_var rfl)) rfl k)) ?_
      rw [← hm]
      exact fin q'
    | some k =>
      rw [hm] at q'
      refine seq_if (and_t1 (fun k' => tst (ev_notnon (d := .str k) (ev_var rfl)) rfl k') (tst (b' := !kb p.z p.m k b) (ev_lkeys (op := .LtE) (ev_var rfl) (ev_lkey ok.fm (ok.mrk k hm) (ev_var rfl) (ev_var rfl))) rfl _ ?_))
      cases hk : kb p.z p.m k b with
      | false =>
        simp only [hk, Bool.false_and] at q'
        exact itT rfl (go_ret (ev_c _ (by simpa [oB] using q')))
      | true =>
        simp only [hk, Bool.true_and] at q'
        refine itF (by simp) ?_
        rw [← hm]
        exact fin q'
theorem pure__law_standing (hx : Fx K mg base) (h : sp__law_standing K ds M Q W) : t__law_standing K W (endsF Q) (startD ["_law_look", "_law_one", "_law_stands", "_law_name_here"] ds) M := by
  obtain ⟨p, rfl, ok, q⟩ := h
  have hl := ok.le
  show t__law_standing K W (endsF Q) [some p.spec, none, none, none] M
  unfold t__law_standing
  refine skip_if (word_no (ev_var rfl)) (go_ret ?_)
  show (dCons _ dNil) _ _ _
  refine go_c2 (lc_lst (fun d => some (.tup [.str p.f, d])) (ev_ixT (te := dVar 0) (ev_var rfl) (d := .lst (p.ns.map D.str)) rfl) (fun x hx' M' k h => ?_) (small (by simp; omega)) ?_)
  · simp only [st1, dYes]
    exact ev_tup (ev_cons (ev_ixT (te := dVar 0) (ev_var rfl) (d := .str p.f) rfl) (ev_cons (ev_var rfl) ev_nil)) (by simp) (fun d M2 => k (some d) M2) h
  · rw [fm_pls]
    refine ev_nil _ ?_
    exact ⟨pls_sb _ _, up.mk q⟩
/-! ### drawing -/
/-- M0 behind what drew of the purse at q -/
def Dw (M0 : DM) (q : Addr) (M : DM) : Prop := ∃ a b c, 0 ≤ a ∧ M = put M0 q (purse a b c)
theorem Dw.fin {R : DM → Prop} (h : drawn M0 q R) (d : Dw M0 q M) : R M := by
  obtain ⟨a, b, c, ha, rfl⟩ := d
  exact h a b c ha
theorem Ok.dw (h : Ok K M q) : Dw M q M := by
  obtain ⟨a, b, c, e, ha⟩ := h.p
  exact ⟨a, b, c, ha, (put_id e).symm⟩
theorem Dw.tm (h : Ok K M0 q) (d : Dw M0 q M) : TM lams K M := by
  obtain ⟨a, b, c, ha, rfl⟩ := d
  obtain ⟨a, b, c, e, _⟩ := h.p
  exact h.t.put_lst e
theorem Dw.ok (h : Ok K M0 q) (d : Dw M0 q M) : Ok K M q := by
  obtain ⟨a, b, c, ha, e⟩ := id d
  exact ⟨⟨a, b, c, by rw [e, put_same], ha⟩, d.tm h⟩
theorem Dw.trans {M' : DM} (d : Dw M0 q M) (d' : Dw M q M') : Dw M0 q M' := by
  obtain ⟨a, b, c, ha, rfl⟩ := d
  obtain ⟨a', b', c', ha', rfl⟩ := d'
  exact ⟨a', b', c', ha', put_put⟩
theorem Dw.all {R : DM → Prop} (h : ∀ M', Dw M q M' → R M') : drawn M q R := fun a b c ha => h _ ⟨a, b, c, ha, rfl⟩
theorem go_draw {n : Int} (ok : Ok K M0 q) (d : Dw M0 q M) (h1 : 1 ≤ n) (h2 : n ≤ 1000) (eq_ : Ev tq δ M (.ref q)) (en : Ev tn δ M (.int n)) (k : ∀ r M', Dw M0 q M' → 0 ≤ r → r < n → Q (.int r) M') : dCall (sp__law_draw K) wx (dCons tq (dCons tn dNil)) δ M Q := by
  obtain ⟨a, b, c, e, ha⟩ := (d.ok ok).p
  exact ev_call (ev_cons eq_ (ev_cons en ev_nil)) ⟨q, a, b, c, n, rfl, e, ha, h1, h2, fun r a' b' c' h0 h1 ha' => k r _ (d.trans ⟨a', b', c', ha', rfl⟩) h0 h1⟩
theorem go_name (ok : Ok K M0 q) (d : Dw M0 q M) (eq_ : Ev tq δ M (.ref q)) (k : ∀ z M', Dw M0 q M' → nm z = true → Q (.str z) M') : dCall (sp__law_name K) wx (dCons tq dNil) δ M Q := by
  obtain ⟨a, b, c, e, ha⟩ := (d.ok ok).p
  exact ev_call (ev_cons eq_ ev_nil) ⟨q, a, b, c, rfl, e, ha, fun z hz => Dw.all fun M' d' => k z M' (d.trans d') hz⟩
theorem go_form (ok : Ok K M0 q) (d : Dw M0 q M) (eq_ : Ev tq δ M (.ref q)) (k : ∀ z m M', Dw M0 q M' → Fm z m → Q (sc z m) M') : dCall (sp__law_form K) wx (dCons tq dNil) δ M Q := by
  obtain ⟨a, b, c, e, ha⟩ := (d.ok ok).p
  exact ev_call (ev_cons eq_ ev_nil) ⟨q, a, b, c, rfl, e, ha, fun z n a' b' c' h1 h2 h3 ha' => k z n _ (d.trans ⟨a', b', c', ha', rfl⟩) ⟨h1, h2, h3⟩⟩
/-- xs[draw(purse, len(xs))] -/
theorem draw_ix {xs : List D} {tl : DTE} (ok : Ok K M0 q) (d : Dw M0 q M) (h1 : 1 ≤ xs.length) (h2 : xs.length ≤ 1000) (hl : ∀ M, Ev tl δ M (.lst xs)) (eq_ : Ev tq δ M (.ref q)) (k : ∀ x ∈ xs, ∀ M', Dw M0 q M' → Q x M') : dOp dIx tl (dCall (sp__law_draw K) wx (dCons tq (dCons (dCB dLen (dCons tl dNil)) dNil))) δ M Q := by
  refine go_op (hl M _ (go_draw (n := xs.length) ok d (by omega) (by omega) eq_ (ev_len (hl M)) fun r M' d' h0 h1' => ?_))
  obtain ⟨r, rfl⟩ := Int.eq_ofNat_of_zero_le h0
  have hr : r < xs.length := by omega
  rw [dIx_lst, at_nat (x := xs[r]) (by simp [hr])]
  exact k _ (List.getElem_mem hr) M' d'
end
end K06
set_option Elab.async false
set_option linter.all false
set_option maxRecDepth 100000
set_option maxHeartbeats 1000000
namespace K06
open PySem PySem.Spec L2 DX DL DH DS PL LM
section
variable {K : Frag} {mg : Str → Option Value} {base : Heap} {ds : List D} {M M0 : DM} {Q : DK} {W : DXK} {δ : DSt} {wx : DW} {to tn tv te tq : DTE} {E : DEnds} {q : Addr} {z : Str} {m : Int} {f : Str} {ps ts : List D} {o : Option Str} {o5 o8 o9 o10 o11 : Option D}
abbrev sp9 (q : Addr) (ps ts : List D) (f z : Str) (m : Int) (o : Option Str) (h : D) (o5 o8 o9 o10 o11 : Option D) : DSt := [some (.ref q), some (.lst ps), some (.lst ts), some (.str f), some (sc z m), o5, some (oS o), some h, o8, o9, o10, o11]
/-- what is told at last -/
structure Fin (f z : Str) (m : Int) (o : Option Str) (ys : List Str) : Prop where
  f : nm f = true
  fm : Fm z m
  mo : ∀ k, o = some k → nm k = true
  ns : nms ys
  asc : (o.toList ++ ys).Pairwise fun a b => kb z m a b = true
  le : ys.length ≤ 18
theorem Fin.ok {ys : List Str} {n : Nat} {e : Bool} (h : Fin f z m o ys) (he : e = false → 1 ≤ n ∧ ys ≠ []) : Pc.ok ⟨f, z, m, o, ys.take n, e⟩ where
  f := h.f
  fm := h.fm
  mrk := h.mo
  ns := fun x hx => h.ns x (List.mem_of_mem_take hx)
  asc := h.asc.sublist (List.Sublist.append_left (List.take_sublist ..) _)
  en := fun e0 e1 => by
    obtain ⟨h1, h2⟩ := he e0
    have : (ys.take n).length = 0 := by rw [show ys.take n = [] from e1]; rfl
    rw [List.length_take] at this
    have : ys.length ≠ 0 := fun z => h2 (List.length_eq_zero_iff.mp z)
    omega
  le := by
    have := h.le
    show (ys.take n).length ≤ 30
    rw [List.length_take]; omega
theorem piece1 {ys : List Str} {n : Nat} {e : Bool} (h : Fin f z m o ys) (hn : n ≤ ys.length) (he : e = false → 1 ≤ n ∧ ys ≠ []) (k : ∀ p : Pc, p.ok → E.rt p.spec M) : t__law_piece_1 K W E (sp9 q ps ts f z m o (.lst (ys.map D.str)) o5 (some (.int n)) (some (.bl e)) o10 o11) M := by
  unfold t__law_piece_1
  have c : Ev (dSlice (dVar 7) dNoP (dPart (dVar 8))) (sp9 q ps ts f z m o (.lst (ys.map D.str)) o5 (some (.int n)) (some (.bl e)) o10 o11) M (.lst ((ys.take n).map D.str)) := fun R h => by
    refine ev_var (d := .lst (ys.map D.str)) rfl _ ?_
    simp
    rw [cut_take (by omega) (by simp; omega)]
    simpa [List.map_take] using h
  exact go_ret (ev_tup (ev_cons ev_c (ev_cons (ev_var rfl) (ev_cons (ev_var rfl) (ev_cons (ev_var rfl) (ev_cons c (ev_cons (ev_var rfl) ev_nil)))))) (by simp) _ (k _ (h.ok he)))
theorem piece2 {ys : List Str} {n : Nat} (ok : Ok K M0 q) (d : Dw M0 q M) (h : Fin f z m o ys) (hn : n ≤ ys.length) (h1 : ys ≠ [] → 1 ≤ n) (k : ∀ p : Pc, p.ok → ∀ M', Dw M0 q M' → E.rt p.spec M') : t__law_piece_2 K W E (sp9 q ps ts f z m o (.lst (ys.map D.str)) o5 (some (.int n)) o9 o10 o11) M := by
  unfold t__law_piece_2
  refine seq_set ?_
  have e0 : Ev (dOp dEq (dVar 7) (dLst dNil)) (sp9 q ps ts f z m o (.lst (ys.map D.str)) o5 (some (.int n)) o9 o10 o11) M (.bl ys.isEmpty) := by
    have := ev_eq0 (M := M) (te := dVar 7) (δ := sp9 q ps ts f z m o (.lst (ys.map D.str)) o5 (some (.int n)) o9 o10 o11) (strs_lay ys) (ev_var rfl)
    simpa using this
  cases hy : ys.isEmpty with
  | true =>
    rw [hy] at e0
    refine orV_t e0 (piece1 h hn (fun e => by cases e) fun p hp => k p hp M d)
  | false =>
    rw [hy] at e0
    have hne : ys ≠ [] := fun e => by rw [e] at hy; cases hy
    refine orV_f e0 ?_
    have e1 : Ev (dOp dEq (dVar 8) (dCB dLen (dCons (dVar 7) dNil))) (sp9 q ps ts f z m o (.lst (ys.map D.str)) o5 (some (.int n)) o9 o10 o11) M (.bl (decide ((n : Int) = ys.length))) := eq_ii (ev_var rfl) (by
      have := ev_len (M := M) (te := dVar 7) (δ := sp9 q ps ts f z m o (.lst (ys.map D.str)) o5 (some (.int n)) o9 o10 o11) (ev_var rfl)
      simpa using this)
    cases hd : decide ((n : Int) = ys.length) with
    | false =>
      rw [hd] at e1
      exact andV_f e1 (piece1 h hn (fun _ => ⟨h1 hne, hne⟩) fun p hp => k p hp M d)
    | true =>
      rw [hd] at e1
      refine andV_t e1 (go_op (go_draw (n := 3) ok d (by decide) (by decide) (ev_var rfl) ev_c fun r M' d' h0 h1' => ev_c _ ?_))
      rw [dGt_ii]
      exact piece1 h hn (fun _ => ⟨h1 hne, hne⟩) fun p hp => k p hp M' d'
theorem piece3 {ys : List Str} (ok : Ok K M0 q) (d : Dw M0 q M) (h : Fin f z m o ys) (k : ∀ p : Pc, p.ok → ∀ M', Dw M0 q M' → E.rt p.spec M') : t__law_piece_3 K W E (sp9 q ps ts f z m o (.lst (ys.map D.str)) o5 o8 o9 o10 o11) M := by
  unfold t__law_piece_3
  have el : Ev (dCB dLen (dCons (dVar 7) dNil)) (sp9 q ps ts f z m o (.lst (ys.map D.str)) o5 o8 o9 o10 o11) M (.int ys.length) := by
    have := ev_len (M := M) (te := dVar 7) (δ := sp9 q ps ts f z m o (.lst (ys.map D.str)) o5 o8 o9 o10 o11) (ev_var rfl)
    simpa using this
  refine seq_set ?_
  show (dCons _ (dCons _ dNil)) _ _ _
  refine go_c2 (el _ (go_c2 ?_))
  show (dCons _ (dCons _ dNil)) _ _ _
  refine go_c2 (ev_c _ (go_c2 (go_draw (n := 8) ok d (by decide) (by decide) (ev_var rfl) ev_c fun r M' d' h0 h1 => ?_)))
  show t__law_piece_2 K W E (sp9 q ps ts f z m o (.lst (ys.map D.str)) o5 (some (.int (min ys.length (max 1 r)))) o9 o10 o11) M'
  have e : min (ys.length : Int) (max 1 r) = ((min ys.length (max 1 r.toNat) : Nat) : Int) := by omega
  rw [e]
  refine piece2 ok d' h (by omega) (fun hne => ?_) k
  have : ys.length ≠ 0 := fun z => hne (List.length_eq_zero_iff.mp z)
  omega
theorem piece4 {ys : List Str} (ok : Ok K M0 q) (d : Dw M0 q M) (hf : nm f = true) (hm : Fm z m) (ho : ∀ k, o = some k → nm k = true) (hn : nms ys) (ha : ys.Pairwise fun a b => kb z m a b = true) (hl : ys.length ≤ 18) (k : ∀ p : Pc, p.ok → ∀ M', Dw M0 q M' → E.rt p.spec M') : t__law_piece_4 K W E (sp9 q ps ts f z m o (.lst (ys.map D.str)) o5 o8 o9 o10 o11) M := by
  unfold t__law_piece_4
  cases o with
  | none =>
    refine skip_if (tst (ev_notnon (d := .non) (ev_var rfl)) rfl) ?_
    exact piece3 ok d ⟨hf, hm, ho, hn, by simpa using ha, hl⟩ k
  | some w =>
    have hw := ho w rfl
    refine if_t (tst (ev_notnon (d := .str w) (ev_var rfl)) rfl) (go_set ?_)
    refine lc_lst (fun x => match x with | .str n => if kb z m w n = true then some (.str n) else none | _ => none) (ev_var rfl) (fun x hx M' kk h => ?_) (small (by simp; omega)) ?_
    · obtain ⟨n, hn', rfl⟩ := List.mem_map.mp hx
      simp only [st1]
      refine tst (b' := kb z m w n) (ev_lkeys (op := .Gt) (ev_lkey hm (hn n hn') (ev_var rfl) (ev_var rfl)) (ev_lkey hm hw (ev_var rfl) (ev_var rfl))) rfl _ ?_
      cases hk : kb z m w n with
      | true => simp only [hk, if_true] at h ⊢; exact ev_var (d := .str n) rfl (fun d M2 => kk (some d) M2) h
      | false => simp only [hk] at h; simpa using h
    · have e : (ys.map D.str).filterMap (fun x => match x with | .str n => if kb z m w n = true then some (.str n) else none | _ => none) = (ys.filter fun n => kb z m w n).map D.str := by
        rw [List.filterMap_map]
        clear hn ha hl
        induction ys with
        | nil => rfl
        | cons y ys ih =>
          rw [List.filterMap_cons, ih, List.filter_cons]
          simp only [Function.comp]
          cases kb z m w y <;> simp
      rw [e]
      refine piece3 ok d ⟨hf, hm, ho, fun n hn' => hn n (List.mem_filter.mp hn').1, ?_, Nat.le_trans (List.length_filter_le ..) hl⟩ k
      exact List.pairwise_cons.mpr ⟨fun n hn' => (List.mem_filter.mp hn').2, ha.filter _⟩
theorem go_lord {xs : List Str} (hf : Fm z m) (h0 : Ev to δ M (sc z m)) (h1 : Ev tv δ M (.lst (xs.map D.str))) (hn : nms xs) (ht : TM lams K M) : Ev (dCall (sp__law_ordered K) wx (dCons to (dCons tv dNil))) δ M (.lst (ordN z m (xs.map D.str))) := fun R q =>
  ev_call (ev_cons h0 (ev_cons h1 ev_nil)) ⟨z, m, xs, rfl, hf, hn, ht, q⟩
theorem piece5 {o7 : Option D} (ok : Ok K M0 q) (d : Dw M0 q M) (hf : nm f = true) (hm : Fm z m) (ho : ∀ k, o = some k → nm k = true) (ht : Some' ts) (k : ∀ p : Pc, p.ok → ∀ M', Dw M0 q M' → E.rt p.spec M') : t__law_piece_5 K W E [some (.ref q), some (.lst ps), some (.lst ts), some (.str f), some (sc z m), o5, some (oS o), o7, o8, o9, o10, o11] M := by
  obtain ⟨l, rfl, hl⟩ := allPl_ex ht.pl
  have nd := hn_nodup (f := f) (nodup_pD.mp ht.nd)
  have hle := ht.le
  rw [List.length_map] at hle
  have hle2 := hn_len (f := f) (l := l)
  unfold t__law_piece_5
  obtain ⟨ys, e, p, ha⟩ := ord_strict (m := m) hm.p (hn_nm (f := f) hl) nd
  refine seq_set (go_lord hm (ev_var rfl) (xs := hn f l) (fun R h => ?_) (hn_nm hl) (d.tm ok) _ ?_)
  · refine lc_lst (fH f) (ev_var rfl) (fun x hx M' kk h => ?_) (small (by simp; omega)) (by rw [fH_map]; exact h)
    obtain ⟨y, hy, rfl⟩ := List.mem_map.mp hx
    simp only [st1]
    refine tst (b' := (y.1 == f)) (eq_ss (ev_ix0 (te := dVar 10) (ev_var (d := pD y) rfl)) (ev_var rfl)) rfl _ ?_
    unfold pD fH at h
    simp only at h
    cases hk : y.1 == f with
    | true => rw [hk] at h; simp only [if_true] at h ⊢; exact ev_ix1 (te := dVar 10) (ev_var (d := pD y) rfl) (fun d M2 => kk (some d) M2) h
    | false => rw [hk] at h; simpa using h
  · rw [e]
    exact piece4 ok d hf hm ho (fun n hn' => hn_nm hl n (p.mem_iff.mp hn')) ha (by rw [p.length_eq]; omega) k
theorem piece6 {o7 : Option D} {w : Int} (ok : Ok K M0 q) (d : Dw M0 q M) (hf : nm f = true) (hm : Fm z m) (ho : ∀ k, o = some k → nm k = true) (ht : Some' ts) (k : ∀ p : Pc, p.ok → ∀ M', Dw M0 q M' → E.rt p.spec M') : t__law_piece_6 K W E [some (.ref q), some (.lst ps), some (.lst ts), some (.str f), some (sc z m), some (.int w), some (oS o), o7, o8, o9, o10, o11] M := by
  unfold t__law_piece_6
  refine seq_if (go_B (eq_ii (ev_var rfl) ev_c _ ?_))
  by_cases hw : w = 2
  · refine itT (by simpa using hw) (go_set (go_name ok d (ev_var rfl) fun y M' d' hy => ?_))
    exact piece5 (o := some y) ok d' hf hm (fun k e => by cases e; exact hy) ht k
  · exact itF (by simpa using hw) (piece5 ok d hf hm ho ht k)
theorem pure__law_piece (hx : Fx K mg base) (h : sp__law_piece K ds M Q W) : t__law_piece K W (endsF Q) (startD ["_law_purse_here", "_law_places", "_law_there", "_law_folder", "_law_form_here", "_law_way", "_law_mark", "_law_here", "_law_many", "_law_ended", "_law_place", "_law_name_here"] ds) M := by
  obtain ⟨q, ps, ts, rfl, ok, hw, ht, kk⟩ := h
  have k : ∀ p : Pc, p.ok → ∀ M', Dw M q M' → up Q p.spec M' := fun p hp M' d => up.mk (d.fin (kk p hp))
  have le := hw.le
  show t__law_piece K W (endsF Q) [some (.ref q), some (.lst ps), some (.lst ts), none, none, none, none, none, none, none, none, none] M
  unfold t__law_piece
  refine seq_set (go_op (draw_ix ok ok.dw hw.ne (by omega) (fun _ => ev_var rfl) (ev_var rfl) fun x hx M1 d1 => ev_c _ ?_))
  obtain ⟨f, b, rfl, hf, hb⟩ := isPl_ex (hw.pl x hx)
  rw [dIx_tup, at_0]
  show t__law_piece_9 K W (endsF Q) [some (.ref q), some (.lst ps), some (.lst ts), some (.str f), none, none, none, none, none, none, none, none] M1
  unfold t__law_piece_9
  refine seq_set (go_form ok d1 (ev_var rfl) fun z m M2 d2 hm => ?_)
  show t__law_piece_8 K W (endsF Q) [some (.ref q), some (.lst ps), some (.lst ts), some (.str f), some (sc z m), none, none, none, none, none, none, none] M2
  unfold t__law_piece_8
  refine seq_set (go_draw (n := 4) ok d2 (by decide) (by decide) (ev_var rfl) ev_c fun w M3 d3 _ _ => ?_)
  show t__law_piece_7 K W (endsF Q) [some (.ref q), some (.lst ps), some (.lst ts), some (.str f), some (sc z m), some (.int w), none, none, none, none, none, none] M3
  unfold t__law_piece_7
  refine seq_set (go_if (go_B (eq_ii (ev_var rfl) ev_c _ ?_)))
  by_cases hw1 : w = 1
  · refine itT (by simpa using hw1) (go_op (draw_ix ok d3 hw.ne (by omega) (fun _ => ev_var rfl) (ev_var rfl) fun y hy M4 d4 => ev_c _ ?_))
    obtain ⟨a, c, rfl, ha, hc⟩ := isPl_ex (hw.pl y hy)
    rw [dIx_tup, at_1]
    exact piece6 (o := some c) ok d4 hf hm (fun k e => by cases e; exact hc) ht k
  · refine itF (by simpa using hw1) (ev_c _ ?_)
    exact piece6 (o := none) ok d3 hf hm (fun k e => by cases e) ht k
end
end K06
set_option Elab.async false
set_option linter.all false
set_option maxRecDepth 100000
set_option maxHeartbeats 1000000
namespace K06
open PySem PySem.Spec L2 DX DL DH DS PL LM
section
variable {K : Frag} {mg : Str → Option Value} {base : Heap} {ds : List D} {M M0 : DM} {Q : DK} {W : DXK} {δ : DSt} {wx : DW} {to tn tv te tq ti : DTE} {E : DEnds} {q : Addr} {p : Pc} {x : Str}
theorem ev_cutTo {i : Int} (h : Ev te δ M (.str x)) (hi : Ev ti δ M (.int i)) (hl : x.length ≤ 1000000) : Ev (dSlice te dNoP (dPart ti)) δ M (.str (cutS x none (some i))) := fun R q => by
  refine h _ (hi _ ?_)
  show dSl (.str x) none (some i) M R
  rw [dSl_str]
  exact ⟨small hl, q⟩
theorem ev_cat {y : Str} {tb : DTE} (h : Ev te δ M (.str x)) (h' : Ev tb δ M (.str y)) (hl : x.length + y.length ≤ 1000000) : Ev (dOp dAdd te tb) δ M (.str (x ++ y)) := fun R q => h _ (h' _ ⟨small hl, q⟩)
theorem nm_a : nm (Str.ofString "a") = true := by decide +kernel
theorem nm_z : nm (Str.ofString "zzzzzzzz") = true := by decide +kernel
theorem nm_cat8 (hx : nm x = true) : nm (cutS (x ++ Str.ofString "a") none (some 8)) = true := nm_cut (r := 7) hx nm_a (by decide) (by decide)
theorem nm_len8 (hx : nm x = true) : x.length ≤ 8 := (nm_iff.mp hx).2.1
theorem nm_max (hx : nm x = true) : nm (cutS x none (some (max 1 ((x.length : Int) - 1)))) = true := by
  obtain ⟨a1, a2, a3⟩ := nm_iff.mp hx
  have e : cl (cutS x none (some (max 1 ((x.length : Int) - 1)))) = (cl x).take (max 1 ((x.length : Int) - 1)).toNat := cutS_to (by omega)
  have l := len_cl x
  refine nm_iff.mpr ⟨?_, ?_, fun c hc => ?_⟩
  · rw [len_cl, e, List.length_take]; omega
  · rw [len_cl, e, List.length_take]; omega
  · rw [e] at hc; exact a3 c (List.mem_of_mem_take hc)
theorem cut_m1 : cl (cutS x none (some (-1))) = (cl x).take (x.length - 1) := by
  rw [cl_cut]
  have e : HT.sIx x.length x.length (some (-1)) = x.length - 1 := by
    show (if (-1 : Int) < 0 then (-1 + (x.length : Int)).toNat else min (-1 : Int).toNat x.length) = _
    rw [if_pos (by decide)]; omega
  rw [e]
  rfl
theorem nm_zed (hx : nm x = true) : nm (cutS (cutS x none (some (-1)) ++ Str.ofString "z") none (some 8)) = true := by
  obtain ⟨a1, a2, a3⟩ := nm_iff.mp hx
  have l := len_cl x
  have hz : nm (Str.ofString "z") = true := by decide +kernel
  obtain ⟨b1, b2, b3⟩ := nm_iff.mp hz
  have lz : (cl (Str.ofString "z")).length = 1 := by decide +kernel
  have e : cl (cutS (cutS x none (some (-1)) ++ Str.ofString "z") none (some 8)) = ((cl x).take (x.length - 1) ++ cl (Str.ofString "z")).take 8 := by
    rw [cutS_to (by decide), cl_app, cut_m1]; rfl
  refine nm_iff.mpr ⟨?_, ?_, fun c hc => ?_⟩
  · rw [len_cl, e, List.length_take, List.length_append, List.length_take, lz]; omega
  · rw [len_cl, e, List.length_take, List.length_append, List.length_take, lz]; omega
  · rw [e] at hc
    rcases List.mem_append.mp (List.mem_of_mem_take hc) with h | h
    · exact a3 c (List.mem_of_mem_take h)
    · exact b3 c h
theorem cut_len {i : Option Int} : (cutS x none i).length ≤ x.length := by
  rw [len_cl, cl_cut, List.length_take, List.length_drop, len_cl]; omega
/-! ### around -/
section
variable {r : Addr} {ps xs : List D} {acc : List D} {o4 o5 : Option D}
theorem pl_of {a b : Str} (ha : nm a = true) (hb : nm b = true) : isPl (.tup [.str a, .str b]) = true := by simp [isPl, ha, hb]
theorem around4 {a b : Str} (ok : p.ok) (hb : nm b = true) (hl : acc.length ≤ 900) (hn : ∀ e1 e2 e3 e4, isPl e1 = true → isPl e2 = true → isPl e3 = true → isPl e4 = true → E.nx [some (.ref q), some (.lst ps), some p.spec, some (.ref r), some (.tup [.str a, .str b]), o5] (put M r (.lst (acc ++ [e1] ++ [e2] ++ [e3] ++ [e4])))) :
    t__law_around_4 K W E [some (.ref q), some (.lst ps), some p.spec, some (.ref r), some (.tup [.str a, .str b]), o5] (put M r (.lst acc)) := by
  have lb := nm_len8 hb
  have v : ∀ M, Ev (dOp dIx (dVar 2) (dC (.int 1))) [some (.ref q), some (.lst ps), some p.spec, some (.ref r), some (.tup [.str a, .str b]), o5] M (.str p.f) := fun M => ev_ixT (te := dVar 2) (ev_var rfl) (d := .str p.f) rfl
  have w : ∀ M, Ev (dOp dIx (dVar 4) (dC (.int 1))) [some (.ref q), some (.lst ps), some p.spec, some (.ref r), some (.tup [.str a, .str b]), o5] M (.str b) := fun M => ev_ix1 (te := dVar 4) (ev_var rfl)
  unfold t__law_around_4
  refine seq_app (ev_var rfl) put_same (by omega) (ev_tup (ev_cons (v _) (ev_cons (w _) ev_nil)) (by simp)) ?_
  rw [put_put]
  unfold t__law_around_3
  refine seq_app (ev_var rfl) put_same (by simp; omega) (ev_tup (ev_cons (v _) (ev_cons (ev_cutTo (ev_cat (w _) ev_c (by rw [show (Str.ofString "a").length = 1 from rfl]; omega)) ev_c (by rw [len_app, show (Str.ofString "a").length = 1 from rfl]; omega)) ev_nil)) (by simp)) ?_
  rw [put_put]
  unfold t__law_around_2
  have lc1 := cut_len (x := b) (i := some (-1))
  refine seq_app (ev_var rfl) put_same (by simp; omega) (ev_tup (ev_cons (v _) (ev_cons (ev_cutTo (ev_cat (ev_cutTo (w _) ev_m1 (by omega)) ev_c (by rw [show (Str.ofString "z").length = 1 from rfl]; omega)) ev_c (by rw [len_app, show (Str.ofString "z").length = 1 from rfl]; omega)) ev_nil)) (by simp)) ?_
  rw [put_put]
  unfold t__law_around_1
  have el : ∀ M, Ev (dCB dLen (dCons (dOp dIx (dVar 4) (dC (.int 1))) dNil)) [some (.ref q), some (.lst ps), some p.spec, some (.ref r), some (.tup [.str a, .str b]), o5] M (.int b.length) := fun M R h => ev_cons (w M) ev_nil _ (by rw [dLen_str]; exact ⟨small (by omega), h⟩)
  refine go_app (ev_var rfl) put_same (by simp; omega) (ev_tup (ev_cons (v _) (ev_cons (ev_cutTo (w _) (ev_max ev_c (ev_sub (el _) ev_c)) (by omega)) ev_nil)) (by simp)) ?_
  rw [put_put]
  exact hn _ _ _ _ (pl_of ok.f hb) (pl_of ok.f (nm_cat8 hb)) (pl_of ok.f (nm_zed hb)) (pl_of ok.f (nm_max hb))
theorem around_loop (ok : p.ok) {keep : DM → Prop} (hk : ∀ M, keep M) (hn : ∀ acc o4, allPl acc → acc.length ≤ 900 → E.nx [some (.ref q), some (.lst ps), some p.spec, some (.ref r), o4, o5] (put M r (.lst acc))) : ∀ (l : List Pr2) (acc : List D) (o4 : Option D), (∀ x ∈ l, Pr2.ok x) → allPl acc → acc.length + 4 * l.length ≤ 800 →
    forR (dgN 4) (t__law_around_4 K W) keep E (l.map pD) [some (.ref q), some (.lst ps), some p.spec, some (.ref r), o4, o5] (put M r (.lst acc))
  | [], acc, o4, _, ha, hl => ⟨hk _, hn acc _ ha (by omega)⟩
  | y :: l, acc, o4, h, ha, hl => ⟨hk _, by
    have hl' : acc.length + 4 * (l.length + 1) ≤ 800 := hl
    refine around4 (a := y.1) (b := y.2) ok (h y (List.mem_cons_self ..)).2 (by omega) fun e1 e2 e3 e4 h1 h2 h3 h4 => ?_
    refine around_loop ok hk hn l _ _ (fun x hx => h x (List.mem_cons_of_mem _ hx)) (fun d hd => ?_) (by simp; omega)
    simp only [List.mem_append, List.mem_singleton] at hd
    rcases hd with (((hd | rfl) | rfl) | rfl) | rfl
    · exact ha d hd
    · exact h1
    · exact h2
    · exact h3
    · exact h4⟩
theorem pure__law_around (hx : Fx K mg base) (h : sp__law_around K ds M Q W) : t__law_around K W (endsF Q) (startD ["_law_purse_here", "_law_places", "_law_look", "_law_found", "_law_place", "_law_name_here"] ds) M := by
  obtain ⟨q, ps, p, rfl, ok, hw, hp, k⟩ := h
  obtain ⟨l, rfl, hl⟩ := allPl_ex hw.pl
  have le := hw.le
  rw [List.length_map] at le
  obtain ⟨y, l', rfl⟩ : ∃ y l', l = y :: l' := by
    have := hw.ne
    cases l with
    | nil => simp at this
    | cons y l' => exact ⟨y, l', rfl⟩
  have hy := hl y (List.mem_cons_self ..)
  have le' : l'.length + 1 ≤ 18 := le
  have lp := hp.le
  have nf : nm p.f = true := hp.f
  show t__law_around K W (endsF Q) [some (.ref q), some (.lst ((y :: l').map pD)), some p.spec, none, none, none] M
  unfold t__law_around
  refine seq_set (go_op (ev_list (ev_var rfl) _ (go_lst (go_c2 (go_tup (go_c2 (ev_ixT (te := dVar 2) (ev_var rfl) (d := .str p.f) rfl _ (go_c2 (go_name ok ok.dw (ev_var rfl) fun n1 M1 d1 h1 => ev_nil _ ⟨small (by simp), ?_⟩))))))))) 
  refine go_c2 (go_tup (go_c2 (go_name ok d1 (ev_var rfl) fun n2 M2 d2 h2 => go_c2 (ev_ix1 (ev_at (te := dVar 1) (ev_var rfl) ev_c (d := .tup [.str y.1, .str y.2]) at_0) _ (ev_nil _ ⟨small (by simp), ?_⟩)))))
  refine go_c2 (ev_tup (ev_cons (ev_ixT (te := dVar 2) (ev_var rfl) (d := .str p.f) rfl) (ev_cons ev_c ev_nil)) (by simp) _ (ev_nil _ ⟨small (by simp), ?_⟩))
  refine ⟨small (by simp; omega), fun r hr => ?_⟩
  show t__law_around_7 K W (endsF Q) [some (.ref q), some (.lst ((y :: l').map pD)), some p.spec, some (.ref r), none, none] (put M2 r (.lst ((y :: l').map pD ++ [.tup [.str p.f, .str n1], .tup [.str n2, .str y.2], .tup [.str p.f, .str "zzzzzzzz"]])))
  unfold t__law_around_7
  refine seq_for (zs := ((y :: l') ++ p.ns.map fun n => (p.f, n)).map pD) ?_ ?_
  · have e : ((y :: l') ++ p.ns.map fun n => (p.f, n)).map pD = (y :: l').map pD ++ (p.ns.map D.str).filterMap (fun d => some (.tup [.str p.f, d])) := by
      rw [fm_pls, List.map_append, List.map_map]; rfl
    rw [e]
    refine ev_add (ev_var rfl) (fun R h => ?_) (by rw [fm_pls]; simp; omega)
    refine lc_lst (fun d => some (.tup [.str p.f, d])) (ev_ixT (te := dVar 2) (ev_var rfl) (d := .lst (p.ns.map D.str)) rfl) (fun x hx' M' kk h => ?_) (small (by simp; omega)) h
    simp only [st1, dYes]
    exact ev_tup (ev_cons (ev_ixT (te := dVar 2) (ev_var rfl) (d := .str p.f) rfl) (ev_cons (ev_var rfl) ev_nil)) (by simp) (fun d M2 => kk (some d) M2) h
  · have fin : ∀ acc, allPl acc → acc.length ≤ 1000 → up Q (.ref r) (put M2 r (.lst acc)) := fun acc ha hla => ⟨_, _, FrzTo.new hr, d2.fin (k acc ha hla)⟩
    refine around_loop hp (fun _ => rfl) (fun acc o4 ha hla => ?_) _ _ _ (fun x hx => ?_) (fun d hd => ?_) (by simp; omega)
    · show t__law_around_6 K W (endsF Q) [some (.ref q), some (.lst ((y :: l').map pD)), some p.spec, some (.ref r), o4, none] (put M2 r (.lst acc))
      unfold t__law_around_6
      cases hm : p.mrk with
      | none =>
        refine skip_if (tst (ev_notnon (ev_ixT (te := dVar 2) (ev_var rfl) (d := .non) (by simp [hm, oS]))) rfl) ?_
        unfold t__law_around_5
        exact go_ret (ev_var rfl _ (fin acc ha (by omega)))
      | some kk =>
        have hk := hp.mrk kk hm
        have lk := nm_len8 hk
        have v3 : ∀ M, Ev (dOp dIx (dVar 2) (dC (.int 3))) [some (.ref q), some (.lst ((y :: l').map pD)), some p.spec, some (.ref r), o4, none] M (.str kk) := fun M => ev_ixT (te := dVar 2) (ev_var rfl) (by simp [hm, oS])
        have v1 : ∀ M, Ev (dOp dIx (dVar 2) (dC (.int 1))) [some (.ref q), some (.lst ((y :: l').map pD)), some p.spec, some (.ref r), o4, none] M (.str p.f) := fun M => ev_ixT (te := dVar 2) (ev_var rfl) rfl
        refine if_t (tst (ev_notnon (v3 _)) rfl) (go_set (go_op (ev_var rfl _ (ev_lst (ev_cons (ev_tup (ev_cons (v1 _) (ev_cons (v3 _) ev_nil)) (by simp)) (ev_cons (ev_tup (ev_cons (v1 _) (ev_cons (ev_cutTo (ev_cat (v3 _) ev_c (by rw [show (Str.ofString "a").length = 1 from rfl]; omega)) ev_c (by rw [len_app, show (Str.ofString "a").length = 1 from rfl]; omega)) ev_nil)) (by simp)) ev_nil)) (by simp) _ ?_))))
        unfold dAddM
        rw [asL_ref put_same, asL_lst']
        refine ⟨small (by simp; omega), fun r2 hr2 => ?_⟩
        show t__law_around_5 K W (endsF Q) [some (.ref q), some (.lst ((y :: l').map pD)), some p.spec, some (.ref r2), o4, none] _
        unfold t__law_around_5
        refine go_ret (ev_var rfl _ ⟨_, _, (FrzTo.new hr2).trans (FrzTo.put hr), d2.fin (k _ (fun d hd => ?_) (by simp; omega))⟩)
        rcases List.mem_append.mp hd with hd | hd
        · exact ha d hd
        · simp only [List.mem_cons, List.not_mem_nil, or_false] at hd
          rcases hd with rfl | rfl
          · exact pl_of nf hk
          · exact pl_of nf (nm_cat8 hk)
    · rcases List.mem_append.mp hx with hx | hx
      · exact hl x hx
      · obtain ⟨n, hn, rfl⟩ := List.mem_map.mp hx
        exact ⟨nf, hp.ns n hn⟩
    · rcases List.mem_append.mp hd with hd | hd
      · exact hw.pl d hd
      · simp only [List.mem_cons, List.not_mem_nil, or_false] at hd
        rcases hd with rfl | rfl | rfl
        · exact pl_of nf h1
        · exact pl_of h2 hy.2
        · exact pl_of nf nm_z
end
end
end K06
set_option Elab.async false
set_option linter.all false
set_option maxRecDepth 100000
set_option maxHeartbeats 1000000
namespace K06
open PySem PySem.Spec L2 DX DL DH DS PL LM
section
variable {K : Frag} {mg : Str → Option Value} {base : Heap} {ds : List D} {M M0 : DM} {Q : DK} {W : DXK} {δ : DSt} {wx : DW} {to tn tv te tq ti : DTE} {E : DEnds} {q : Addr} {p : Pc} {x : Str}
theorem nm_up {z : Str} (h : nm z = true) : nm (Txt.upper z) = false ∧ (Txt.upper z).length ≤ 100 := by
  obtain ⟨h1, h2, h3⟩ := nm_iff.mp h
  refine ⟨?_, by have := PyProof.Rows.len_upper z; omega⟩
  have all : ∀ c ∈ cl alpha, c < 128 ∧ PyProof.Rows.up1 c ∉ cl alpha := by decide +kernel
  have e : Txt.upper z = ⟨z.cps.map PyProof.Rows.up1⟩ := PyProof.Rows.upper_ascii fun c hc => (all c (h3 c hc)).1
  cases hb : nm (Txt.upper z) with
  | false => rfl
  | true =>
    exfalso
    rw [e] at hb
    obtain ⟨_, _, g3⟩ := nm_iff.mp hb
    cases hc : cl z with
    | nil => rw [len_cl, hc] at h1; simp at h1
    | cons c l =>
      have m : c ∈ cl z := by rw [hc]; exact List.mem_cons_self ..
      refine (all c (h3 c m)).2 (g3 _ ?_)
      show PyProof.Rows.up1 c ∈ (z.cps.map PyProof.Rows.up1).toList
      rw [Array.toList_map]
      exact List.mem_map_of_mem m

theorem ev_up {z : Str} (h : Ev te δ M (.str z)) (hl : z.length ≤ 100) : Ev (dBM0 "str" dUpper te) δ M (.str (Txt.upper z)) := fun R q => by
  simp only [dBM0]
  exact h _ ⟨rfl, by omega, q⟩
theorem odd_tup {xs : List D} {n : Nat} (hl : xs.length ≤ 1000) (h : ∀ x ∈ xs, odd M n x) : odd M (n + 1) (.tup xs) := by
  refine ⟨.inl rfl, fun z e => (by cases e), fun ys e => ?_⟩
  cases e
  exact ⟨hl, h⟩
theorem odd_pl2 {a b : D} (ha : odd M 1 a) (hb : odd M 1 b) : odd M 2 (.tup [a, b]) := by
  refine odd_tup (by simp) fun x hx => ?_
  simp only [List.mem_cons, List.not_mem_nil, or_false] at hx
  rcases hx with rfl | rfl
  · exact ha
  · exact hb
theorem odd_st {s : Str} {n : Nat} (h : s.length ≤ 100) : odd M (n + 1) (.str s) := ⟨.inl rfl, fun z e => by cases e; exact h, fun xs e => by cases e⟩
theorem odd_flat {d : D} {n : Nat} (hp : plain d = true) (h1 : ∀ z, d ≠ .str z) (h2 : ∀ xs, d ≠ .tup xs) : odd M (n + 1) d := ⟨.inl hp, fun z e => absurd e (h1 z), fun xs e => absurd e (h2 xs)⟩
theorem nm_long {y : Str} (h : 9 ≤ y.length) : nm y = false := by
  cases hn : nm y with
  | false => rfl
  | true => have := nm_len8 hn; omega
theorem pure__law_strangers (hx : Fx K mg base) (h : sp__law_strangers K ds M Q W) : t__law_strangers K W (endsF Q) (startD ["_law_place", "_law_folder", "_law_name_here"] ds) M := by
  obtain ⟨a, b, rfl, ha, hb, k⟩ := h
  have la := nm_len8 ha
  have lb := nm_len8 hb
  have l8 : (Str.ofString "abcdefgh").length = 8 := rfl
  obtain ⟨u1, u2⟩ := nm_up hb
  show t__law_strangers K W (endsF Q) [some (.tup [.str a, .str b]), none, none] M
  unfold t__law_strangers
  refine seq_asg2 (ev_var rfl) ?_
  have v1 : Ev (dVar 1) [some (.tup [.str a, .str b]), some (.str a), some (.str b)] M (.str a) := ev_var rfl
  have v2 : Ev (dVar 2) [some (.tup [.str a, .str b]), some (.str a), some (.str b)] M (.str b) := ev_var rfl
  refine go_ret (ev_lst (ev_cons v1 (ev_cons v2 (ev_cons (ev_lst (ev_cons v1 (ev_cons v2 ev_nil)) (by simp)) (ev_cons (ev_tup (ev_cons v1 ev_nil) (by simp)) (ev_cons (ev_tup (ev_cons v1 (ev_cons v2 (ev_cons v2 ev_nil))) (by simp)) (ev_cons (ev_tup (ev_cons v1 (ev_cons ev_c ev_nil)) (by simp)) (ev_cons (ev_tup (ev_cons ev_c (ev_cons v2 ev_nil)) (by simp)) (ev_cons ev_c (ev_cons ev_c (ev_cons ev_c (ev_cons (ev_tup (ev_cons v1 (ev_cons (ev_up v2 (by omega)) ev_nil)) (by simp)) (ev_cons (ev_tup (ev_cons v1 (ev_cons (ev_lst (ev_cons v2 ev_nil) (by simp)) ev_nil)) (by simp)) (ev_cons (ev_tup (ev_cons (ev_cat v1 ev_c (by rw [l8]; omega)) (ev_cons v2 ev_nil)) (by simp)) (ev_cons (ev_tup (ev_cons v2 (ev_cons ev_c ev_nil)) (by simp)) (ev_cons (ev_tup (ev_cons (ev_tup (ev_cons v1 (ev_cons v2 ev_nil)) (by simp)) (ev_cons v2 ev_nil)) (by simp)) ev_nil))))))))))))))) (by simp) _ (up.mk (k _ (fun d hd => ?_) (by simp))))
  have s : ∀ {s : Str} {n : Nat} {M : DM}, s.length ≤ 100 → odd M (n + 1) (.str s) := fun h => odd_st h
  have e0 : nm (Str.ofString "") = false := by decide +kernel
  simp only [List.mem_cons, List.not_mem_nil, or_false] at hd
  rcases hd with rfl | rfl | rfl | rfl | rfl | rfl | rfl | rfl | rfl | rfl | rfl | rfl | rfl | rfl | rfl
  · exact ⟨fun M => s (by omega), rfl, rfl⟩
  · exact ⟨fun M => s (by omega), rfl, rfl⟩
  · exact ⟨fun M => odd_flat rfl (fun z e => by cases e) (fun z e => by cases e), rfl, rfl⟩
  · exact ⟨fun M => odd_tup (by simp) fun x hx => by rw [List.mem_singleton.mp hx]; exact s (by omega), rfl, rfl⟩
  · refine ⟨fun M => odd_tup (by simp) fun x hx => ?_, rfl, rfl⟩
    simp only [List.mem_cons, List.not_mem_nil, or_false] at hx
    rcases hx with rfl | rfl | rfl
    · exact s (by omega)
    · exact s (by omega)
    · exact s (by omega)
  · exact ⟨fun M => odd_pl2 (s (by omega)) (s (by decide)), by simp [isPl, e0], rfl⟩
  · exact ⟨fun M => odd_pl2 (s (by decide)) (s (by omega)), by simp [isPl, e0], rfl⟩
  · exact ⟨fun M => odd_flat rfl (fun z e => by cases e) (fun z e => by cases e), rfl, rfl⟩
  · exact ⟨fun M => odd_flat rfl (fun z e => by cases e) (fun z e => by cases e), rfl, rfl⟩
  · exact ⟨fun M => odd_flat rfl (fun z e => by cases e) (fun z e => by cases e), rfl, rfl⟩
  · exact ⟨fun M => odd_pl2 (s (by omega)) (s u2), by simp [isPl, u1], rfl⟩
  · exact ⟨fun M => odd_pl2 (s (by omega)) (odd_flat rfl (fun z e => by cases e) (fun z e => by cases e)), rfl, rfl⟩
  · have hlo : (a ++ Str.ofString "abcdefgh").length = a.length + 8 := by rw [len_app, l8]
    have := (nm_iff.mp ha).1
    exact ⟨fun M => odd_pl2 (s (by omega)) (s (by omega)), by simp [isPl, nm_long (y := a ++ Str.ofString "abcdefgh") (by omega)], rfl⟩
  · exact ⟨fun M => odd_pl2 (s (by omega)) (odd_flat rfl (fun z e => by cases e) (fun z e => by cases e)), rfl, rfl⟩
  · refine ⟨fun M => odd_pl2 (odd_tup (by simp) fun x _ => trivial) (s (by omega)), rfl, rfl⟩
/-- piece.says(v), v no place -/
theorem pure__law_raises (hx : Fx K mg base) (h : sp__law_raises K ds M Q W) : t__law_raises K W (endsF Q) (startD ["_law_look", "_law_value", "_law_found", "e"] ds) M := by
  obtain ⟨p, v, rfl, ok, hv, q⟩ := h
  have l2 := lay_mono (n := 8) (m := 59) (by decide) hv.l
  have hs : sameD M (.lst [v]) (.lst [v]) := same_one (.inl l2)
  have fin : wTry K 3 (dW W) { nx := t__law_raises_1 K W (endsF Q), rt := (endsF Q).rt } [(Value.ref (He.ga K "InvalidPlace"), ["value"], fun a C fs => dSet 2 (dLst (dCons (dXf a fs "value" (dVar 3)) dNil)))] (cP K) [("value", v)] [some (pce K p), some v, some (.lst [.str "none"]), none] M := by
    refine ⟨true, hx.xm_InvalidPlace_InvalidPlace, fun _ => ⟨⟨hx.in_InvalidPlace.xf, fun f hf => ?_⟩, fun a ha => ?_⟩, fun h => by cases h⟩
    · rw [List.mem_singleton.mp hf]
      exact ⟨rfl, hx.in_InvalidPlace.no _ (by simp)⟩
    · have lk : List.lookup (Str.ofString "value") [(Str.ofString "value", v)] = some v := rfl
      simp [lk, outD, t__law_raises_1]
      exact ⟨small (by decide), .inr ⟨hs, up.mk q⟩⟩
  show t__law_raises K W (endsF Q) [some (pce K p), some v, none, none] M
  unfold t__law_raises
  refine seq_set (ev_lst (ev_cons ev_c ev_nil) (by simp) _ ?_)
  show dMeth (m_says K) "says" _ (dVar 0) (dCons (dVar 1) dNil) [some (pce K p), some v, some (.lst [.str "none"]), none] M _
  simp only [dMeth]
  refine ev_var (d := pce K p) rfl _ ?_
  simp only [insD_p]
  refine ⟨rfl, .inl ⟨rfl, ev_cons (ev_var rfl) ev_nil _ ⟨p, v, rfl, ok, hv.o M, fun a b e ha hb => ?_, fun _ => fin⟩⟩⟩
  have := hv.n
  rw [e, pl_of ha hb] at this
  cases this
end
end K06
set_option Elab.async false
set_option linter.all false
set_option maxRecDepth 100000
set_option maxHeartbeats 1000000
namespace K06
open PySem PySem.Spec L2 DX DL DH DS PL LM
section
variable {K : Frag} {mg : Str → Option Value} {base : Heap} {M M0 : DM} {Q : DK} {W : DXK} {δ : DSt} {wx : DW} {to tn tv te tq ti : DTE} {E : DEnds} {q : Addr} {p : Pc}
theorem Ok.new {r : Addr} {o : MO} (h : Ok K M q) (hp : M r = none) : Ok K (put M r o) q := ⟨by
  obtain ⟨a, b, c, e, ha⟩ := h.p
  exact ⟨a, b, c, by rw [put_ne' e hp], ha⟩, h.t.put_none hp⟩
theorem Ok.wrote {r : Addr} {o : MO} {xs : List D} (h : Ok K M q) (hp : M r = some (.lst xs)) (hne : r ≠ q) : Ok K (put M r o) q := ⟨by
  obtain ⟨a, b, c, e, ha⟩ := h.p
  exact ⟨a, b, c, by rw [put_ne hne.symm]; exact e, ha⟩, h.t.put_lst hp⟩
theorem Ok.ne {r : Addr} (h : Ok K M q) (hp : M r = none) : r ≠ q := fun e => by
  obtain ⟨a, b, c, h, _⟩ := h.p
  rw [e, h] at hp; cases hp
theorem put_swap {M : DM} {a b : Addr} {o o' : MO} (h : a ≠ b) : put (put M a o) b o' = put (put M b o') a o := by
  funext c
  unfold put
  by_cases h1 : c = b
  · by_cases h2 : c = a
    · exact absurd (h2.symm.trans h1) h
    · simp [h1, h2, show ¬ b = a from fun e => h e.symm]
  · by_cases h2 : c = a
    · subst h2; simp [h]
    · simp [h1, h2]
theorem lcR_draw {st : DStep} {keep : DM → Prop} {r : Addr} {fin : List D → DM → Prop} (ok : Ok K M q) (hr : M r = none) (hk : ∀ M, keep M) : ∀ (xs acc : List D) (M1 : DM), (∀ x ∈ xs, ∀ (M0 M' : DM) (k : Option D → DM → Prop), Ok K M0 q → Dw M0 q M' → (∀ o M'', Dw M0 q M'' → (o = none ∨ o = some x) → k o M'') → st x δ M' k) → acc.length + xs.length ≤ 100000 →
    (∀ ts M', ts.Sublist xs → Dw (put M r (.lst (acc ++ ts))) q M' → fin (acc ++ ts) M') → Dw (put M r (.lst acc)) q M1 → lcR st keep δ r fin xs acc M1
  | [], acc, M1, hs, hl, hf, d => ⟨hk _, by
      obtain ⟨a, b, c, ha, rfl⟩ := d
      rw [put_ne (ok.ne hr), put_same], by
      have := hf [] M1 (.slnil)
      simp only [List.append_nil] at this
      exact this d⟩
  | x :: xs, acc, M1, hs, hl, hf, d => by
    have hl' : acc.length + (xs.length + 1) ≤ 100000 := hl
    refine ⟨hk _, hs x (List.mem_cons_self ..) (put M r (.lst acc)) M1 _ (ok.new hr) d fun o M'' d'' ho => ⟨?_, ?_⟩⟩
    · obtain ⟨a, b, c, ha, rfl⟩ := d''
      rw [put_ne (ok.ne hr), put_same]
    · rcases ho with rfl | rfl
      · exact lcR_draw ok hr hk xs acc M'' (fun y hy => hs y (List.mem_cons_of_mem _ hy)) (by omega) (fun ts M' h => hf ts M' (h.cons _)) d''
      · refine ⟨Nat.lt_of_lt_of_le (by omega : acc.length < 100001) (small (by decide)), ?_⟩
        refine lcR_draw ok hr hk xs (acc ++ [x]) _ (fun y hy => hs y (List.mem_cons_of_mem _ hy)) (by simp; omega) (fun ts M' h d => ?_) ?_
        · have := hf (x :: ts) M' (h.cons₂ _)
          simp only [List.append_assoc, List.singleton_append] at d ⊢
          exact this d
        · obtain ⟨a, b, c, ha, rfl⟩ := d''
          refine ⟨a, b, c, ha, ?_⟩
          rw [put_swap (ok.ne hr).symm, put_put]
/-- [x for x in xs if draw(..) ..] -/
theorem lc_draw {st : DStep} {xs : List D} (ok : Ok K M q) (he : Ev te δ M (.lst xs)) (hl : xs.length ≤ 1000) (hs : ∀ x ∈ xs, ∀ (M0 M' : DM) (k : Option D → DM → Prop), Ok K M0 q → Dw M0 q M' → (∀ o M'', Dw M0 q M'' → (o = none ∨ o = some x) → k o M'') → st x δ M' k) (fin : ∀ ts, ts.Sublist xs → ∀ M', Dw M q M' → Q (.lst ts) M') : dLc st (dSeqI te) δ M Q := by
  unfold dLc dSeqI
  refine he _ fun r hr => ?_
  refine lcR_draw ok hr (fun _ => rfl) xs [] _ hs (by simp; omega) (fun ts M' h d => ?_) (Ok.dw (ok.new hr))
  obtain ⟨a, b, c, ha, rfl⟩ := d
  have e : drp (put (put M r (.lst ([] ++ ts))) q (purse a b c)) r = put M q (purse a b c) := by
    rw [put_swap (ok.ne hr), drp_put (by rw [put_ne (ok.ne hr)]; exact hr)]
  rw [e]
  exact fin ts h _ ⟨a, b, c, ha, rfl⟩
theorem Some'.of {ps ts : List D} (h : Wld ps) (s : ts.Sublist ps) : Some' ts := ⟨fun x hx => h.pl x (s.subset hx), h.nd.sublist s, Nat.le_trans s.length_le h.le⟩
theorem ev_says {d : D} {a b : Str} (ok : p.ok) (hd : d = .tup [.str a, .str b]) (ha : nm a = true) (hb : nm b = true) (h0 : Ev to δ M (pce K p)) (h1 : Ev tv δ M d) : Ev (dMeth (m_says K) "says" wx to (dCons tv dNil)) δ M (oB (p.says a b)) := fun R q => by
  subst hd
  simp only [dMeth]
  refine h0 _ ?_
  simp only [insD_p]
  refine ⟨rfl, .inl ⟨rfl, ev_cons h1 ev_nil _ ⟨p, _, rfl, ok, odd_pl2 (odd_nm ha) (odd_nm hb), fun a' b' e _ _ => ?_, fun e => ?_⟩⟩⟩
  · cases e; exact q
  · rw [pl_of ha hb] at e; cases e
theorem ev_in {d : D} {w : Bool} (ok : p.ok) (ho : odd M 2 d) (hw : (∀ a b, d = .tup [.str a, .str b] → nm a = true → nm b = true → p.cov a b = w) ∧ (isPl d = false → w = false)) (h0 : Ev to δ M d) (h1 : Ev tv δ M (pce K p)) : Ev (dOp (dInO (m___contains__ K)) to tv) δ M (.bl w) := fun R q => by
  refine go_op (h0 _ (h1 _ ?_))
  unfold dInO
  rw [insD_p]
  refine .inl ⟨rfl, p, d, rfl, ok, ho, fun a b e ha hb => ?_, fun e => ?_⟩
  · rw [hw.1 a b e ha hb]; exact ⟨⟨_, rfl⟩, q⟩
  · rw [hw.2 e] at q; exact ⟨⟨_, rfl⟩, q⟩
theorem go_std (ok : p.ok) (h0 : Ev to δ M (pce K p)) (q : ∀ r, M r = none → Q (.ref r) (put M r (.lst p.std))) : dMeth (m_standing K) "standing" wx to dNil δ M Q := by
  simp only [dMeth]
  refine h0 _ ?_
  simp only [insD_p]
  exact ⟨rfl, .inl ⟨rfl, ev_nil _ ⟨p, rfl, ok, q⟩⟩⟩
theorem std_lay : (p.std).all (lay 59) = true := List.all_eq_true.mpr fun d hd => by
  obtain ⟨n, _, rfl⟩ := List.mem_map.mp ((srt_perm _).mem_iff.mp hd)
  rfl
theorem std_ne {r : Addr} {R : DK} (h : R (.bl false) (put M r (.lst p.std))) : dNe (.ref r) (.lst p.std) (put M r (.lst p.std)) R := by
  have e : res (put M r (.lst p.std)) (.ref r) = .lst p.std := res_ref put_same
  have l : lay 60 (.lst p.std) = true := std_lay
  rw [dNe_data (d := .ref r) (e := .lst p.std) (by rw [e]; exact l) l, e, res_lst, eqD_refl l]
  exact h
theorem ev_lstd (ok : p.ok) (h0 : Ev to δ M p.spec) : Ev (dCall (sp__law_standing K) wx (dCons to dNil)) δ M (.lst p.std) := fun R q => ev_call (ev_cons h0 ev_nil) ⟨p, rfl, ok, q⟩
end
section
variable {K : Frag} {mg : Str → Option Value} {base : Heap} {M M0 : DM} {Q : DK} {W : DXK} {E : DEnds} {q : Addr} {p : Pc} {ps ts : List D} {o0 o1 o7 o8 o9 o10 o11 : Option D}
abbrev stt (K : Frag) (q : Addr) (ps ts : List D) (p : Pc) (o0 o1 o7 o8 o9 o10 o11 : Option D) : DSt := [o0, o1, some (.ref q), some (.lst ps), some (.lst ts), some p.spec, some (pce K p), o7, o8, o9, o10, o11]
theorem says_cov {a b : Str} : p.cov a b = (p.says a b).isSome := by
  unfold Pc.says
  cases p.cov a b <;> rfl
theorem law1 {a b : Str} (ok : p.ok) (ha : nm a = true) (hb : nm b = true) (hn : E.nx (stt K q ps ts p o0 o1 (some (.tup [.str a, .str b])) (some (oB (p.says a b))) (some (oB (p.says a b))) o10 o11) M) : t_law_1 K W E (stt K q ps ts p o0 o1 (some (.tup [.str a, .str b])) (some (oB (p.says a b))) (some (oB (p.says a b))) o10 o11) M := by
  have en : ∀ M, Ev (dOp dIsNot (dVar 8) (dC .non)) (stt K q ps ts p o0 o1 (some (.tup [.str a, .str b])) (some (oB (p.says a b))) (some (oB (p.says a b))) o10 o11) M (.bl (p.says a b).isSome) := fun M => by
    have := ev_notnon (M := M) (te := dVar 8) (δ := stt K q ps ts p o0 o1 (some (.tup [.str a, .str b])) (some (oB (p.says a b))) (some (oB (p.says a b))) o10 o11) (d := oB (p.says a b)) (ev_var rfl)
    rw [show (!DL.isNon (oB (p.says a b))) = (p.says a b).isSome by cases p.says a b <;> rfl] at this
    exact this
  unfold t_law_1
  refine go_ifS (or_f (fun k => tst (ne_same (d := oB (p.says a b)) ?_ ?_ (ev_var rfl) (ev_var rfl)) rfl k) (fun k => or_f (fun k => ne_bl_t (w := (p.says a b).isSome) (fun R q => ev_cons (ev_var (d := oB (p.says a b)) rfl) (ev_cons ev_c ev_nil) _ (isi_bool ?_ ?_)) (en _)) (fun k => ne_bl_t (w := (p.says a b).isSome) (ev_in (d := .tup [.str a, .str b]) ok (odd_pl2 (odd_nm ha) (odd_nm hb)) ⟨fun a' b' e _ _ => ?_, fun e => ?_⟩ (ev_var rfl) (ev_var rfl)) (en _))) (itF (by simp) hn))
  · cases p.says a b <;> rfl
  · cases p.says a b <;> rfl
  · cases p.says a b <;> rfl
  · rw [show isBl (oB (p.says a b)) = (p.says a b).isSome by cases p.says a b <;> rfl]; exact q
  · cases e; exact says_cov
  · rw [pl_of ha hb] at e; cases e
theorem loop3 {keep : DM → Prop} (hk : ∀ M, keep M) (ok : p.ok) (hn : ∀ o7 o8 o9, E.nx (stt K q ps ts p o0 o1 o7 o8 o9 o10 o11) M) : ∀ (l : List Pr2) (o7 o8 o9 : Option D), (∀ x ∈ l, Pr2.ok x) → forR (dgN 7) (t_law_3 K W) keep E (l.map pD) (stt K q ps ts p o0 o1 o7 o8 o9 o10 o11) M
  | [], _, _, _, _ => ⟨hk _, hn _ _ _⟩
  | y :: l, o7, o8, o9, h => ⟨hk _, by
    obtain ⟨ha, hb⟩ := h y (List.mem_cons_self ..)
    show t_law_3 K W _ (stt K q ps ts p o0 o1 (some (.tup [.str y.1, .str y.2])) o8 o9 o10 o11) M
    unfold t_law_3
    refine seq_set (ev_call (ev_cons (ev_var rfl) (ev_cons (ev_var rfl) ev_nil)) ⟨p, y.1, y.2, rfl, ok, hb, ?_⟩)
    show t_law_2 K W _ (stt K q ps ts p o0 o1 (some (.tup [.str y.1, .str y.2])) (some (oB (p.says y.1 y.2))) o9 o10 o11) M
    unfold t_law_2
    refine seq_set (ev_says ok rfl ha hb (ev_var rfl) (ev_var rfl) _ ?_)
    exact law1 ok ha hb (loop3 hk ok hn l _ _ _ fun x hx => h x (List.mem_cons_of_mem _ hx))⟩
theorem law4 {vs : List D} (ok : p.ok) (hv : ∀ v ∈ vs, Str0 v) (hl : vs.length ≤ 50) (hn : E.nx (stt K q ps ts p o0 o1 o7 o8 o9 (some (.lst vs)) o11) M) : t_law_4 K W E (stt K q ps ts p o0 o1 o7 o8 o9 (some (.lst vs)) o11) M := by
  unfold t_law_4
  refine none_bad1 (xs := vs) (ev_var rfl) (by omega) (fun v hv' M' k h => ?_) hn
  have h0 := hv v hv'
  simp only [st1]
  refine or_f (fun k => tst (ev_in (d := v) ok (h0.o _) ⟨fun a b e ha hb => ?_, fun _ => rfl⟩ (ev_var rfl) (ev_var rfl)) rfl k) (fun k => not_t fun k => tst (b := true) (fun R q => ev_call (ev_cons (ev_var rfl) (ev_cons (ev_var rfl) ev_nil)) ⟨p, v, rfl, ok, h0, q⟩) rfl k) (by simpa using h)
  have := h0.n
  rw [e, pl_of ha hb] at this
  cases this
theorem law5 (hk : Ok K M q) (hw : Wld ps) (ok : p.ok) (hn : ∀ o10 M, TM lams K M → E.nx (stt K q ps ts p o0 o1 o7 o8 o9 o10 o11) M) : t_law_5 K W E (stt K q ps ts p o0 o1 o7 o8 o9 o10 o11) M := by
  have le := hw.le
  unfold t_law_5
  refine seq_set ?_
  show (dCons _ dNil) _ _ _
  refine go_c2 (draw_ix hk hk.dw hw.ne (by omega) (fun _ => ev_var rfl) (ev_var rfl) fun x hx M' d' => ev_nil _ ?_)
  obtain ⟨a, b, rfl, ha, hb⟩ := isPl_ex (hw.pl x hx)
  exact ⟨a, b, rfl, ha, hb, fun xs hxs hl => law4 ok hxs hl (hn _ _ (d'.tm hk))⟩
theorem law6 (hk : Ok K M q) (hw : Wld ps) (ok : p.ok) (hn : ∀ o10 M, TM lams K M → E.nx (stt K q ps ts p o0 o1 o7 o8 o9 o10 o11) M) : t_law_6 K W E (stt K q ps ts p o0 o1 o7 o8 o9 o10 o11) M := by
  unfold t_law_6
  refine seq_if (go_B (go_op (go_std ok (ev_var rfl) fun r hr => ev_lstd ok (ev_var rfl) _ (std_ne ?_))))
  exact itF (by simp) (law5 (hk.new hr) hw ok hn)
theorem law9 (hk : Ok K M q) (hw : Wld ps) (ok : p.ok) (hn : ∀ o9 o10 M, TM lams K M → E.nx (stt K q ps ts p o0 o1 o7 o8 o9 o10 o11) M) : t_law_9 K W E (stt K q ps ts p o0 o1 o7 o8 o9 o10 o11) M := by
  obtain ⟨x, r', rfl⟩ : ∃ x r', ps = x :: r' := by
    have := hw.ne
    cases ps with
    | nil => simp at this
    | cons x r' => exact ⟨x, r', rfl⟩
  unfold t_law_9
  refine seq_set (go_std ok (ev_var rfl) fun r hr => ?_)
  have ok1 := hk.new (o := .lst p.std) hr
  show t_law_8 K W E (stt K q (x :: r') ts p o0 o1 o7 o8 (some (.ref r)) o10 o11) (put M r (.lst p.std))
  unfold t_law_8
  refine skip_if (fun k => or_f (fun k => not_t fun k => val_t (b := true) fun R q => ev_cons (ev_var rfl) (ev_cons ev_c ev_nil) _ (isi_listR put_same q)) (fun k => val_t fun R q => go_op (ev_var rfl _ (ev_lstd ok (ev_var rfl) _ (std_ne q))))) ?_
  unfold t_law_7
  refine seq_app (ev_var rfl) put_same ?_ (ev_at (te := dVar 3) (ev_var rfl) ev_c at_0) ?_
  · have := ok.le
    rw [Pc.std, (srt_perm _).length_eq, List.length_map]; omega
  · exact law6 (ok1.wrote put_same (hk.ne hr)) hw ok fun o10 M ht => hn _ _ M ht
theorem law15 (hx : Fx K mg base) {ns : List Int} {i : Nat} {o2 o3 o4 o5 o6 : Option D} (ht : TM lams K M) (hl : ns.length ≤ 63) (hi : i < 1000) (hnx : ∀ o2 o3 o4 o5 o6 o7 o8 o9 o10 M, TM lams K M → E.nx [some (.scr (ns.map D.int)), some (.int i), o2, o3, o4, o5, o6, o7, o8, o9, o10, o11] M) : t_law_15 K W E [some (.scr (ns.map D.int)), some (.int i), o2, o3, o4, o5, o6, o7, o8, o9, o10, o11] M := by
  unfold t_law_15
  refine seq_set (ev_call (ev_cons (ev_var rfl) (ev_cons (ev_var rfl) ev_nil)) ⟨ns, i, rfl, hl, hi, fun p a b c hp ha => ?_⟩)
  have ok : Ok K (put M p (purse a b c)) p := ⟨⟨a, b, c, put_same, ha⟩, ht.put_none hp⟩
  show t_law_14 K W E [some (.scr (ns.map D.int)), some (.int i), some (.ref p), o3, o4, o5, o6, o7, o8, o9, o10, o11] (put M p (purse a b c))
  unfold t_law_14
  refine seq_set (ev_call (ev_cons (ev_var rfl) ev_nil) ⟨p, a, b, c, rfl, put_same, ha, fun ps hw => Dw.all fun M1 d1 => ?_⟩)
  have ok1 := d1.ok ok
  have le := hw.le
  show t_law_13 K W E [some (.scr (ns.map D.int)), some (.int i), some (.ref p), some (.lst ps), o4, o5, o6, o7, o8, o9, o10, o11] M1
  unfold t_law_13
  refine seq_set (lc_draw ok1 (ev_var rfl) (by omega) (fun x hx M0 M' k ok0 d0 h => ?_) fun ts hts M2 d2 => ?_)
  · simp only [st1]
    refine go_B (go_op (go_draw (n := 3) ok0 d0 (by decide) (by decide) (ev_var rfl) ev_c fun r M'' d'' h0 h1 => ev_c _ ?_))
    rw [dGt_ii]
    by_cases hr : 0 < r
    · rw [decide_eq_true hr]
      exact itT rfl (ev_var (d := x) rfl (fun d M2 => k (some d) M2) (h _ _ d'' (.inr rfl)))
    · rw [decide_eq_false hr]
      exact itF (by simp) (h _ _ d'' (.inl rfl))
  have ok2 := d2.ok ok1
  show t_law_12 K W E [some (.scr (ns.map D.int)), some (.int i), some (.ref p), some (.lst ps), some (.lst ts), o5, o6, o7, o8, o9, o10, o11] M2
  unfold t_law_12
  refine seq_set (ev_call (ev_cons (ev_var rfl) (ev_cons (ev_var rfl) (ev_cons (ev_var rfl) ev_nil))) ⟨p, ps, ts, rfl, ok2, hw, Some'.of hw hts, fun pc hpc => Dw.all fun M3 d3 => ?_⟩)
  have ok3 := d3.ok ok2
  show t_law_11 K W E [some (.scr (ns.map D.int)), some (.int i), some (.ref p), some (.lst ps), some (.lst ts), some pc.spec, o6, o7, o8, o9, o10, o11] M3
  unfold t_law_11
  refine seq_set (ev_call (ev_cons (ev_var rfl) ev_nil) ⟨pc, rfl, hpc, ?_⟩)
  show t_law_10 K W E (stt K p ps ts pc _ _ o7 o8 o9 o10 o11) M3
  unfold t_law_10
  show dCall (sp__law_around K) _ _ _ _ _
  refine ev_call (ev_cons (ev_var rfl) (ev_cons (ev_var rfl) (ev_cons (ev_var rfl) ev_nil))) ⟨p, ps, pc, rfl, ok3, hw, hpc, fun xs hxs hlx => Dw.all fun M4 d4 => ?_⟩
  obtain ⟨l, rfl, hl'⟩ := allPl_ex hxs
  have ok4 := d4.ok ok3
  show forR (dgN 7) (t_law_3 K W) (fun M2 => asR M2 (.lst (l.map pD)) = some (l.map pD)) { E with nx := t_law_9 K W E } (l.map pD) (stt K p ps ts pc _ _ o7 o8 o9 o10 o11) M4
  refine loop3 (fun _ => rfl) hpc (fun o7 o8 o9 => ?_) l _ _ _ hl'
  exact law9 ok4 hw hpc fun o9 o10 M ht => hnx _ _ _ _ _ _ _ _ _ M ht
theorem loop (hx : Fx K mg base) {ns : List Int} (hl : ns.length ≤ 63) (hnx : ∀ o1 o2 o3 o4 o5 o6 o7 o8 o9 o10 M, E.nx [some (.scr (ns.map D.int)), o1, o2, o3, o4, o5, o6, o7, o8, o9, o10, o11] M) : ∀ (n k : Nat) (M : DM) (o1 o2 o3 o4 o5 o6 o7 o8 o9 o10 : Option D), k + n ≤ 100 → TM lams K M → forR (dgN 1) (t_law_15 K W) (fun _ => True) E (rng k n) [some (.scr (ns.map D.int)), o1, o2, o3, o4, o5, o6, o7, o8, o9, o10, o11] M
  | 0, k, M, o1, o2, o3, o4, o5, o6, o7, o8, o9, o10, _, _ => ⟨trivial, hnx _ _ _ _ _ _ _ _ _ _ _⟩
  | n + 1, k, M, o1, o2, o3, o4, o5, o6, o7, o8, o9, o10, hk, ht => by
    rw [rng_succ]
    refine ⟨trivial, ?_⟩
    exact law15 hx (i := k) ht hl (by omega) fun o2 o3 o4 o5 o6 o7 o8 o9 o10 M ok => loop hx hl hnx n (k + 1) M _ _ _ _ _ _ _ _ _ _ (by omega) ok
theorem pure_law (hx : Fx K mg base) {ds : List D} (h : sp_law K ds M Q W) : t_law K W (endsF Q) (startD ["_law_script", "_law_at", "_law_purse_here", "_law_places", "_law_there", "_law_look", "_law_piece_here", "_law_place", "_law_due", "_law_told", "_law_strangers_here", "_law_one"] ds) M := by
  obtain ⟨ns, rfl, hl, ht, k⟩ := h
  unfold t_law
  refine seq_rng (ev_cons ev_c ev_nil) (by decide) ?_
  refine loop hx hl (fun o1 o2 o3 o4 o5 o6 o7 o8 o9 o10 M => ?_) 4 0 M _ _ _ _ _ _ _ _ _ _ (by decide) ht
  show t_law_16 K W (endsF Q) [some (.scr (ns.map D.int)), o1, o2, o3, o4, o5, o6, o7, o8, o9, o10, none] M
  unfold t_law_16
  exact go_ret (ev_c _ (up.mk (k _)))
theorem law_tells {ns : List Int} (hl : ns.length ≤ 63) (ht : TM lams K M) : sp_law K [.scr (ns.map D.int)] M (fun d _ => d = .bl true) (fun _ _ _ => False) := ⟨ns, rfl, hl, ht, fun _ => rfl⟩
end
end K06
set_option Elab.async false
set_option linter.all false
set_option maxRecDepth 100000
set_option maxHeartbeats 4000000
namespace K06
open PySem PySem.Spec PyProof.Rows L2 DX DL DH DS PL LM
section
variable {w : World} {K : Frag} {mg : Str → Option Value} {base : Heap}
theorem r_is_whole {cdv : Value} {A : Around} {outer : List Env} {s : Shared} {H : Hp} {E : XK} {F0 : Hp} {W : DXK} (hx : Fx K mg base)
    (c : Ctx (cxOf (L2.CX P w) P w K mg base ["value"] "is_whole" (defScope s_is_whole) (He.ga K "is_whole") cdv A outer s H E) F0 (dW W)) (hr : Room 0 (cxOf (L2.CX P w) P w K mg base ["value"] "is_whole" (defScope s_is_whole) (He.ga K "is_whole") cdv A outer s H E).A) :
    DPSs (cxOf (L2.CX P w) P w K mg base ["value"] "is_whole" (defScope s_is_whole) (He.ga K "is_whole") cdv A outer s H E) F0 (defBody s_is_whole) (t_is_whole K W) :=
  dss_one (ds_ret (dpe_and (dpe_callB cr_disi hx.b_isinstance (da_cons (dv 0) (da_cons ((dbltn hx.b_int Boot.«int»)) (da_nil)))) (dpe_one (dpe_not (dpe_callB cr_disi hx.b_isinstance (da_cons (dv 0) (da_cons ((dbltn hx.b_bool Boot.«bool»)) (da_nil))))))))
theorem Fx.kp_is_whole (hx : Fx K mg base) (w : World) (_ : Heap) : Keeps P w K mg base 1 "is_whole" "is_whole" (defArgs s_is_whole) (defBody s_is_whole) (defScope s_is_whole) [] (He.ga K "is_whole") ["value"] (sp_is_whole K) := by
  obtain ⟨fd, F⟩ := hx.fd_is_whole
  exact ⟨fd, F, dfn F sc_is_whole (fun ds M Q E h => by first | exact False.elim h | (obtain ⟨rfl, _⟩ := h; rfl) | (obtain ⟨_, rfl, _⟩ := h; rfl) | (obtain ⟨_, _, rfl, _⟩ := h; rfl) | (obtain ⟨_, _, _, rfl, _⟩ := h; rfl) | (obtain ⟨_, _, _, _, rfl, _⟩ := h; rfl) | (obtain ⟨_, _, _, _, _, rfl, _⟩ := h; rfl) | (obtain ⟨_, _, _, _, _, _, rfl, _⟩ := h; rfl) | (obtain ⟨_, _, _, _, _, _, _, rfl, _⟩ := h; rfl) | (obtain ⟨_, _, _, _, _, _, _, _, rfl, _⟩ := h; rfl) | (obtain ⟨_, _, _, _, _, _, _, _, _, rfl, _⟩ := h; rfl) | (obtain ⟨_, _, _, _, _, _, _, _, _, _, rfl, _⟩ := h; rfl) | (obtain ⟨_, _, _, _, _, _, _, _, _, _, _, rfl, _⟩ := h; rfl) | (obtain ⟨_, _, _, _, _, _, _, _, _, _, _, _, rfl, _⟩ := h; rfl) | (obtain ⟨_, _, _, _, _, _, _, _, _, _, _, _, _, rfl, _⟩ := h; rfl)) fun cdv A outer s H E F0 W c hr => ⟨t_is_whole K (upX W), r_is_whole hx c hr, fun ds M Q h => pure_is_whole hx h⟩⟩
theorem Fx.cal_is_whole (hx : Fx K mg base) (w : World) (_ : Heap) : DCal P w K mg base 1 "is_whole" (sp_is_whole K) := (hx.kp_is_whole w base).cal (fun fd F => F.bindsN fun _ _ _ _ _ _ us hl => match us, hl with | [_], _ => rfl) hx.g_is_whole
theorem r_is_name {cdv : Value} {A : Around} {outer : List Env} {s : Shared} {H : Hp} {E : XK} {F0 : Hp} {W : DXK} (hx : Fx K mg base)
    (c : Ctx (cxOf (L2.CX P w) P w K mg base ["value", "letter"] "is_name" (defScope s_is_name) (He.ga K "is_name") cdv A outer s H E) F0 (dW W)) (hr : Room 0 (cxOf (L2.CX P w) P w K mg base ["value", "letter"] "is_name" (defScope s_is_name) (He.ga K "is_name") cdv A outer s H E).A) :
    DPSs (cxOf (L2.CX P w) P w K mg base ["value", "letter"] "is_name" (defScope s_is_name) (He.ga K "is_name") cdv A outer s H E) F0 (defBody s_is_name) (t_is_name K W) :=
  dss_cons (ds_if (dpw (dpw_or (dpt_not (dpt_val (dpe_callB cr_disi hx.b_isinstance (da_cons (dv 0) (da_cons ((dbltn hx.b_str Boot.«str»)) (da_nil)))))) (dpw_or1 (dpt_not (dpt_chain (op_dcmp hr.units) (op_dcmp hr.units) (dint) (dpe_callB cr_dlen hx.b_len (da_cons (dv 0) (da_nil))) (dint)))))) (dss_one (ds_ret (dbl))) (dss_nil)) (dss_one (ds_ret (dpe_cmp (op_deq hr.units) (dpe_lc 1 c.calm c.nd (blk_of (N := ["value", "letter"]) (sc := defScope s_is_name) (by decide +kernel)) (dpi_seq (dv 0)) (fun s H C cl fp =>  pg_name (i := 1) c.nd rfl (Or.inl rfl) (.inr rfl)) (fun s H C cl fp =>  dts_one (dpt_cmp (op_dnin hr.units) (dv 1) (hx.e_ALPHABET))) (fun s H C cl fp =>  dv 1)) (dpe_lst (da_nil)))))
theorem Fx.kp_is_name (hx : Fx K mg base) (w : World) (_ : Heap) : Keeps P w K mg base 1 "is_name" "is_name" (defArgs s_is_name) (defBody s_is_name) (defScope s_is_name) [] (He.ga K "is_name") ["value"] (sp_is_name K) := by
  obtain ⟨fd, F⟩ := hx.fd_is_name
  exact ⟨fd, F, dfn F sc_is_name (fun ds M Q E h => by first | exact False.elim h | (obtain ⟨rfl, _⟩ := h; rfl) | (obtain ⟨_, rfl, _⟩ := h; rfl) | (obtain ⟨_, _, rfl, _⟩ := h; rfl) | (obtain ⟨_, _, _, rfl, _⟩ := h; rfl) | (obtain ⟨_, _, _, _, rfl, _⟩ := h; rfl) | (obtain ⟨_, _, _, _, _, rfl, _⟩ := h; rfl) | (obtain ⟨_, _, _, _, _, _, rfl, _⟩ := h; rfl) | (obtain ⟨_, _, _, _, _, _, _, rfl, _⟩ := h; rfl) | (obtain ⟨_, _, _, _, _, _, _, _, rfl, _⟩ := h; rfl) | (obtain ⟨_, _, _, _, _, _, _, _, _, rfl, _⟩ := h; rfl) | (obtain ⟨_, _, _, _, _, _, _, _, _, _, rfl, _⟩ := h; rfl) | (obtain ⟨_, _, _, _, _, _, _, _, _, _, _, rfl, _⟩ := h; rfl) | (obtain ⟨_, _, _, _, _, _, _, _, _, _, _, _, rfl, _⟩ := h; rfl) | (obtain ⟨_, _, _, _, _, _, _, _, _, _, _, _, _, rfl, _⟩ := h; rfl)) fun cdv A outer s H E F0 W c hr => ⟨t_is_name K (upX W), r_is_name hx c hr, fun ds M Q h => pure_is_name hx h⟩⟩
theorem Fx.cal_is_name (hx : Fx K mg base) (w : World) (_ : Heap) : DCal P w K mg base 1 "is_name" (sp_is_name K) := (hx.kp_is_name w base).cal (fun fd F => F.bindsN fun _ _ _ _ _ _ us hl => match us, hl with | [_], _ => rfl) hx.g_is_name
theorem r_is_place {cdv : Value} {A : Around} {outer : List Env} {s : Shared} {H : Hp} {E : XK} {F0 : Hp} {W : DXK} (hx : Fx K mg base)
    (c : Ctx (cxOf (L2.CX P w) P w K mg base ["value"] "is_place" (defScope s_is_place) (He.ga K "is_place") cdv A outer s H E) F0 (dW W)) (hr : Room 1 (cxOf (L2.CX P w) P w K mg base ["value"] "is_place" (defScope s_is_place) (He.ga K "is_place") cdv A outer s H E).A) :
    DPSs (cxOf (L2.CX P w) P w K mg base ["value"] "is_place" (defScope s_is_place) (He.ga K "is_place") cdv A outer s H E) F0 (defBody s_is_place) (t_is_place K W) :=
  dss_one (ds_ret (dpe_and (dpe_callB cr_disi hx.b_isinstance (da_cons (dv 0) (da_cons ((dbltn hx.b_tuple Boot.«tuple»)) (da_nil)))) (dpe_and (dpe_cmp (op_deq hr.units) (dpe_callB cr_dlen hx.b_len (da_cons (dv 0) (da_nil))) (dint)) (dpe_and (dpe_call c (hx.cal_is_name w base) (hr.mono (by decide)) (da_cons (dpe_ix (dv 0) (dint)) (da_nil))) (dpe_one (dpe_call c (hx.cal_is_name w base) (hr.mono (by decide)) (da_cons (dpe_ix (dv 0) (dint)) (da_nil))))))))
theorem Fx.kp_is_place (hx : Fx K mg base) (w : World) (_ : Heap) : Keeps P w K mg base 2 "is_place" "is_place" (defArgs s_is_place) (defBody s_is_place) (defScope s_is_place) [] (He.ga K "is_place") ["value"] (sp_is_place K) := by
  obtain ⟨fd, F⟩ := hx.fd_is_place
  exact ⟨fd, F, dfn F sc_is_place (fun ds M Q E h => by first | exact False.elim h | (obtain ⟨rfl, _⟩ := h; rfl) | (obtain ⟨_, rfl, _⟩ := h; rfl) | (obtain ⟨_, _, rfl, _⟩ := h; rfl) | (obtain ⟨_, _, _, rfl, _⟩ := h; rfl) | (obtain ⟨_, _, _, _, rfl, _⟩ := h; rfl) | (obtain ⟨_, _, _, _, _, rfl, _⟩ := h; rfl) | (obtain ⟨_, _, _, _, _, _, rfl, _⟩ := h; rfl) | (obtain ⟨_, _, _, _, _, _, _, rfl, _⟩ := h; rfl) | (obtain ⟨_, _, _, _, _, _, _, _, rfl, _⟩ := h; rfl) | (obtain ⟨_, _, _, _, _, _, _, _, _, rfl, _⟩ := h; rfl) | (obtain ⟨_, _, _, _, _, _, _, _, _, _, rfl, _⟩ := h; rfl) | (obtain ⟨_, _, _, _, _, _, _, _, _, _, _, rfl, _⟩ := h; rfl) | (obtain ⟨_, _, _, _, _, _, _, _, _, _, _, _, rfl, _⟩ := h; rfl) | (obtain ⟨_, _, _, _, _, _, _, _, _, _, _, _, _, rfl, _⟩ := h; rfl)) fun cdv A outer s H E F0 W c hr => ⟨t_is_place K (upX W), r_is_place hx c hr, fun ds M Q h => pure_is_place hx h⟩⟩
theorem Fx.cal_is_place (hx : Fx K mg base) (w : World) (_ : Heap) : DCal P w K mg base 2 "is_place" (sp_is_place K) := (hx.kp_is_place w base).cal (fun fd F => F.bindsN fun _ _ _ _ _ _ us hl => match us, hl with | [_], _ => rfl) hx.g_is_place
theorem r_check_name {cdv : Value} {A : Around} {outer : List Env} {s : Shared} {H : Hp} {E : XK} {F0 : Hp} {W : DXK} (hx : Fx K mg base)
    (c : Ctx (cxOf (L2.CX P w) P w K mg base ["value"] "check_name" (defScope s_check_name) (He.ga K "check_name") cdv A outer s H E) F0 (dW W)) (hr : Room 2 (cxOf (L2.CX P w) P w K mg base ["value"] "check_name" (defScope s_check_name) (He.ga K "check_name") cdv A outer s H E).A) :
    DPSs (cxOf (L2.CX P w) P w K mg base ["value"] "check_name" (defScope s_check_name) (He.ga K "check_name") cdv A outer s H E) F0 (defBody s_check_name) (t_check_name K W) :=
  dss_one (ds_if (dpt_not (dpt_val (dpe_call c (hx.cal_is_name w base) (hr.mono (by decide)) (da_cons (dv 0) (da_nil))))) (dss_one (ds_raise c (hx.dx_InvalidName w base 0) (hr.mono (by decide)) (da_cons (dv 0) (da_nil)))) (dss_nil))
theorem Fx.kp_check_name (hx : Fx K mg base) (w : World) (_ : Heap) : Keeps P w K mg base 3 "check_name" "check_name" (defArgs s_check_name) (defBody s_check_name) (defScope s_check_name) [] (He.ga K "check_name") ["value"] (sp_check_name K) := by
  obtain ⟨fd, F⟩ := hx.fd_check_name
  exact ⟨fd, F, dfn F sc_check_name (fun ds M Q E h => by first | exact False.elim h | (obtain ⟨rfl, _⟩ := h; rfl) | (obtain ⟨_, rfl, _⟩ := h; rfl) | (obtain ⟨_, _, rfl, _⟩ := h; rfl) | (obtain ⟨_, _, _, rfl, _⟩ := h; rfl) | (obtain ⟨_, _, _, _, rfl, _⟩ := h; rfl) | (obtain ⟨_, _, _, _, _, rfl, _⟩ := h; rfl) | (obtain ⟨_, _, _, _, _, _, rfl, _⟩ := h; rfl) | (obtain ⟨_, _, _, _, _, _, _, rfl, _⟩ := h; rfl) | (obtain ⟨_, _, _, _, _, _, _, _, rfl, _⟩ := h; rfl) | (obtain ⟨_, _, _, _, _, _, _, _, _, rfl, _⟩ := h; rfl) | (obtain ⟨_, _, _, _, _, _, _, _, _, _, rfl, _⟩ := h; rfl) | (obtain ⟨_, _, _, _, _, _, _, _, _, _, _, rfl, _⟩ := h; rfl) | (obtain ⟨_, _, _, _, _, _, _, _, _, _, _, _, rfl, _⟩ := h; rfl) | (obtain ⟨_, _, _, _, _, _, _, _, _, _, _, _, _, rfl, _⟩ := h; rfl)) fun cdv A outer s H E F0 W c hr => ⟨t_check_name K (upX W), r_check_name hx c hr, fun ds M Q h => pure_check_name hx h⟩⟩
theorem Fx.cal_check_name (hx : Fx K mg base) (w : World) (_ : Heap) : DCal P w K mg base 3 "check_name" (sp_check_name K) := (hx.kp_check_name w base).cal (fun fd F => F.bindsN fun _ _ _ _ _ _ us hl => match us, hl with | [_], _ => rfl) hx.g_check_name
theorem r_check_place {cdv : Value} {A : Around} {outer : List Env} {s : Shared} {H : Hp} {E : XK} {F0 : Hp} {W : DXK} (hx : Fx K mg base)
    (c : Ctx (cxOf (L2.CX P w) P w K mg base ["value"] "check_place" (defScope s_check_place) (He.ga K "check_place") cdv A outer s H E) F0 (dW W)) (hr : Room 2 (cxOf (L2.CX P w) P w K mg base ["value"] "check_place" (defScope s_check_place) (He.ga K "check_place") cdv A outer s H E).A) :
    DPSs (cxOf (L2.CX P w) P w K mg base ["value"] "check_place" (defScope s_check_place) (He.ga K "check_place") cdv A outer s H E) F0 (defBody s_check_place) (t_check_place K W) :=
  dss_one (ds_if (dpt_not (dpt_val (dpe_call c (hx.cal_is_place w base) (hr.mono (by decide)) (da_cons (dv 0) (da_nil))))) (dss_one (ds_raise c (hx.dx_InvalidPlace w base 0) (hr.mono (by decide)) (da_cons (dv 0) (da_nil)))) (dss_nil))
theorem Fx.kp_check_place (hx : Fx K mg base) (w : World) (_ : Heap) : Keeps P w K mg base 3 "check_place" "check_place" (defArgs s_check_place) (defBody s_check_place) (defScope s_check_place) [] (He.ga K "check_place") ["value"] (sp_check_place K) := by
  obtain ⟨fd, F⟩ := hx.fd_check_place
  exact ⟨fd, F, dfn F sc_check_place (fun ds M Q E h => by first | exact False.elim h | (obtain ⟨rfl, _⟩ := h; rfl) | (obtain ⟨_, rfl, _⟩ := h; rfl) | (obtain ⟨_, _, rfl, _⟩ := h; rfl) | (obtain ⟨_, _, _, rfl, _⟩ := h; rfl) | (obtain ⟨_, _, _, _, rfl, _⟩ := h; rfl) | (obtain ⟨_, _, _, _, _, rfl, _⟩ := h; rfl) | (obtain ⟨_, _, _, _, _, _, rfl, _⟩ := h; rfl) | (obtain ⟨_, _, _, _, _, _, _, rfl, _⟩ := h; rfl) | (obtain ⟨_, _, _, _, _, _, _, _, rfl, _⟩ := h; rfl) | (obtain ⟨_, _, _, _, _, _, _, _, _, rfl, _⟩ := h; rfl) | (obtain ⟨_, _, _, _, _, _, _, _, _, _, rfl, _⟩ := h; rfl) | (obtain ⟨_, _, _, _, _, _, _, _, _, _, _, rfl, _⟩ := h; rfl) | (obtain ⟨_, _, _, _, _, _, _, _, _, _, _, _, rfl, _⟩ := h; rfl) | (obtain ⟨_, _, _, _, _, _, _, _, _, _, _, _, _, rfl, _⟩ := h; rfl)) fun cdv A outer s H E F0 W c hr => ⟨t_check_place K (upX W), r_check_place hx c hr, fun ds M Q h => pure_check_place hx h⟩⟩
theorem Fx.cal_check_place (hx : Fx K mg base) (w : World) (_ : Heap) : DCal P w K mg base 3 "check_place" (sp_check_place K) := (hx.kp_check_place w base).cal (fun fd F => F.bindsN fun _ _ _ _ _ _ us hl => match us, hl with | [_], _ => rfl) hx.g_check_place
theorem r_is_order {cdv : Value} {A : Around} {outer : List Env} {s : Shared} {H : Hp} {E : XK} {F0 : Hp} {W : DXK} (hx : Fx K mg base)
    (c : Ctx (cxOf (L2.CX P w) P w K mg base ["letters", "chains"] "is_order" (defScope s_is_order) (He.ga K "is_order") cdv A outer s H E) F0 (dW W)) (hr : Room 1 (cxOf (L2.CX P w) P w K mg base ["letters", "chains"] "is_order" (defScope s_is_order) (He.ga K "is_order") cdv A outer s H E).A) :
    DPSs (cxOf (L2.CX P w) P w K mg base ["letters", "chains"] "is_order" (defScope s_is_order) (He.ga K "is_order") cdv A outer s H E) F0 (defBody s_is_order) (t_is_order K W) :=
  dss_cons (ds_if (dpw (dpw_or (dpt_not (dpt_val (dpe_callB cr_disi hx.b_isinstance (da_cons (dv 0) (da_cons ((dbltn hx.b_str Boot.«str»)) (da_nil)))))) (dpw_or1 (dpt_cmp (op_dne hr.units) (dpe_callB (cr_dsortedS c.calm) hx.b_sorted (da_cons (dv 0) (da_nil))) (dpe_callTy (cr_dlistS c.calm) hx.b_list (da_cons (hx.e_ALPHABET) (da_nil))))))) (dss_one (ds_ret (dbl))) (dss_nil)) (dss_one (ds_ret (dpe_and (dpe_call c (hx.cal_is_whole w base) (hr.mono (by decide)) (da_cons (dv 1) (da_nil))) (dpe_one (dpe_chain (op_dcmp hr.units) (op_dcmp hr.units) (dint) (dv 1) (hx.e_MOST_CHAINS))))))
theorem Fx.kp_is_order (hx : Fx K mg base) (w : World) (_ : Heap) : Keeps P w K mg base 2 "is_order" "is_order" (defArgs s_is_order) (defBody s_is_order) (defScope s_is_order) [] (He.ga K "is_order") ["letters", "chains"] (sp_is_order K) := by
  obtain ⟨fd, F⟩ := hx.fd_is_order
  exact ⟨fd, F, dfn F sc_is_order (fun ds M Q E h => by first | exact False.elim h | (obtain ⟨rfl, _⟩ := h; rfl) | (obtain ⟨_, rfl, _⟩ := h; rfl) | (obtain ⟨_, _, rfl, _⟩ := h; rfl) | (obtain ⟨_, _, _, rfl, _⟩ := h; rfl) | (obtain ⟨_, _, _, _, rfl, _⟩ := h; rfl) | (obtain ⟨_, _, _, _, _, rfl, _⟩ := h; rfl) | (obtain ⟨_, _, _, _, _, _, rfl, _⟩ := h; rfl) | (obtain ⟨_, _, _, _, _, _, _, rfl, _⟩ := h; rfl) | (obtain ⟨_, _, _, _, _, _, _, _, rfl, _⟩ := h; rfl) | (obtain ⟨_, _, _, _, _, _, _, _, _, rfl, _⟩ := h; rfl) | (obtain ⟨_, _, _, _, _, _, _, _, _, _, rfl, _⟩ := h; rfl) | (obtain ⟨_, _, _, _, _, _, _, _, _, _, _, rfl, _⟩ := h; rfl) | (obtain ⟨_, _, _, _, _, _, _, _, _, _, _, _, rfl, _⟩ := h; rfl) | (obtain ⟨_, _, _, _, _, _, _, _, _, _, _, _, _, rfl, _⟩ := h; rfl)) fun cdv A outer s H E F0 W c hr => ⟨t_is_order K (upX W), r_is_order hx c hr, fun ds M Q h => pure_is_order hx h⟩⟩
theorem Fx.cal_is_order (hx : Fx K mg base) (w : World) (_ : Heap) : DCal P w K mg base 2 "is_order" (sp_is_order K) := (hx.kp_is_order w base).cal (fun fd F => F.bindsN fun _ _ _ _ _ _ us hl => match us, hl with | [_, _], _ => rfl) hx.g_is_order
theorem r_key_in {cdv : Value} {A : Around} {outer : List Env} {s : Shared} {H : Hp} {E : XK} {F0 : Hp} {W : DXK} (hx : Fx K mg base)
    (c : Ctx (cxOf (L2.CX P w) P w K mg base ["letters", "chains", "name", "ranks", "letter"] "key_in" (defScope s_key_in) (He.ga K "key_in") cdv A outer s H E) F0 (dW W)) (hr : Room 0 (cxOf (L2.CX P w) P w K mg base ["letters", "chains", "name", "ranks", "letter"] "key_in" (defScope s_key_in) (He.ga K "key_in") cdv A outer s H E).A) :
    DPSs (cxOf (L2.CX P w) P w K mg base ["letters", "chains", "name", "ranks", "letter"] "key_in" (defScope s_key_in) (He.ga K "key_in") cdv A outer s H E) F0 (defBody s_key_in) (t_key_in K W) :=
  dss_cons (ds_set 3 c.nd (dpe_callTy cr_dtuple hx.b_tuple (da_cons (dpe_lc 4 c.calm c.nd (blk_of (N := ["letters", "chains", "name", "ranks", "letter"]) (sc := defScope s_key_in) (by decide +kernel)) (dpi_seq (dv 2)) (fun s H C cl fp =>  pg_name (i := 4) c.nd rfl (Or.inl rfl) (.inr rfl)) (fun s H C cl fp =>  dts_nil) (fun s H C cl fp =>  dpe_bm PySem.F.plainAttrs_str PySem.F.slot_str_index PySem.F.type_str_index mt_dindexS (dv 0) (da_cons (dv 4) (da_nil)))) (da_nil)))) (dss_one (ds_ret (dpe_tup (da_cons (dpe_op op_dmod (dpe_callB (cr_dsumT c.calm) hx.b_sum (da_cons (dv 3) (da_nil))) (dv 1)) (da_cons (dv 3) (da_nil))))))
theorem Fx.kp_key_in (hx : Fx K mg base) (w : World) (_ : Heap) : Keeps P w K mg base 1 "key_in" "key_in" (defArgs s_key_in) (defBody s_key_in) (defScope s_key_in) [] (He.ga K "key_in") ["letters", "chains", "name"] (sp_key_in K) := by
  obtain ⟨fd, F⟩ := hx.fd_key_in
  exact ⟨fd, F, dfn F sc_key_in (fun ds M Q E h => by first | exact False.elim h | (obtain ⟨rfl, _⟩ := h; rfl) | (obtain ⟨_, rfl, _⟩ := h; rfl) | (obtain ⟨_, _, rfl, _⟩ := h; rfl) | (obtain ⟨_, _, _, rfl, _⟩ := h; rfl) | (obtain ⟨_, _, _, _, rfl, _⟩ := h; rfl) | (obtain ⟨_, _, _, _, _, rfl, _⟩ := h; rfl) | (obtain ⟨_, _, _, _, _, _, rfl, _⟩ := h; rfl) | (obtain ⟨_, _, _, _, _, _, _, rfl, _⟩ := h; rfl) | (obtain ⟨_, _, _, _, _, _, _, _, rfl, _⟩ := h; rfl) | (obtain ⟨_, _, _, _, _, _, _, _, _, rfl, _⟩ := h; rfl) | (obtain ⟨_, _, _, _, _, _, _, _, _, _, rfl, _⟩ := h; rfl) | (obtain ⟨_, _, _, _, _, _, _, _, _, _, _, rfl, _⟩ := h; rfl) | (obtain ⟨_, _, _, _, _, _, _, _, _, _, _, _, rfl, _⟩ := h; rfl) | (obtain ⟨_, _, _, _, _, _, _, _, _, _, _, _, _, rfl, _⟩ := h; rfl)) fun cdv A outer s H E F0 W c hr => ⟨t_key_in K (upX W), r_key_in hx c hr, fun ds M Q h => pure_key_in hx h⟩⟩
theorem Fx.cal_key_in (hx : Fx K mg base) (w : World) (_ : Heap) : DCal P w K mg base 1 "key_in" (sp_key_in K) := (hx.kp_key_in w base).cal (fun fd F => F.bindsN fun _ _ _ _ _ _ us hl => match us, hl with | [_, _, _], _ => rfl) hx.g_key_in
theorem r_Form___init__ {cdv : Value} {A : Around} {outer : List Env} {s : Shared} {H : Hp} {E : XK} {F0 : Hp} {W : DXK} (hx : Fx K mg base)
    (c : Ctx (cxOf (L2.CX P w) P w K mg base ["self", "letters", "chains"] "Form.__init__" (defScope s_Form___init__) (He.ma K (He.ga K "Form") "__init__") cdv A outer s H E) F0 (dW W)) (hr : Room 2 (cxOf (L2.CX P w) P w K mg base ["self", "letters", "chains"] "Form.__init__" (defScope s_Form___init__) (He.ma K (He.ga K "Form") "__init__") cdv A outer s H E).A) :
    DPSs (cxOf (L2.CX P w) P w K mg base ["self", "letters", "chains"] "Form.__init__" (defScope s_Form___init__) (He.ma K (He.ga K "Form") "__init__") cdv A outer s H E) F0 (defBody s_Form___init__) (t_Form___init__ K W) :=
  dss_cons (ds_if (dpt_not (dpt_val (dpe_call c (hx.cal_is_order w base) (hr.mono (by decide)) (da_cons (dv 1) (da_cons (dv 2) (da_nil)))))) (dss_one (ds_raise c (hx.dx_InvalidForm w base 0) (hr.mono (by decide)) (da_cons (dpe_tup (da_cons (dv 1) (da_cons (dv 2) (da_nil)))) (da_nil)))) (dss_nil)) (dss_cons (ds_fld (dv 0) (dv 1)) (dss_one (ds_fld (dv 0) (dv 2))))
theorem Fx.kp_Form___init__ (hx : Fx K mg base) (w : World) (_ : Heap) : Keeps P w K mg base 3 "__init__" "Form.__init__" (defArgs s_Form___init__) (defBody s_Form___init__) (defScope s_Form___init__) [.str "abcdefghijklmnopqrstuvwxyz", .int 1] (He.ma K (He.ga K "Form") "__init__") ["self", "letters", "chains"] (sp_Form___init__ K) := by
  obtain ⟨fd, F⟩ := hx.fd_Form___init__
  exact ⟨fd, F, dfn F sc_Form___init__ (fun ds M Q E h => by first | exact False.elim h | (obtain ⟨rfl, _⟩ := h; rfl) | (obtain ⟨_, rfl, _⟩ := h; rfl) | (obtain ⟨_, _, rfl, _⟩ := h; rfl) | (obtain ⟨_, _, _, rfl, _⟩ := h; rfl) | (obtain ⟨_, _, _, _, rfl, _⟩ := h; rfl) | (obtain ⟨_, _, _, _, _, rfl, _⟩ := h; rfl) | (obtain ⟨_, _, _, _, _, _, rfl, _⟩ := h; rfl) | (obtain ⟨_, _, _, _, _, _, _, rfl, _⟩ := h; rfl) | (obtain ⟨_, _, _, _, _, _, _, _, rfl, _⟩ := h; rfl) | (obtain ⟨_, _, _, _, _, _, _, _, _, rfl, _⟩ := h; rfl) | (obtain ⟨_, _, _, _, _, _, _, _, _, _, rfl, _⟩ := h; rfl) | (obtain ⟨_, _, _, _, _, _, _, _, _, _, _, rfl, _⟩ := h; rfl) | (obtain ⟨_, _, _, _, _, _, _, _, _, _, _, _, rfl, _⟩ := h; rfl) | (obtain ⟨_, _, _, _, _, _, _, _, _, _, _, _, _, rfl, _⟩ := h; rfl)) fun cdv A outer s H E F0 W c hr => ⟨t_Form___init__ K (upX W), r_Form___init__ hx c hr, fun ds M Q h => pure_Form___init__ hx h⟩⟩
theorem Fx.mak_Form2 (hx : Fx K mg base) (w : World) (_ : Heap) : DMak P w K mg base 3 "Form" (mk_Form2 K) :=
  (hx.kp_Form___init__ w base).mak (dd := []) 3 2 (by simp) rfl (fun _ _ _ _ _ _ _ us its h1 h2 => match us, its, h1, h2 with | [_, _, _], [_, _], _, _ => ⟨_, rfl, rfl⟩) (fun F => RepL.nil) hx.g_Form hx.mk_Form (fun as M Q E h q hq => mkl_Form2 hx h hq)
theorem r_Form___call__ {cdv : Value} {A : Around} {outer : List Env} {s : Shared} {H : Hp} {E : XK} {F0 : Hp} {W : DXK} (hx : Fx K mg base)
    (c : Ctx (cxOf (L2.CX P w) P w K mg base ["self", "name"] "Form.__call__" (defScope s_Form___call__) (He.ma K (He.ga K "Form") "__call__") cdv A outer s H E) F0 (dW W)) (hr : Room 3 (cxOf (L2.CX P w) P w K mg base ["self", "name"] "Form.__call__" (defScope s_Form___call__) (He.ma K (He.ga K "Form") "__call__") cdv A outer s H E).A) :
    DPSs (cxOf (L2.CX P w) P w K mg base ["self", "name"] "Form.__call__" (defScope s_Form___call__) (He.ma K (He.ga K "Form") "__call__") cdv A outer s H E) F0 (defBody s_Form___call__) (t_Form___call__ K W) :=
  dss_cons (ds_expr (dpe_call c (hx.cal_check_name w base) (hr.mono (by decide)) (da_cons (dv 1) (da_nil)))) (dss_one (ds_ret (dpe_call c (hx.cal_key_in w base) (hr.mono (by decide)) (da_cons (dpe_fld (dv 0)) (da_cons (dpe_fld (dv 0)) (da_cons (dv 1) (da_nil)))))))
theorem Fx.kp_Form___call__ (hx : Fx K mg base) (w : World) (_ : Heap) : Keeps P w K mg base 4 "__call__" "Form.__call__" (defArgs s_Form___call__) (defBody s_Form___call__) (defScope s_Form___call__) [] (He.ma K (He.ga K "Form") "__call__") ["self", "name"] (sp_Form___call__ K) := by
  obtain ⟨fd, F⟩ := hx.fd_Form___call__
  exact ⟨fd, F, dfn F sc_Form___call__ (fun ds M Q E h => by first | exact False.elim h | (obtain ⟨rfl, _⟩ := h; rfl) | (obtain ⟨_, rfl, _⟩ := h; rfl) | (obtain ⟨_, _, rfl, _⟩ := h; rfl) | (obtain ⟨_, _, _, rfl, _⟩ := h; rfl) | (obtain ⟨_, _, _, _, rfl, _⟩ := h; rfl) | (obtain ⟨_, _, _, _, _, rfl, _⟩ := h; rfl) | (obtain ⟨_, _, _, _, _, _, rfl, _⟩ := h; rfl) | (obtain ⟨_, _, _, _, _, _, _, rfl, _⟩ := h; rfl) | (obtain ⟨_, _, _, _, _, _, _, _, rfl, _⟩ := h; rfl) | (obtain ⟨_, _, _, _, _, _, _, _, _, rfl, _⟩ := h; rfl) | (obtain ⟨_, _, _, _, _, _, _, _, _, _, rfl, _⟩ := h; rfl) | (obtain ⟨_, _, _, _, _, _, _, _, _, _, _, rfl, _⟩ := h; rfl) | (obtain ⟨_, _, _, _, _, _, _, _, _, _, _, _, rfl, _⟩ := h; rfl) | (obtain ⟨_, _, _, _, _, _, _, _, _, _, _, _, _, rfl, _⟩ := h; rfl)) fun cdv A outer s H E F0 W c hr => ⟨t_Form___call__ K (upX W), r_Form___call__ hx c hr, fun ds M Q h => pure_Form___call__ hx h⟩⟩
theorem Fx.dm___call__ (hx : Fx K mg base) (w : World) (_ : Heap) : DMets P w K mg base 4 "__call__" (m___call__ K) := ⟨DH.DMet.lift ((hx.kp_Form___call__ w base).met (fun fd F => F.bindsN fun _ _ _ _ _ _ us hl => match us, hl with | [_, _], _ => rfl) hx.cl_Form hx.me_Form___call__) (by decide), trivial⟩
theorem Fx.ow___call__ (hx : Fx K mg base) : Owns K "__call__" (m___call__ K) := Owns.cons hx.ob_Form___call__ (Owns.nil)
theorem r_are_names_behind {cdv : Value} {A : Around} {outer : List Env} {s : Shared} {H : Hp} {E : XK} {F0 : Hp} {W : DXK} (hx : Fx K mg base)
    (c : Ctx (cxOf (L2.CX P w) P w K mg base ["form", "mark", "names", "keys", "name", "at"] "are_names_behind" (defScope s_are_names_behind) (He.ga K "are_names_behind") cdv A outer s H E) F0 (dW W)) (hr : Room 4 (cxOf (L2.CX P w) P w K mg base ["form", "mark", "names", "keys", "name", "at"] "are_names_behind" (defScope s_are_names_behind) (He.ga K "are_names_behind") cdv A outer s H E).A) :
    DPSs (cxOf (L2.CX P w) P w K mg base ["form", "mark", "names", "keys", "name", "at"] "are_names_behind" (defScope s_are_names_behind) (He.ga K "are_names_behind") cdv A outer s H E) F0 (defBody s_are_names_behind) (t_are_names_behind K W) :=
  dss_cons (ds_if (dpw (dpw_or (dpt_not (dpt_val (dpe_callB cr_disi hx.b_isinstance (da_cons (dv 2) (da_cons ((dbltn hx.b_list Boot.«list»)) (da_nil)))))) (dpw_or1 (dpt_cmp (op_dne hr.units) (dpe_lc 4 c.calm c.nd (blk_of (N := ["form", "mark", "names", "keys", "name", "at"]) (sc := defScope s_are_names_behind) (by decide +kernel)) (dpi_seq (dv 2)) (fun s H C cl fp =>  pg_name (i := 4) c.nd rfl (Or.inl rfl) (.inr rfl)) (fun s H C cl fp =>  dts_one (dpt_not (dpt_val (dpe_call c.blk (hx.cal_is_name w base) (hr.mono (by decide)) (da_cons (dv 4) (da_nil)))))) (fun s H C cl fp =>  dv 4)) (dpe_lst (da_nil)))))) (dss_one (ds_ret (dbl))) (dss_nil)) (dss_cons (ds_set 3 c.nd (dpe_lc 4 c.calm c.nd (blk_of (N := ["form", "mark", "names", "keys", "name", "at"]) (sc := defScope s_are_names_behind) (by decide +kernel)) (dpi_seq (dv 2)) (fun s H C cl fp =>  pg_name (i := 4) c.nd rfl (Or.inl rfl) (.inr rfl)) (fun s H C cl fp =>  dts_nil) (fun s H C cl fp =>  dpe_inst c.blk (hx.dm___call__ w base) hx.ow___call__ (hr.mono (by decide)) (dv 0) (da_cons (dv 4) (da_nil))))) (dss_cons (ds_if (dpt_cmp (op_disnot) (dv 1) (dnon)) (dss_one (ds_set 3 c.nd (dpe_op op_dadd (dpe_lst (da_cons (dpe_inst c (hx.dm___call__ w base) hx.ow___call__ (hr.mono (by decide)) (dv 0) (da_cons (dv 1) (da_nil))) (da_nil))) (dv 3)))) (dss_nil)) (dss_one (ds_ret (dpe_cmp (op_deq hr.units) (dpe_lc 5 c.calm c.nd (blk_of (N := ["form", "mark", "names", "keys", "name", "at"]) (sc := defScope s_are_names_behind) (by decide +kernel)) (dpi_range2 hx.b_range (da_cons (dint) (da_cons (dpe_callB cr_dlen hx.b_len (da_cons (dv 3) (da_nil))) (da_nil)))) (fun s H C cl fp =>  pg_name (i := 5) c.nd rfl (Or.inl rfl) (.inr rfl)) (fun s H C cl fp =>  dts_one (dpt_cmp (op_dcmp hr.units) (dpe_ix (dv 3) (dpe_op op_dsub (dv 5) (dint))) (dpe_ix (dv 3) (dv 5)))) (fun s H C cl fp =>  dv 5)) (dpe_lst (da_nil)))))))
theorem Fx.kp_are_names_behind (hx : Fx K mg base) (w : World) (_ : Heap) : Keeps P w K mg base 5 "are_names_behind" "are_names_behind" (defArgs s_are_names_behind) (defBody s_are_names_behind) (defScope s_are_names_behind) [] (He.ga K "are_names_behind") ["form", "mark", "names"] (sp_are_names_behind K) := by
  obtain ⟨fd, F⟩ := hx.fd_are_names_behind
  exact ⟨fd, F, dfn F sc_are_names_behind (fun ds M Q E h => by first | exact False.elim h | (obtain ⟨rfl, _⟩ := h; rfl) | (obtain ⟨_, rfl, _⟩ := h; rfl) | (obtain ⟨_, _, rfl, _⟩ := h; rfl) | (obtain ⟨_, _, _, rfl, _⟩ := h; rfl) | (obtain ⟨_, _, _, _, rfl, _⟩ := h; rfl) | (obtain ⟨_, _, _, _, _, rfl, _⟩ := h; rfl) | (obtain ⟨_, _, _, _, _, _, rfl, _⟩ := h; rfl) | (obtain ⟨_, _, _, _, _, _, _, rfl, _⟩ := h; rfl) | (obtain ⟨_, _, _, _, _, _, _, _, rfl, _⟩ := h; rfl) | (obtain ⟨_, _, _, _, _, _, _, _, _, rfl, _⟩ := h; rfl) | (obtain ⟨_, _, _, _, _, _, _, _, _, _, rfl, _⟩ := h; rfl) | (obtain ⟨_, _, _, _, _, _, _, _, _, _, _, rfl, _⟩ := h; rfl) | (obtain ⟨_, _, _, _, _, _, _, _, _, _, _, _, rfl, _⟩ := h; rfl) | (obtain ⟨_, _, _, _, _, _, _, _, _, _, _, _, _, rfl, _⟩ := h; rfl)) fun cdv A outer s H E F0 W c hr => ⟨t_are_names_behind K (upX W), r_are_names_behind hx c hr, fun ds M Q h => pure_are_names_behind hx h⟩⟩
theorem Fx.cal_are_names_behind (hx : Fx K mg base) (w : World) (_ : Heap) : DCal P w K mg base 5 "are_names_behind" (sp_are_names_behind K) := (hx.kp_are_names_behind w base).cal (fun fd F => F.bindsN fun _ _ _ _ _ _ us hl => match us, hl with | [_, _, _], _ => rfl) hx.g_are_names_behind
theorem r_is_piece {cdv : Value} {A : Around} {outer : List Env} {s : Shared} {H : Hp} {E : XK} {F0 : Hp} {W : DXK} (hx : Fx K mg base)
    (c : Ctx (cxOf (L2.CX P w) P w K mg base ["folder", "form", "mark", "names", "ended"] "is_piece" (defScope s_is_piece) (He.ga K "is_piece") cdv A outer s H E) F0 (dW W)) (hr : Room 5 (cxOf (L2.CX P w) P w K mg base ["folder", "form", "mark", "names", "ended"] "is_piece" (defScope s_is_piece) (He.ga K "is_piece") cdv A outer s H E).A) :
    DPSs (cxOf (L2.CX P w) P w K mg base ["folder", "form", "mark", "names", "ended"] "is_piece" (defScope s_is_piece) (He.ga K "is_piece") cdv A outer s H E) F0 (defBody s_is_piece) (t_is_piece K W) :=
  dss_cons (ds_if (dpw (dpw_or (dpt_not (dpt_val (dpe_call c (hx.cal_is_name w base) (hr.mono (by decide)) (da_cons (dv 0) (da_nil))))) (dpw_or (dpt_not (dpt_val (dpe_callB cr_disi hx.b_isinstance (da_cons (dv 1) (da_cons ((dglobr hx.g_Form)) (da_nil)))))) (dpw_or1 (dpt_not (dpt_val (dpe_callB cr_disi hx.b_isinstance (da_cons (dv 4) (da_cons ((dbltn hx.b_bool Boot.«bool»)) (da_nil)))))))))) (dss_one (ds_ret (dbl))) (dss_nil)) (dss_cons (ds_if (dpw (dpw_and (dpt_cmp (op_disnot) (dv 2) (dnon)) (dpw_and1 (dpt_not (dpt_val (dpe_call c (hx.cal_is_name w base) (hr.mono (by decide)) (da_cons (dv 2) (da_nil)))))))) (dss_one (ds_ret (dbl))) (dss_nil)) (dss_one (ds_ret (dpe_and (dpe_call c (hx.cal_are_names_behind w base) (hr.mono (by decide)) (da_cons (dv 1) (da_cons (dv 2) (da_cons (dv 3) (da_nil))))) (dpe_one (dpe_or (dv 4) (dpe_one (dpe_cmp (op_dne hr.units) (dv 3) (dpe_lst (da_nil))))))))))
theorem Fx.kp_is_piece (hx : Fx K mg base) (w : World) (_ : Heap) : Keeps P w K mg base 6 "is_piece" "is_piece" (defArgs s_is_piece) (defBody s_is_piece) (defScope s_is_piece) [] (He.ga K "is_piece") ["folder", "form", "mark", "names", "ended"] (sp_is_piece K) := by
  obtain ⟨fd, F⟩ := hx.fd_is_piece
  exact ⟨fd, F, dfn F sc_is_piece (fun ds M Q E h => by first | exact False.elim h | (obtain ⟨rfl, _⟩ := h; rfl) | (obtain ⟨_, rfl, _⟩ := h; rfl) | (obtain ⟨_, _, rfl, _⟩ := h; rfl) | (obtain ⟨_, _, _, rfl, _⟩ := h; rfl) | (obtain ⟨_, _, _, _, rfl, _⟩ := h; rfl) | (obtain ⟨_, _, _, _, _, rfl, _⟩ := h; rfl) | (obtain ⟨_, _, _, _, _, _, rfl, _⟩ := h; rfl) | (obtain ⟨_, _, _, _, _, _, _, rfl, _⟩ := h; rfl) | (obtain ⟨_, _, _, _, _, _, _, _, rfl, _⟩ := h; rfl) | (obtain ⟨_, _, _, _, _, _, _, _, _, rfl, _⟩ := h; rfl) | (obtain ⟨_, _, _, _, _, _, _, _, _, _, rfl, _⟩ := h; rfl) | (obtain ⟨_, _, _, _, _, _, _, _, _, _, _, rfl, _⟩ := h; rfl) | (obtain ⟨_, _, _, _, _, _, _, _, _, _, _, _, rfl, _⟩ := h; rfl) | (obtain ⟨_, _, _, _, _, _, _, _, _, _, _, _, _, rfl, _⟩ := h; rfl)) fun cdv A outer s H E F0 W c hr => ⟨t_is_piece K (upX W), r_is_piece hx c hr, fun ds M Q h => pure_is_piece hx h⟩⟩
theorem Fx.cal_is_piece (hx : Fx K mg base) (w : World) (_ : Heap) : DCal P w K mg base 6 "is_piece" (sp_is_piece K) := (hx.kp_is_piece w base).cal (fun fd F => F.bindsN fun _ _ _ _ _ _ us hl => match us, hl with | [_, _, _, _, _], _ => rfl) hx.g_is_piece
theorem r_Piece___init__ {cdv : Value} {A : Around} {outer : List Env} {s : Shared} {H : Hp} {E : XK} {F0 : Hp} {W : DXK} (hx : Fx K mg base)
    (c : Ctx (cxOf (L2.CX P w) P w K mg base ["self", "folder", "form", "mark", "names", "ended"] "Piece.__init__" (defScope s_Piece___init__) (He.ma K (He.ga K "Piece") "__init__") cdv A outer s H E) F0 (dW W)) (hr : Room 6 (cxOf (L2.CX P w) P w K mg base ["self", "folder", "form", "mark", "names", "ended"] "Piece.__init__" (defScope s_Piece___init__) (He.ma K (He.ga K "Piece") "__init__") cdv A outer s H E).A) :
    DPSs (cxOf (L2.CX P w) P w K mg base ["self", "folder", "form", "mark", "names", "ended"] "Piece.__init__" (defScope s_Piece___init__) (He.ma K (He.ga K "Piece") "__init__") cdv A outer s H E) F0 (defBody s_Piece___init__) (t_Piece___init__ K W) :=
  dss_cons (ds_if (dpt_not (dpt_val (dpe_call c (hx.cal_is_piece w base) (hr.mono (by decide)) (da_cons (dv 1) (da_cons (dv 2) (da_cons (dv 3) (da_cons (dv 4) (da_cons (dv 5) (da_nil))))))))) (dss_one (ds_raise c (hx.dx_InvalidLook w base 0) (hr.mono (by decide)) (da_cons (dpe_tup (da_cons (dv 1) (da_cons (dv 2) (da_cons (dv 3) (da_cons (dv 4) (da_cons (dv 5) (da_nil))))))) (da_nil)))) (dss_nil)) (dss_cons (ds_fld (dv 0) (dv 1)) (dss_cons (ds_fld (dv 0) (dv 2)) (dss_cons (ds_fld (dv 0) (dv 3)) (dss_cons (ds_fld (dv 0) (dpe_callTy cr_dtuple hx.b_tuple (da_cons (dv 4) (da_nil)))) (dss_cons (ds_fld (dv 0) (dv 5)) (dss_cons (ds_fld (dv 0) (dpe_if (dpt_cmp (op_dis) (dv 3) (dnon)) (dnon) (dpe_inst c (hx.dm___call__ w base) hx.ow___call__ (hr.mono (by decide)) (dv 2) (da_cons (dv 3) (da_nil))))) (dss_one (ds_fld (dv 0) (dpe_if (dpt_val (dv 5)) (dnon) (dpe_inst c (hx.dm___call__ w base) hx.ow___call__ (hr.mono (by decide)) (dv 2) (da_cons (dpe_ix (dv 4) (dpe_un dnegR (dint))) (da_nil))))))))))))
theorem Fx.kp_Piece___init__ (hx : Fx K mg base) (w : World) (_ : Heap) : Keeps P w K mg base 7 "__init__" "Piece.__init__" (defArgs s_Piece___init__) (defBody s_Piece___init__) (defScope s_Piece___init__) [] (He.ma K (He.ga K "Piece") "__init__") ["self", "folder", "form", "mark", "names", "ended"] (sp_Piece___init__ K) := by
  obtain ⟨fd, F⟩ := hx.fd_Piece___init__
  exact ⟨fd, F, dfn F sc_Piece___init__ (fun ds M Q E h => by first | exact False.elim h | (obtain ⟨rfl, _⟩ := h; rfl) | (obtain ⟨_, rfl, _⟩ := h; rfl) | (obtain ⟨_, _, rfl, _⟩ := h; rfl) | (obtain ⟨_, _, _, rfl, _⟩ := h; rfl) | (obtain ⟨_, _, _, _, rfl, _⟩ := h; rfl) | (obtain ⟨_, _, _, _, _, rfl, _⟩ := h; rfl) | (obtain ⟨_, _, _, _, _, _, rfl, _⟩ := h; rfl) | (obtain ⟨_, _, _, _, _, _, _, rfl, _⟩ := h; rfl) | (obtain ⟨_, _, _, _, _, _, _, _, rfl, _⟩ := h; rfl) | (obtain ⟨_, _, _, _, _, _, _, _, _, rfl, _⟩ := h; rfl) | (obtain ⟨_, _, _, _, _, _, _, _, _, _, rfl, _⟩ := h; rfl) | (obtain ⟨_, _, _, _, _, _, _, _, _, _, _, rfl, _⟩ := h; rfl) | (obtain ⟨_, _, _, _, _, _, _, _, _, _, _, _, rfl, _⟩ := h; rfl) | (obtain ⟨_, _, _, _, _, _, _, _, _, _, _, _, _, rfl, _⟩ := h; rfl)) fun cdv A outer s H E F0 W c hr => ⟨t_Piece___init__ K (upX W), r_Piece___init__ hx c hr, fun ds M Q h => pure_Piece___init__ hx h⟩⟩
theorem Fx.mak_Piece5 (hx : Fx K mg base) (w : World) (_ : Heap) : DMak P w K mg base 7 "Piece" (mk_Piece5 K) := (hx.kp_Piece___init__ w base).mak0 (fun fd F => F.bindsN fun _ _ _ _ _ _ us hl => match us, hl with | [_, _, _, _, _, _], _ => rfl) hx.g_Piece hx.mk_Piece (fun as M Q E h q hq => mkl_Piece5 hx h hq)
theorem r_Piece_covers {cdv : Value} {A : Around} {outer : List Env} {s : Shared} {H : Hp} {E : XK} {F0 : Hp} {W : DXK} (hx : Fx K mg base)
    (c : Ctx (cxOf (L2.CX P w) P w K mg base ["self", "place", "key"] "Piece.covers" (defScope s_Piece_covers) (He.ma K (He.ga K "Piece") "covers") cdv A outer s H E) F0 (dW W)) (hr : Room 1 (cxOf (L2.CX P w) P w K mg base ["self", "place", "key"] "Piece.covers" (defScope s_Piece_covers) (He.ma K (He.ga K "Piece") "covers") cdv A outer s H E).A) :
    DPSs (cxOf (L2.CX P w) P w K mg base ["self", "place", "key"] "Piece.covers" (defScope s_Piece_covers) (He.ma K (He.ga K "Piece") "covers") cdv A outer s H E) F0 (defBody s_Piece_covers) (t_Piece_covers K W) :=
  dss_cons (ds_if (dpt_cmp (op_dne hr.units) (dpe_ix (dv 1) (dint)) (dpe_fld (dv 0))) (dss_one (ds_ret (dbl))) (dss_nil)) (dss_cons (ds_set 2 c.nd (dpe_call c (hx.cal_key_in w base) (hr.mono (by decide)) (da_cons (dpe_fld (dpe_fld (dv 0))) (da_cons (dpe_fld (dpe_fld (dv 0))) (da_cons (dpe_ix (dv 1) (dint)) (da_nil)))))) (dss_cons (ds_if (dpw (dpw_and (dpt_cmp (op_disnot) (dpe_fld (dv 0)) (dnon)) (dpw_and1 (dpt_cmp (op_dcmp hr.units) (dv 2) (dpe_fld (dv 0)))))) (dss_one (ds_ret (dbl))) (dss_nil)) (dss_one (ds_ret (dpe_or (dpe_cmp (op_dis) (dpe_fld (dv 0)) (dnon)) (dpe_one (dpe_cmp (op_dcmp hr.units) (dv 2) (dpe_fld (dv 0)))))))))
theorem Fx.kp_Piece_covers (hx : Fx K mg base) (w : World) (_ : Heap) : Keeps P w K mg base 2 "covers" "Piece.covers" (defArgs s_Piece_covers) (defBody s_Piece_covers) (defScope s_Piece_covers) [] (He.ma K (He.ga K "Piece") "covers") ["self", "place"] (sp_Piece_covers K) := by
  obtain ⟨fd, F⟩ := hx.fd_Piece_covers
  exact ⟨fd, F, dfn F sc_Piece_covers (fun ds M Q E h => by first | exact False.elim h | (obtain ⟨rfl, _⟩ := h; rfl) | (obtain ⟨_, rfl, _⟩ := h; rfl) | (obtain ⟨_, _, rfl, _⟩ := h; rfl) | (obtain ⟨_, _, _, rfl, _⟩ := h; rfl) | (obtain ⟨_, _, _, _, rfl, _⟩ := h; rfl) | (obtain ⟨_, _, _, _, _, rfl, _⟩ := h; rfl) | (obtain ⟨_, _, _, _, _, _, rfl, _⟩ := h; rfl) | (obtain ⟨_, _, _, _, _, _, _, rfl, _⟩ := h; rfl) | (obtain ⟨_, _, _, _, _, _, _, _, rfl, _⟩ := h; rfl) | (obtain ⟨_, _, _, _, _, _, _, _, _, rfl, _⟩ := h; rfl) | (obtain ⟨_, _, _, _, _, _, _, _, _, _, rfl, _⟩ := h; rfl) | (obtain ⟨_, _, _, _, _, _, _, _, _, _, _, rfl, _⟩ := h; rfl) | (obtain ⟨_, _, _, _, _, _, _, _, _, _, _, _, rfl, _⟩ := h; rfl) | (obtain ⟨_, _, _, _, _, _, _, _, _, _, _, _, _, rfl, _⟩ := h; rfl)) fun cdv A outer s H E F0 W c hr => ⟨t_Piece_covers K (upX W), r_Piece_covers hx c hr, fun ds M Q h => pure_Piece_covers hx h⟩⟩
theorem Fx.dm_covers (hx : Fx K mg base) (w : World) (_ : Heap) : DMets P w K mg base 2 "covers" (m_covers K) := ⟨DH.DMet.lift ((hx.kp_Piece_covers w base).met (fun fd F => F.bindsN fun _ _ _ _ _ _ us hl => match us, hl with | [_, _], _ => rfl) hx.cl_Piece hx.me_Piece_covers) (by decide), trivial⟩
theorem r_Piece___contains__ {cdv : Value} {A : Around} {outer : List Env} {s : Shared} {H : Hp} {E : XK} {F0 : Hp} {W : DXK} (hx : Fx K mg base)
    (c : Ctx (cxOf (L2.CX P w) P w K mg base ["self", "place"] "Piece.__contains__" (defScope s_Piece___contains__) (He.ma K (He.ga K "Piece") "__contains__") cdv A outer s H E) F0 (dW W)) (hr : Room 2 (cxOf (L2.CX P w) P w K mg base ["self", "place"] "Piece.__contains__" (defScope s_Piece___contains__) (He.ma K (He.ga K "Piece") "__contains__") cdv A outer s H E).A) :
    DPSs (cxOf (L2.CX P w) P w K mg base ["self", "place"] "Piece.__contains__" (defScope s_Piece___contains__) (He.ma K (He.ga K "Piece") "__contains__") cdv A outer s H E) F0 (defBody s_Piece___contains__) (t_Piece___contains__ K W) :=
  dss_one (ds_ret (dpe_and (dpe_call c (hx.cal_is_place w base) (hr.mono (by decide)) (da_cons (dv 1) (da_nil))) (dpe_one (dpe_meth c (hx.dm_covers w base) (hr.mono (by decide)) (dv 0) (da_cons (dv 1) (da_nil))))))
theorem Fx.kp_Piece___contains__ (hx : Fx K mg base) (w : World) (_ : Heap) : Keeps P w K mg base 3 "__contains__" "Piece.__contains__" (defArgs s_Piece___contains__) (defBody s_Piece___contains__) (defScope s_Piece___contains__) [] (He.ma K (He.ga K "Piece") "__contains__") ["self", "place"] (sp_Piece___contains__ K) := by
  obtain ⟨fd, F⟩ := hx.fd_Piece___contains__
  exact ⟨fd, F, dfn F sc_Piece___contains__ (fun ds M Q E h => by first | exact False.elim h | (obtain ⟨rfl, _⟩ := h; rfl) | (obtain ⟨_, rfl, _⟩ := h; rfl) | (obtain ⟨_, _, rfl, _⟩ := h; rfl) | (obtain ⟨_, _, _, rfl, _⟩ := h; rfl) | (obtain ⟨_, _, _, _, rfl, _⟩ := h; rfl) | (obtain ⟨_, _, _, _, _, rfl, _⟩ := h; rfl) | (obtain ⟨_, _, _, _, _, _, rfl, _⟩ := h; rfl) | (obtain ⟨_, _, _, _, _, _, _, rfl, _⟩ := h; rfl) | (obtain ⟨_, _, _, _, _, _, _, _, rfl, _⟩ := h; rfl) | (obtain ⟨_, _, _, _, _, _, _, _, _, rfl, _⟩ := h; rfl) | (obtain ⟨_, _, _, _, _, _, _, _, _, _, rfl, _⟩ := h; rfl) | (obtain ⟨_, _, _, _, _, _, _, _, _, _, _, rfl, _⟩ := h; rfl) | (obtain ⟨_, _, _, _, _, _, _, _, _, _, _, _, rfl, _⟩ := h; rfl) | (obtain ⟨_, _, _, _, _, _, _, _, _, _, _, _, _, rfl, _⟩ := h; rfl)) fun cdv A outer s H E F0 W c hr => ⟨t_Piece___contains__ K (upX W), r_Piece___contains__ hx c hr, fun ds M Q h => pure_Piece___contains__ hx h⟩⟩
theorem Fx.dm___contains__ (hx : Fx K mg base) (w : World) (_ : Heap) : DMets P w K mg base 3 "__contains__" (m___contains__ K) := ⟨DH.DMet.lift ((hx.kp_Piece___contains__ w base).met (fun fd F => F.bindsN fun _ _ _ _ _ _ us hl => match us, hl with | [_, _], _ => rfl) hx.cl_Piece hx.me_Piece___contains__) (by decide), trivial⟩
theorem r_Piece_says {cdv : Value} {A : Around} {outer : List Env} {s : Shared} {H : Hp} {E : XK} {F0 : Hp} {W : DXK} (hx : Fx K mg base)
    (c : Ctx (cxOf (L2.CX P w) P w K mg base ["self", "place"] "Piece.says" (defScope s_Piece_says) (He.ma K (He.ga K "Piece") "says") cdv A outer s H E) F0 (dW W)) (hr : Room 3 (cxOf (L2.CX P w) P w K mg base ["self", "place"] "Piece.says" (defScope s_Piece_says) (He.ma K (He.ga K "Piece") "says") cdv A outer s H E).A) :
    DPSs (cxOf (L2.CX P w) P w K mg base ["self", "place"] "Piece.says" (defScope s_Piece_says) (He.ma K (He.ga K "Piece") "says") cdv A outer s H E) F0 (defBody s_Piece_says) (t_Piece_says K W) :=
  dss_cons (ds_expr (dpe_call c (hx.cal_check_place w base) (hr.mono (by decide)) (da_cons (dv 1) (da_nil)))) (dss_cons (ds_if (dpt_not (dpt_val (dpe_meth c (hx.dm_covers w base) (hr.mono (by decide)) (dv 0) (da_cons (dv 1) (da_nil))))) (dss_one (ds_ret (dnon))) (dss_nil)) (dss_one (ds_ret (dpe_cmp (op_din hr.units) (dpe_ix (dv 1) (dint)) (dpe_fld (dv 0))))))
theorem Fx.kp_Piece_says (hx : Fx K mg base) (w : World) (_ : Heap) : Keeps P w K mg base 4 "says" "Piece.says" (defArgs s_Piece_says) (defBody s_Piece_says) (defScope s_Piece_says) [] (He.ma K (He.ga K "Piece") "says") ["self", "place"] (sp_Piece_says K) := by
  obtain ⟨fd, F⟩ := hx.fd_Piece_says
  exact ⟨fd, F, dfn F sc_Piece_says (fun ds M Q E h => by first | exact False.elim h | (obtain ⟨rfl, _⟩ := h; rfl) | (obtain ⟨_, rfl, _⟩ := h; rfl) | (obtain ⟨_, _, rfl, _⟩ := h; rfl) | (obtain ⟨_, _, _, rfl, _⟩ := h; rfl) | (obtain ⟨_, _, _, _, rfl, _⟩ := h; rfl) | (obtain ⟨_, _, _, _, _, rfl, _⟩ := h; rfl) | (obtain ⟨_, _, _, _, _, _, rfl, _⟩ := h; rfl) | (obtain ⟨_, _, _, _, _, _, _, rfl, _⟩ := h; rfl) | (obtain ⟨_, _, _, _, _, _, _, _, rfl, _⟩ := h; rfl) | (obtain ⟨_, _, _, _, _, _, _, _, _, rfl, _⟩ := h; rfl) | (obtain ⟨_, _, _, _, _, _, _, _, _, _, rfl, _⟩ := h; rfl) | (obtain ⟨_, _, _, _, _, _, _, _, _, _, _, rfl, _⟩ := h; rfl) | (obtain ⟨_, _, _, _, _, _, _, _, _, _, _, _, rfl, _⟩ := h; rfl) | (obtain ⟨_, _, _, _, _, _, _, _, _, _, _, _, _, rfl, _⟩ := h; rfl)) fun cdv A outer s H E F0 W c hr => ⟨t_Piece_says K (upX W), r_Piece_says hx c hr, fun ds M Q h => pure_Piece_says hx h⟩⟩
theorem Fx.dm_says (hx : Fx K mg base) (w : World) (_ : Heap) : DMets P w K mg base 4 "says" (m_says K) := ⟨DH.DMet.lift ((hx.kp_Piece_says w base).met (fun fd F => F.bindsN fun _ _ _ _ _ _ us hl => match us, hl with | [_, _], _ => rfl) hx.cl_Piece hx.me_Piece_says) (by decide), trivial⟩
theorem r_Piece_standing {cdv : Value} {A : Around} {outer : List Env} {s : Shared} {H : Hp} {E : XK} {F0 : Hp} {W : DXK} (hx : Fx K mg base)
    (c : Ctx (cxOf (L2.CX P w) P w K mg base ["self", "name"] "Piece.standing" (defScope s_Piece_standing) (He.ma K (He.ga K "Piece") "standing") cdv A outer s H E) F0 (dW W)) (hr : Room 0 (cxOf (L2.CX P w) P w K mg base ["self", "name"] "Piece.standing" (defScope s_Piece_standing) (He.ma K (He.ga K "Piece") "standing") cdv A outer s H E).A) :
    DPSs (cxOf (L2.CX P w) P w K mg base ["self", "name"] "Piece.standing" (defScope s_Piece_standing) (He.ma K (He.ga K "Piece") "standing") cdv A outer s H E) F0 (defBody s_Piece_standing) (t_Piece_standing K W) :=
  dss_one (ds_ret (dpe_callB (cr_dsortedM hr.units) hx.b_sorted (da_cons (dpe_lc 1 c.calm c.nd (blk_of (N := ["self", "name"]) (sc := defScope s_Piece_standing) (by decide +kernel)) (dpi_seq (dpe_fld (dv 0))) (fun s H C cl fp =>  pg_name (i := 1) c.nd rfl (Or.inl rfl) (.inr rfl)) (fun s H C cl fp =>  dts_nil) (fun s H C cl fp =>  dpe_tup (da_cons (dpe_fld (dv 0)) (da_cons (dv 1) (da_nil))))) (da_nil))))
theorem Fx.kp_Piece_standing (hx : Fx K mg base) (w : World) (_ : Heap) : Keeps P w K mg base 1 "standing" "Piece.standing" (defArgs s_Piece_standing) (defBody s_Piece_standing) (defScope s_Piece_standing) [] (He.ma K (He.ga K "Piece") "standing") ["self"] (sp_Piece_standing K) := by
  obtain ⟨fd, F⟩ := hx.fd_Piece_standing
  exact ⟨fd, F, dfn F sc_Piece_standing (fun ds M Q E h => by first | exact False.elim h | (obtain ⟨rfl, _⟩ := h; rfl) | (obtain ⟨_, rfl, _⟩ := h; rfl) | (obtain ⟨_, _, rfl, _⟩ := h; rfl) | (obtain ⟨_, _, _, rfl, _⟩ := h; rfl) | (obtain ⟨_, _, _, _, rfl, _⟩ := h; rfl) | (obtain ⟨_, _, _, _, _, rfl, _⟩ := h; rfl) | (obtain ⟨_, _, _, _, _, _, rfl, _⟩ := h; rfl) | (obtain ⟨_, _, _, _, _, _, _, rfl, _⟩ := h; rfl) | (obtain ⟨_, _, _, _, _, _, _, _, rfl, _⟩ := h; rfl) | (obtain ⟨_, _, _, _, _, _, _, _, _, rfl, _⟩ := h; rfl) | (obtain ⟨_, _, _, _, _, _, _, _, _, _, rfl, _⟩ := h; rfl) | (obtain ⟨_, _, _, _, _, _, _, _, _, _, _, rfl, _⟩ := h; rfl) | (obtain ⟨_, _, _, _, _, _, _, _, _, _, _, _, rfl, _⟩ := h; rfl) | (obtain ⟨_, _, _, _, _, _, _, _, _, _, _, _, _, rfl, _⟩ := h; rfl)) fun cdv A outer s H E F0 W c hr => ⟨t_Piece_standing K (upX W), r_Piece_standing hx c hr, fun ds M Q h => pure_Piece_standing hx h⟩⟩
theorem Fx.dm_standing (hx : Fx K mg base) (w : World) (_ : Heap) : DMets P w K mg base 1 "standing" (m_standing K) := ⟨DH.DMet.lift ((hx.kp_Piece_standing w base).met (fun fd F => F.bindsN fun _ _ _ _ _ _ us hl => match us, hl with | [_], _ => rfl) hx.cl_Piece hx.me_Piece_standing) (by decide), trivial⟩
theorem r__law_purse {cdv : Value} {A : Around} {outer : List Env} {s : Shared} {H : Hp} {E : XK} {F0 : Hp} {W : DXK} (hx : Fx K mg base)
    (c : Ctx (cxOf (L2.CX P w) P w K mg base ["_law_script", "_law_at", "_law_cell"] "_law_purse" (defScope s__law_purse) (He.ga K "_law_purse") cdv A outer s H E) F0 (dW W)) (hr : Room 0 (cxOf (L2.CX P w) P w K mg base ["_law_script", "_law_at", "_law_cell"] "_law_purse" (defScope s__law_purse) (He.ga K "_law_purse") cdv A outer s H E).A) :
    DPSs (cxOf (L2.CX P w) P w K mg base ["_law_script", "_law_at", "_law_cell"] "_law_purse" (defScope s__law_purse) (He.ga K "_law_purse") cdv A outer s H E) F0 (defBody s__law_purse) (t__law_purse K W) :=
  dss_cons (ds_set 2 c.nd (dpe_callTy cr_dint hx.b_int (da_cons (dpe_callB (cr_dsum c.calm) hx.b_sum (da_cons (dpe_slice (dv 0) (dpo_some (dv 1)) (dpo_some (dpe_op op_dadd (dv 1) (dint)))) (da_nil))) (da_nil)))) (dss_one (ds_ret (dpe_lstM (da_cons (dpe_op op_dmul (dpe_callTy cr_dint hx.b_int (da_cons (dpe_cmp (op_dcmp hr.units) (dv 2) (dpe_op op_dpow (dint) (dint))) (da_nil))) (dpe_op op_dmod (dv 2) (dpe_op op_dpow (dpe_op op_dpow (dint) (dint)) (dint)))) (da_cons (dpe_op op_dmod (dv 2) (dint)) (da_cons (dpe_op op_dmul (dint) (dv 1)) (da_nil)))))))
theorem Fx.kp__law_purse (hx : Fx K mg base) (w : World) (_ : Heap) : Keeps P w K mg base 1 "_law_purse" "_law_purse" (defArgs s__law_purse) (defBody s__law_purse) (defScope s__law_purse) [] (He.ga K "_law_purse") ["_law_script", "_law_at"] (sp__law_purse K) := by
  obtain ⟨fd, F⟩ := hx.fd__law_purse
  exact ⟨fd, F, dfn F sc__law_purse (fun ds M Q E h => by first | exact False.elim h | (obtain ⟨rfl, _⟩ := h; rfl) | (obtain ⟨_, rfl, _⟩ := h; rfl) | (obtain ⟨_, _, rfl, _⟩ := h; rfl) | (obtain ⟨_, _, _, rfl, _⟩ := h; rfl) | (obtain ⟨_, _, _, _, rfl, _⟩ := h; rfl) | (obtain ⟨_, _, _, _, _, rfl, _⟩ := h; rfl) | (obtain ⟨_, _, _, _, _, _, rfl, _⟩ := h; rfl) | (obtain ⟨_, _, _, _, _, _, _, rfl, _⟩ := h; rfl) | (obtain ⟨_, _, _, _, _, _, _, _, rfl, _⟩ := h; rfl) | (obtain ⟨_, _, _, _, _, _, _, _, _, rfl, _⟩ := h; rfl) | (obtain ⟨_, _, _, _, _, _, _, _, _, _, rfl, _⟩ := h; rfl) | (obtain ⟨_, _, _, _, _, _, _, _, _, _, _, rfl, _⟩ := h; rfl) | (obtain ⟨_, _, _, _, _, _, _, _, _, _, _, _, rfl, _⟩ := h; rfl) | (obtain ⟨_, _, _, _, _, _, _, _, _, _, _, _, _, rfl, _⟩ := h; rfl)) fun cdv A outer s H E F0 W c hr => ⟨t__law_purse K (upX W), r__law_purse hx c hr, fun ds M Q h => pure__law_purse hx h⟩⟩
theorem Fx.cal__law_purse (hx : Fx K mg base) (w : World) (_ : Heap) : DCal P w K mg base 1 "_law_purse" (sp__law_purse K) := (hx.kp__law_purse w base).cal (fun fd F => F.bindsN fun _ _ _ _ _ _ us hl => match us, hl with | [_, _], _ => rfl) hx.g__law_purse
theorem r__law_draw {cdv : Value} {A : Around} {outer : List Env} {s : Shared} {H : Hp} {E : XK} {F0 : Hp} {W : DXK} (hx : Fx K mg base)
    (c : Ctx (cxOf (L2.CX P w) P w K mg base ["_law_purse_here", "_law_many", "_law_drawn", "_law_number"] "_law_draw" (defScope s__law_draw) (He.ga K "_law_draw") cdv A outer s H E) F0 (dW W)) (hr : Room 0 (cxOf (L2.CX P w) P w K mg base ["_law_purse_here", "_law_many", "_law_drawn", "_law_number"] "_law_draw" (defScope s__law_draw) (He.ga K "_law_draw") cdv A outer s H E).A) :
    DPSs (cxOf (L2.CX P w) P w K mg base ["_law_purse_here", "_law_many", "_law_drawn", "_law_number"] "_law_draw" (defScope s__law_draw) (He.ga K "_law_draw") cdv A outer s H E) F0 (defBody s__law_draw) (t__law_draw K W) :=
  dss_cons (ds_if (dpt_cmp (op_dcmp hr.units) (dpe_ix (dv 0) (dint)) (dint)) (dss_cons (ds_set 2 c.nd (dpe_op op_dmod (dpe_ix (dv 0) (dint)) (dv 1))) (dss_cons (ds_asg (dpe_op op_dfdiv (dpe_ix (dv 0) (dint)) (dv 1)) (dg_sub (dv 0) (dint))) (dss_one (ds_ret (dv 2))))) (dss_nil)) (dss_cons (ds_asg (dpe_op op_dadd (dpe_ix (dv 0) (dint)) (dint)) (dg_sub (dv 0) (dint))) (dss_cons (ds_set 3 c.nd (dpe_op op_dmod (dpe_op op_dadd (dpe_op op_dadd (dpe_op op_dmul (dpe_ix (dv 0) (dint)) (dint)) (dpe_op op_dmul (dpe_ix (dv 0) (dint)) (dint))) (dint)) (dint))) (dss_cons (ds_set 3 c.nd (dpe_op op_dmod (dpe_op op_dadd (dpe_op op_dmul (dv 3) (dv 3)) (dpe_ix (dv 0) (dint))) (dint))) (dss_cons (ds_set 3 c.nd (dpe_op op_dmod (dpe_op op_dadd (dpe_op op_dmul (dv 3) (dv 3)) (dint)) (dint))) (dss_one (ds_ret (dpe_op op_dmod (dpe_op op_dfdiv (dv 3) (dint)) (dv 1))))))))
theorem Fx.kp__law_draw (hx : Fx K mg base) (w : World) (_ : Heap) : Keeps P w K mg base 1 "_law_draw" "_law_draw" (defArgs s__law_draw) (defBody s__law_draw) (defScope s__law_draw) [] (He.ga K "_law_draw") ["_law_purse_here", "_law_many"] (sp__law_draw K) := by
  obtain ⟨fd, F⟩ := hx.fd__law_draw
  exact ⟨fd, F, dfn F sc__law_draw (fun ds M Q E h => by first | exact False.elim h | (obtain ⟨rfl, _⟩ := h; rfl) | (obtain ⟨_, rfl, _⟩ := h; rfl) | (obtain ⟨_, _, rfl, _⟩ := h; rfl) | (obtain ⟨_, _, _, rfl, _⟩ := h; rfl) | (obtain ⟨_, _, _, _, rfl, _⟩ := h; rfl) | (obtain ⟨_, _, _, _, _, rfl, _⟩ := h; rfl) | (obtain ⟨_, _, _, _, _, _, rfl, _⟩ := h; rfl) | (obtain ⟨_, _, _, _, _, _, _, rfl, _⟩ := h; rfl) | (obtain ⟨_, _, _, _, _, _, _, _, rfl, _⟩ := h; rfl) | (obtain ⟨_, _, _, _, _, _, _, _, _, rfl, _⟩ := h; rfl) | (obtain ⟨_, _, _, _, _, _, _, _, _, _, rfl, _⟩ := h; rfl) | (obtain ⟨_, _, _, _, _, _, _, _, _, _, _, rfl, _⟩ := h; rfl) | (obtain ⟨_, _, _, _, _, _, _, _, _, _, _, _, rfl, _⟩ := h; rfl) | (obtain ⟨_, _, _, _, _, _, _, _, _, _, _, _, _, rfl, _⟩ := h; rfl)) fun cdv A outer s H E F0 W c hr => ⟨t__law_draw K (upX W), r__law_draw hx c hr, fun ds M Q h => pure__law_draw hx h⟩⟩
theorem Fx.cal__law_draw (hx : Fx K mg base) (w : World) (_ : Heap) : DCal P w K mg base 1 "_law_draw" (sp__law_draw K) := (hx.kp__law_draw w base).cal (fun fd F => F.bindsN fun _ _ _ _ _ _ us hl => match us, hl with | [_, _], _ => rfl) hx.g__law_draw
theorem r__law_name {cdv : Value} {A : Around} {outer : List Env} {s : Shared} {H : Hp} {E : XK} {F0 : Hp} {W : DXK} (hx : Fx K mg base)
    (c : Ctx (cxOf (L2.CX P w) P w K mg base ["_law_purse_here", "_law_name_here", "_law_turn"] "_law_name" (defScope s__law_name) (He.ga K "_law_name") cdv A outer s H E) F0 (dW W)) (hr : Room 1 (cxOf (L2.CX P w) P w K mg base ["_law_purse_here", "_law_name_here", "_law_turn"] "_law_name" (defScope s__law_name) (He.ga K "_law_name") cdv A outer s H E).A) :
    DPSs (cxOf (L2.CX P w) P w K mg base ["_law_purse_here", "_law_name_here", "_law_turn"] "_law_name" (defScope s__law_name) (He.ga K "_law_name") cdv A outer s H E) F0 (defBody s__law_name) (t__law_name K W) :=
  dss_cons (ds_set 1 c.nd (dstr)) (dss_cons (ds_for c.own c.calm (dpi_range1 hx.b_range (da_cons (dpe_op op_dadd (dint) (dpe_call c (hx.cal__law_draw w base) (hr.mono (by decide)) (da_cons (dv 0) (da_cons (dint) (da_nil))))) (da_nil))) (dg_name 2 c.nd) (dss_one (ds_set 1 c.nd (dpe_op op_dadd (dv 1) (dpe_ix (dstr) (dpe_call c (hx.cal__law_draw w base) (hr.mono (by decide)) (da_cons (dv 0) (da_cons (dint) (da_nil))))))))) (dss_one (ds_ret (dv 1))))
theorem Fx.kp__law_name (hx : Fx K mg base) (w : World) (_ : Heap) : Keeps P w K mg base 2 "_law_name" "_law_name" (defArgs s__law_name) (defBody s__law_name) (defScope s__law_name) [] (He.ga K "_law_name") ["_law_purse_here"] (sp__law_name K) := by
  obtain ⟨fd, F⟩ := hx.fd__law_name
  exact ⟨fd, F, dfn F sc__law_name (fun ds M Q E h => by first | exact False.elim h | (obtain ⟨rfl, _⟩ := h; rfl) | (obtain ⟨_, rfl, _⟩ := h; rfl) | (obtain ⟨_, _, rfl, _⟩ := h; rfl) | (obtain ⟨_, _, _, rfl, _⟩ := h; rfl) | (obtain ⟨_, _, _, _, rfl, _⟩ := h; rfl) | (obtain ⟨_, _, _, _, _, rfl, _⟩ := h; rfl) | (obtain ⟨_, _, _, _, _, _, rfl, _⟩ := h; rfl) | (obtain ⟨_, _, _, _, _, _, _, rfl, _⟩ := h; rfl) | (obtain ⟨_, _, _, _, _, _, _, _, rfl, _⟩ := h; rfl) | (obtain ⟨_, _, _, _, _, _, _, _, _, rfl, _⟩ := h; rfl) | (obtain ⟨_, _, _, _, _, _, _, _, _, _, rfl, _⟩ := h; rfl) | (obtain ⟨_, _, _, _, _, _, _, _, _, _, _, rfl, _⟩ := h; rfl) | (obtain ⟨_, _, _, _, _, _, _, _, _, _, _, _, rfl, _⟩ := h; rfl) | (obtain ⟨_, _, _, _, _, _, _, _, _, _, _, _, _, rfl, _⟩ := h; rfl)) fun cdv A outer s H E F0 W c hr => ⟨t__law_name K (upX W), r__law_name hx c hr, fun ds M Q h => pure__law_name hx h⟩⟩
theorem Fx.cal__law_name (hx : Fx K mg base) (w : World) (_ : Heap) : DCal P w K mg base 2 "_law_name" (sp__law_name K) := (hx.kp__law_name w base).cal (fun fd F => F.bindsN fun _ _ _ _ _ _ us hl => match us, hl with | [_], _ => rfl) hx.g__law_name
theorem r__law_names {cdv : Value} {A : Around} {outer : List Env} {s : Shared} {H : Hp} {E : XK} {F0 : Hp} {W : DXK} (hx : Fx K mg base)
    (c : Ctx (cxOf (L2.CX P w) P w K mg base ["_law_purse_here", "_law_many", "_law_names_here", "_law_turn", "_law_name_here"] "_law_names" (defScope s__law_names) (He.ga K "_law_names") cdv A outer s H E) F0 (dW W)) (hr : Room 2 (cxOf (L2.CX P w) P w K mg base ["_law_purse_here", "_law_many", "_law_names_here", "_law_turn", "_law_name_here"] "_law_names" (defScope s__law_names) (He.ga K "_law_names") cdv A outer s H E).A) :
    DPSs (cxOf (L2.CX P w) P w K mg base ["_law_purse_here", "_law_many", "_law_names_here", "_law_turn", "_law_name_here"] "_law_names" (defScope s__law_names) (He.ga K "_law_names") cdv A outer s H E) F0 (defBody s__law_names) (t__law_names K W) :=
  dss_cons (ds_set 2 c.nd (dpe_lstM (da_nil))) (dss_cons (ds_for c.own c.calm (dpi_range1 hx.b_range (da_cons (dv 1) (da_nil))) (dg_name 3 c.nd) (dss_cons (ds_set 4 c.nd (dpe_call c (hx.cal__law_name w base) (hr.mono (by decide)) (da_cons (dv 0) (da_nil)))) (dss_cons (ds_if (dpw (dpw_and (dpt_cmp (op_dne hr.units) (dv 2) (dpe_lst (da_nil))) (dpw_and1 (dpt_cmp (op_deq hr.units) (dpe_call c (hx.cal__law_draw w base) (hr.mono (by decide)) (da_cons (dv 0) (da_cons (dint) (da_nil)))) (dint))))) (dss_one (ds_set 4 c.nd (dpe_slice (dpe_op op_dadd (dpe_ix (dv 2) (dpe_un dnegR (dint))) (dv 4)) dpo_none (dpo_some (dpe_op op_dadd (dint) (dpe_call c (hx.cal__law_draw w base) (hr.mono (by decide)) (da_cons (dv 0) (da_cons (dint) (da_nil))))))))) (dss_nil)) (dss_one (ds_if (dpt_cmp (op_dnin hr.units) (dv 4) (dv 2)) (dss_one (ds_expr (dpe_bm PySem.F.plainAttrs_list PySem.F.slot_list_append PySem.F.type_list_append mt_dappend (dv 2) (da_cons (dv 4) (da_nil))))) (dss_nil)))))) (dss_one (ds_ret (dv 2))))
theorem Fx.kp__law_names (hx : Fx K mg base) (w : World) (_ : Heap) : Keeps P w K mg base 3 "_law_names" "_law_names" (defArgs s__law_names) (defBody s__law_names) (defScope s__law_names) [] (He.ga K "_law_names") ["_law_purse_here", "_law_many"] (sp__law_names K) := by
  obtain ⟨fd, F⟩ := hx.fd__law_names
  exact ⟨fd, F, dfn F sc__law_names (fun ds M Q E h => by first | exact False.elim h | (obtain ⟨rfl, _⟩ := h; rfl) | (obtain ⟨_, rfl, _⟩ := h; rfl) | (obtain ⟨_, _, rfl, _⟩ := h; rfl) | (obtain ⟨_, _, _, rfl, _⟩ := h; rfl) | (obtain ⟨_, _, _, _, rfl, _⟩ := h; rfl) | (obtain ⟨_, _, _, _, _, rfl, _⟩ := h; rfl) | (obtain ⟨_, _, _, _, _, _, rfl, _⟩ := h; rfl) | (obtain ⟨_, _, _, _, _, _, _, rfl, _⟩ := h; rfl) | (obtain ⟨_, _, _, _, _, _, _, _, rfl, _⟩ := h; rfl) | (obtain ⟨_, _, _, _, _, _, _, _, _, rfl, _⟩ := h; rfl) | (obtain ⟨_, _, _, _, _, _, _, _, _, _, rfl, _⟩ := h; rfl) | (obtain ⟨_, _, _, _, _, _, _, _, _, _, _, rfl, _⟩ := h; rfl) | (obtain ⟨_, _, _, _, _, _, _, _, _, _, _, _, rfl, _⟩ := h; rfl) | (obtain ⟨_, _, _, _, _, _, _, _, _, _, _, _, _, rfl, _⟩ := h; rfl)) fun cdv A outer s H E F0 W c hr => ⟨t__law_names K (upX W), r__law_names hx c hr, fun ds M Q h => pure__law_names hx h⟩⟩
theorem Fx.cal__law_names (hx : Fx K mg base) (w : World) (_ : Heap) : DCal P w K mg base 3 "_law_names" (sp__law_names K) := (hx.kp__law_names w base).cal (fun fd F => F.bindsN fun _ _ _ _ _ _ us hl => match us, hl with | [_, _], _ => rfl) hx.g__law_names
theorem r__law_form {cdv : Value} {A : Around} {outer : List Env} {s : Shared} {H : Hp} {E : XK} {F0 : Hp} {W : DXK} (hx : Fx K mg base)
    (c : Ctx (cxOf (L2.CX P w) P w K mg base ["_law_purse_here", "_law_letters", "_law_way", "_law_at", "_law_turn", "_law_rest", "_law_many"] "_law_form" (defScope s__law_form) (He.ga K "_law_form") cdv A outer s H E) F0 (dW W)) (hr : Room 1 (cxOf (L2.CX P w) P w K mg base ["_law_purse_here", "_law_letters", "_law_way", "_law_at", "_law_turn", "_law_rest", "_law_many"] "_law_form" (defScope s__law_form) (He.ga K "_law_form") cdv A outer s H E).A) :
    DPSs (cxOf (L2.CX P w) P w K mg base ["_law_purse_here", "_law_letters", "_law_way", "_law_at", "_law_turn", "_law_rest", "_law_many"] "_law_form" (defScope s__law_form) (He.ga K "_law_form") cdv A outer s H E) F0 (defBody s__law_form) (t__law_form K W) :=
  dss_cons (ds_set 1 c.nd (dstr)) (dss_cons (ds_set 2 c.nd (dpe_call c (hx.cal__law_draw w base) (hr.mono (by decide)) (da_cons (dv 0) (da_cons (dint) (da_nil))))) (dss_cons (ds_if (dpt_cmp (op_deq hr.units) (dv 2) (dint)) (dss_one (ds_set 1 c.nd (dpe_revS (dv 1)))) (dss_nil)) (dss_cons (ds_if (dpt_cmp (op_deq hr.units) (dv 2) (dint)) (dss_cons (ds_set 3 c.nd (dpe_call c (hx.cal__law_draw w base) (hr.mono (by decide)) (da_cons (dv 0) (da_cons (dint) (da_nil))))) (dss_one (ds_set 1 c.nd (dpe_op op_dadd (dpe_slice (dv 1) (dpo_some (dv 3)) dpo_none) (dpe_slice (dv 1) dpo_none (dpo_some (dv 3))))))) (dss_nil)) (dss_cons (ds_if (dpt_cmp (op_deq hr.units) (dv 2) (dint)) (dss_one (ds_for c.own c.calm (dpi_range1 hx.b_range (da_cons (dint) (da_nil))) (dg_name 4 c.nd) (dss_cons (ds_set 3 c.nd (dpe_op op_dadd (dv 4) (dpe_call c (hx.cal__law_draw w base) (hr.mono (by decide)) (da_cons (dv 0) (da_cons (dpe_op op_dsub (dint) (dv 4)) (da_nil)))))) (dss_cons (ds_set 5 c.nd (dpe_op op_dadd (dpe_slice (dv 1) (dpo_some (dv 4)) (dpo_some (dv 3))) (dpe_slice (dv 1) (dpo_some (dpe_op op_dadd (dv 3) (dint))) dpo_none))) (dss_one (ds_set 1 c.nd (dpe_op op_dadd (dpe_op op_dadd (dpe_slice (dv 1) dpo_none (dpo_some (dv 4))) (dpe_ix (dv 1) (dv 3))) (dv 5)))))))) (dss_nil)) (dss_cons (ds_set 6 c.nd (dpe_ix (dpe_lst (da_cons (dint) (da_cons (dint) (da_cons (dint) (da_cons (dint) (da_nil)))))) (dpe_call c (hx.cal__law_draw w base) (hr.mono (by decide)) (da_cons (dv 0) (da_cons (dint) (da_nil)))))) (dss_one (ds_ret (dpe_tup (da_cons (dv 1) (da_cons (dpe_op op_dadd (dint) (dpe_call c (hx.cal__law_draw w base) (hr.mono (by decide)) (da_cons (dv 0) (da_cons (dv 6) (da_nil))))) (da_nil)))))))))))
theorem Fx.kp__law_form (hx : Fx K mg base) (w : World) (_ : Heap) : Keeps P w K mg base 2 "_law_form" "_law_form" (defArgs s__law_form) (defBody s__law_form) (defScope s__law_form) [] (He.ga K "_law_form") ["_law_purse_here"] (sp__law_form K) := by
  obtain ⟨fd, F⟩ := hx.fd__law_form
  exact ⟨fd, F, dfn F sc__law_form (fun ds M Q E h => by first | exact False.elim h | (obtain ⟨rfl, _⟩ := h; rfl) | (obtain ⟨_, rfl, _⟩ := h; rfl) | (obtain ⟨_, _, rfl, _⟩ := h; rfl) | (obtain ⟨_, _, _, rfl, _⟩ := h; rfl) | (obtain ⟨_, _, _, _, rfl, _⟩ := h; rfl) | (obtain ⟨_, _, _, _, _, rfl, _⟩ := h; rfl) | (obtain ⟨_, _, _, _, _, _, rfl, _⟩ := h; rfl) | (obtain ⟨_, _, _, _, _, _, _, rfl, _⟩ := h; rfl) | (obtain ⟨_, _, _, _, _, _, _, _, rfl, _⟩ := h; rfl) | (obtain ⟨_, _, _, _, _, _, _, _, _, rfl, _⟩ := h; rfl) | (obtain ⟨_, _, _, _, _, _, _, _, _, _, rfl, _⟩ := h; rfl) | (obtain ⟨_, _, _, _, _, _, _, _, _, _, _, rfl, _⟩ := h; rfl) | (obtain ⟨_, _, _, _, _, _, _, _, _, _, _, _, rfl, _⟩ := h; rfl) | (obtain ⟨_, _, _, _, _, _, _, _, _, _, _, _, _, rfl, _⟩ := h; rfl)) fun cdv A outer s H E F0 W c hr => ⟨t__law_form K (upX W), r__law_form hx c hr, fun ds M Q h => pure__law_form hx h⟩⟩
theorem Fx.cal__law_form (hx : Fx K mg base) (w : World) (_ : Heap) : DCal P w K mg base 2 "_law_form" (sp__law_form K) := (hx.kp__law_form w base).cal (fun fd F => F.bindsN fun _ _ _ _ _ _ us hl => match us, hl with | [_], _ => rfl) hx.g__law_form
theorem r__law_key {cdv : Value} {A : Around} {outer : List Env} {s : Shared} {H : Hp} {E : XK} {F0 : Hp} {W : DXK} (hx : Fx K mg base)
    (c : Ctx (cxOf (L2.CX P w) P w K mg base ["_law_form_here", "_law_name_here", "_law_ranks", "_law_letter"] "_law_key" (defScope s__law_key) (He.ga K "_law_key") cdv A outer s H E) F0 (dW W)) (hr : Room 0 (cxOf (L2.CX P w) P w K mg base ["_law_form_here", "_law_name_here", "_law_ranks", "_law_letter"] "_law_key" (defScope s__law_key) (He.ga K "_law_key") cdv A outer s H E).A) :
    DPSs (cxOf (L2.CX P w) P w K mg base ["_law_form_here", "_law_name_here", "_law_ranks", "_law_letter"] "_law_key" (defScope s__law_key) (He.ga K "_law_key") cdv A outer s H E) F0 (defBody s__law_key) (t__law_key K W) :=
  dss_cons (ds_setLc 2 3 c.calm c.nd (blk_of (N := ["_law_form_here", "_law_name_here", "_law_ranks", "_law_letter"]) (sc := defScope s__law_key) (by decide +kernel)) (dpi_seq (dv 1)) (fun s H C cl fp =>  pg_name (i := 3) c.nd rfl (Or.inl rfl) (.inr rfl)) (fun s H C cl fp =>  dts_nil) (fun s H C cl fp =>  dpe_bm PySem.F.plainAttrs_str PySem.F.slot_str_index PySem.F.type_str_index mt_dindexS (dpe_ix (dv 0) (dint)) (da_cons (dv 3) (da_nil))) rfl) (dss_one (ds_ret (dpe_tup (da_cons (dpe_op op_dmod (dpe_callB (cr_dsum c.calm) hx.b_sum (da_cons (dv 2) (da_nil))) (dpe_ix (dv 0) (dint))) (da_cons (dv 2) (da_nil))))))
theorem Fx.kp__law_key (hx : Fx K mg base) (w : World) (_ : Heap) : Keeps P w K mg base 1 "_law_key" "_law_key" (defArgs s__law_key) (defBody s__law_key) (defScope s__law_key) [] (He.ga K "_law_key") ["_law_form_here", "_law_name_here"] (sp__law_key K) := by
  obtain ⟨fd, F⟩ := hx.fd__law_key
  exact ⟨fd, F, dfn F sc__law_key (fun ds M Q E h => by first | exact False.elim h | (obtain ⟨rfl, _⟩ := h; rfl) | (obtain ⟨_, rfl, _⟩ := h; rfl) | (obtain ⟨_, _, rfl, _⟩ := h; rfl) | (obtain ⟨_, _, _, rfl, _⟩ := h; rfl) | (obtain ⟨_, _, _, _, rfl, _⟩ := h; rfl) | (obtain ⟨_, _, _, _, _, rfl, _⟩ := h; rfl) | (obtain ⟨_, _, _, _, _, _, rfl, _⟩ := h; rfl) | (obtain ⟨_, _, _, _, _, _, _, rfl, _⟩ := h; rfl) | (obtain ⟨_, _, _, _, _, _, _, _, rfl, _⟩ := h; rfl) | (obtain ⟨_, _, _, _, _, _, _, _, _, rfl, _⟩ := h; rfl) | (obtain ⟨_, _, _, _, _, _, _, _, _, _, rfl, _⟩ := h; rfl) | (obtain ⟨_, _, _, _, _, _, _, _, _, _, _, rfl, _⟩ := h; rfl) | (obtain ⟨_, _, _, _, _, _, _, _, _, _, _, _, rfl, _⟩ := h; rfl) | (obtain ⟨_, _, _, _, _, _, _, _, _, _, _, _, _, rfl, _⟩ := h; rfl)) fun cdv A outer s H E F0 W c hr => ⟨t__law_key K (upX W), r__law_key hx c hr, fun ds M Q h => pure__law_key hx h⟩⟩
theorem Fx.cal__law_key (hx : Fx K mg base) (w : World) (_ : Heap) : DCal P w K mg base 1 "_law_key" (sp__law_key K) := (hx.kp__law_key w base).cal (fun fd F => F.bindsN fun _ _ _ _ _ _ us hl => match us, hl with | [_, _], _ => rfl) hx.g__law_key
theorem r__law_ordered {cdv : Value} {A : Around} {outer : List Env} {s : Shared} {H : Hp} {E : XK} {F0 : Hp} {W : DXK} (hx : Fx K mg base)
    (hcd : cdv = .ref (cdA K (He.ga K "_law_ordered"))) (c : Ctx (cxOf (L2.CX P w) P w K mg base ["_law_form_here", "_law_names_here"] "_law_ordered" (defScope s__law_ordered) (He.ga K "_law_ordered") cdv A outer s H E) F0 (dW W)) (hr : Room 4 (cxOf (L2.CX P w) P w K mg base ["_law_form_here", "_law_names_here"] "_law_ordered" (defScope s__law_ordered) (He.ga K "_law_ordered") cdv A outer s H E).A) :
    DPSs (cxOf (L2.CX P w) P w K mg base ["_law_form_here", "_law_names_here"] "_law_ordered" (defScope s__law_ordered) (He.ga K "_law_ordered") cdv A outer s H E) F0 (defBody s__law_ordered) (t__law_ordered K W) :=
  dss_one (ds_ret (dpe_sortL (k := 1) hx.b_sorted (hr.mono (by decide)) hx.tb__law_ordered hcd (lam_of (N := ["_law_form_here", "_law_names_here"]) (sc := defScope s__law_ordered) (Ng := ["_law_name_here", "_law_form_here"]) (x := "_law_name_here") (fr := ["_law_form_here"]) (js := [0]) (by decide +kernel)) rfl rfl rfl (dv 1) (fun f k1 s1 H1 F1 cl hrl => dpe_call cl (hx.cal__law_key w base) (hrl.mono (by decide)) (da_cons (dv 1) (da_cons (dv 0) (da_nil))))))
theorem Fx.kp__law_ordered (hx : Fx K mg base) (w : World) (_ : Heap) : Keeps P w K mg base 5 "_law_ordered" "_law_ordered" (defArgs s__law_ordered) (defBody s__law_ordered) (defScope s__law_ordered) [] (He.ga K "_law_ordered") ["_law_form_here", "_law_names_here"] (sp__law_ordered K) := by
  obtain ⟨fd, F⟩ := hx.fd__law_ordered
  exact ⟨fd, F, dfnC F sc__law_ordered (fun ds M Q E h => by first | exact False.elim h | (obtain ⟨rfl, _⟩ := h; rfl) | (obtain ⟨_, rfl, _⟩ := h; rfl) | (obtain ⟨_, _, rfl, _⟩ := h; rfl) | (obtain ⟨_, _, _, rfl, _⟩ := h; rfl) | (obtain ⟨_, _, _, _, rfl, _⟩ := h; rfl) | (obtain ⟨_, _, _, _, _, rfl, _⟩ := h; rfl) | (obtain ⟨_, _, _, _, _, _, rfl, _⟩ := h; rfl) | (obtain ⟨_, _, _, _, _, _, _, rfl, _⟩ := h; rfl) | (obtain ⟨_, _, _, _, _, _, _, _, rfl, _⟩ := h; rfl) | (obtain ⟨_, _, _, _, _, _, _, _, _, rfl, _⟩ := h; rfl) | (obtain ⟨_, _, _, _, _, _, _, _, _, _, rfl, _⟩ := h; rfl) | (obtain ⟨_, _, _, _, _, _, _, _, _, _, _, rfl, _⟩ := h; rfl) | (obtain ⟨_, _, _, _, _, _, _, _, _, _, _, _, rfl, _⟩ := h; rfl) | (obtain ⟨_, _, _, _, _, _, _, _, _, _, _, _, _, rfl, _⟩ := h; rfl)) fun cdv A outer s H E F0 W hcd c hr => ⟨t__law_ordered K (upX W), r__law_ordered hx hcd c hr, fun ds M Q h => pure__law_ordered hx h⟩⟩
theorem Fx.cal__law_ordered (hx : Fx K mg base) (w : World) (_ : Heap) : DCal P w K mg base 5 "_law_ordered" (sp__law_ordered K) := (hx.kp__law_ordered w base).cal (fun fd F => F.bindsN fun _ _ _ _ _ _ us hl => match us, hl with | [_, _], _ => rfl) hx.g__law_ordered
theorem r__law_world {cdv : Value} {A : Around} {outer : List Env} {s : Shared} {H : Hp} {E : XK} {F0 : Hp} {W : DXK} (hx : Fx K mg base)
    (c : Ctx (cxOf (L2.CX P w) P w K mg base ["_law_purse_here", "_law_folders", "_law_names_here", "_law_places", "_law_folder", "_law_name_here"] "_law_world" (defScope s__law_world) (He.ga K "_law_world") cdv A outer s H E) F0 (dW W)) (hr : Room 3 (cxOf (L2.CX P w) P w K mg base ["_law_purse_here", "_law_folders", "_law_names_here", "_law_places", "_law_folder", "_law_name_here"] "_law_world" (defScope s__law_world) (He.ga K "_law_world") cdv A outer s H E).A) :
    DPSs (cxOf (L2.CX P w) P w K mg base ["_law_purse_here", "_law_folders", "_law_names_here", "_law_places", "_law_folder", "_law_name_here"] "_law_world" (defScope s__law_world) (He.ga K "_law_world") cdv A outer s H E) F0 (defBody s__law_world) (t__law_world K W) :=
  dss_cons (ds_set 1 c.nd (dpe_call c (hx.cal__law_names w base) (hr.mono (by decide)) (da_cons (dv 0) (da_cons (dpe_op op_dadd (dint) (dpe_call c (hx.cal__law_draw w base) (hr.mono (by decide)) (da_cons (dv 0) (da_cons (dint) (da_nil))))) (da_nil))))) (dss_cons (ds_set 2 c.nd (dpe_call c (hx.cal__law_names w base) (hr.mono (by decide)) (da_cons (dv 0) (da_cons (dpe_op op_dadd (dint) (dpe_call c (hx.cal__law_draw w base) (hr.mono (by decide)) (da_cons (dv 0) (da_cons (dint) (da_nil))))) (da_nil))))) (dss_cons (ds_set 3 c.nd (dpe_lstM (da_nil))) (dss_cons (ds_for c.own c.calm (dpi_seq (dv 1)) (dg_name 4 c.nd) (dss_one (ds_for c.own c.calm (dpi_seq (dv 2)) (dg_name 5 c.nd) (dss_one (ds_expr (dpe_bm PySem.F.plainAttrs_list PySem.F.slot_list_append PySem.F.type_list_append mt_dappend (dv 3) (da_cons (dpe_tup (da_cons (dv 4) (da_cons (dv 5) (da_nil)))) (da_nil)))))))) (dss_one (ds_ret (dv 3))))))
theorem Fx.kp__law_world (hx : Fx K mg base) (w : World) (_ : Heap) : Keeps P w K mg base 4 "_law_world" "_law_world" (defArgs s__law_world) (defBody s__law_world) (defScope s__law_world) [] (He.ga K "_law_world") ["_law_purse_here"] (sp__law_world K) := by
  obtain ⟨fd, F⟩ := hx.fd__law_world
  exact ⟨fd, F, dfn F sc__law_world (fun ds M Q E h => by first | exact False.elim h | (obtain ⟨rfl, _⟩ := h; rfl) | (obtain ⟨_, rfl, _⟩ := h; rfl) | (obtain ⟨_, _, rfl, _⟩ := h; rfl) | (obtain ⟨_, _, _, rfl, _⟩ := h; rfl) | (obtain ⟨_, _, _, _, rfl, _⟩ := h; rfl) | (obtain ⟨_, _, _, _, _, rfl, _⟩ := h; rfl) | (obtain ⟨_, _, _, _, _, _, rfl, _⟩ := h; rfl) | (obtain ⟨_, _, _, _, _, _, _, rfl, _⟩ := h; rfl) | (obtain ⟨_, _, _, _, _, _, _, _, rfl, _⟩ := h; rfl) | (obtain ⟨_, _, _, _, _, _, _, _, _, rfl, _⟩ := h; rfl) | (obtain ⟨_, _, _, _, _, _, _, _, _, _, rfl, _⟩ := h; rfl) | (obtain ⟨_, _, _, _, _, _, _, _, _, _, _, rfl, _⟩ := h; rfl) | (obtain ⟨_, _, _, _, _, _, _, _, _, _, _, _, rfl, _⟩ := h; rfl) | (obtain ⟨_, _, _, _, _, _, _, _, _, _, _, _, _, rfl, _⟩ := h; rfl)) fun cdv A outer s H E F0 W c hr => ⟨t__law_world K (upX W), r__law_world hx c hr, fun ds M Q h => pure__law_world hx h⟩⟩
theorem Fx.cal__law_world (hx : Fx K mg base) (w : World) (_ : Heap) : DCal P w K mg base 4 "_law_world" (sp__law_world K) := (hx.kp__law_world w base).cal (fun fd F => F.bindsN fun _ _ _ _ _ _ us hl => match us, hl with | [_], _ => rfl) hx.g__law_world
theorem r__law_piece {cdv : Value} {A : Around} {outer : List Env} {s : Shared} {H : Hp} {E : XK} {F0 : Hp} {W : DXK} (hx : Fx K mg base)
    (c : Ctx (cxOf (L2.CX P w) P w K mg base ["_law_purse_here", "_law_places", "_law_there", "_law_folder", "_law_form_here", "_law_way", "_law_mark", "_law_here", "_law_many", "_law_ended", "_law_place", "_law_name_here"] "_law_piece" (defScope s__law_piece) (He.ga K "_law_piece") cdv A outer s H E) F0 (dW W)) (hr : Room 5 (cxOf (L2.CX P w) P w K mg base ["_law_purse_here", "_law_places", "_law_there", "_law_folder", "_law_form_here", "_law_way", "_law_mark", "_law_here", "_law_many", "_law_ended", "_law_place", "_law_name_here"] "_law_piece" (defScope s__law_piece) (He.ga K "_law_piece") cdv A outer s H E).A) :
    DPSs (cxOf (L2.CX P w) P w K mg base ["_law_purse_here", "_law_places", "_law_there", "_law_folder", "_law_form_here", "_law_way", "_law_mark", "_law_here", "_law_many", "_law_ended", "_law_place", "_law_name_here"] "_law_piece" (defScope s__law_piece) (He.ga K "_law_piece") cdv A outer s H E) F0 (defBody s__law_piece) (t__law_piece K W) :=
  dss_cons (ds_set 3 c.nd (dpe_ix (dpe_ix (dv 1) (dpe_call c (hx.cal__law_draw w base) (hr.mono (by decide)) (da_cons (dv 0) (da_cons (dpe_callB cr_dlen hx.b_len (da_cons (dv 1) (da_nil))) (da_nil))))) (dint))) (dss_cons (ds_set 4 c.nd (dpe_call c (hx.cal__law_form w base) (hr.mono (by decide)) (da_cons (dv 0) (da_nil)))) (dss_cons (ds_set 5 c.nd (dpe_call c (hx.cal__law_draw w base) (hr.mono (by decide)) (da_cons (dv 0) (da_cons (dint) (da_nil))))) (dss_cons (ds_set 6 c.nd (dpe_if (dpt_cmp (op_deq hr.units) (dv 5) (dint)) (dpe_ix (dpe_ix (dv 1) (dpe_call c (hx.cal__law_draw w base) (hr.mono (by decide)) (da_cons (dv 0) (da_cons (dpe_callB cr_dlen hx.b_len (da_cons (dv 1) (da_nil))) (da_nil))))) (dint)) (dnon))) (dss_cons (ds_if (dpt_cmp (op_deq hr.units) (dv 5) (dint)) (dss_one (ds_set 6 c.nd (dpe_call c (hx.cal__law_name w base) (hr.mono (by decide)) (da_cons (dv 0) (da_nil))))) (dss_nil)) (dss_cons (ds_set 7 c.nd (dpe_call c (hx.cal__law_ordered w base) (hr.mono (by decide)) (da_cons (dv 4) (da_cons (dpe_lc 10 c.calm c.nd (blk_of (N := ["_law_purse_here", "_law_places", "_law_there", "_law_folder", "_law_form_here", "_law_way", "_law_mark", "_law_here", "_law_many", "_law_ended", "_law_place", "_law_name_here"]) (sc := defScope s__law_piece) (by decide +kernel)) (dpi_seq (dv 2)) (fun s H C cl fp =>  pg_name (i := 10) c.nd rfl (Or.inl rfl) (.inr rfl)) (fun s H C cl fp =>  dts_one (dpt_cmp (op_deq hr.units) (dpe_ix (dv 10) (dint)) (dv 3))) (fun s H C cl fp =>  dpe_ix (dv 10) (dint))) (da_nil))))) (dss_cons (ds_if (dpt_cmp (op_disnot) (dv 6) (dnon)) (dss_one (ds_setLc 7 11 c.calm c.nd (blk_of (N := ["_law_purse_here", "_law_places", "_law_there", "_law_folder", "_law_form_here", "_law_way", "_law_mark", "_law_here", "_law_many", "_law_ended", "_law_place", "_law_name_here"]) (sc := defScope s__law_piece) (by decide +kernel)) (dpi_seq (dv 7)) (fun s H C cl fp =>  pg_name (i := 11) c.nd rfl (Or.inl rfl) (.inr rfl)) (fun s H C cl fp =>  dts_one (dpt_cmp (op_dcmp hr.units) (dpe_call c.blk (hx.cal__law_key w base) (hr.mono (by decide)) (da_cons (dv 4) (da_cons (dv 11) (da_nil)))) (dpe_call c.blk (hx.cal__law_key w base) (hr.mono (by decide)) (da_cons (dv 4) (da_cons (dv 6) (da_nil)))))) (fun s H C cl fp =>  dv 11) rfl)) (dss_nil)) (dss_cons (ds_set 8 c.nd (dpe_callB (cr_dmin c.calm) hx.b_min (da_cons (dpe_callB cr_dlen hx.b_len (da_cons (dv 7) (da_nil))) (da_cons (dpe_callB (cr_dmax c.calm) hx.b_max (da_cons (dint) (da_cons (dpe_call c (hx.cal__law_draw w base) (hr.mono (by decide)) (da_cons (dv 0) (da_cons (dint) (da_nil)))) (da_nil)))) (da_nil))))) (dss_cons (ds_set 9 c.nd (dpe_or (dpe_cmp (op_deq hr.units) (dv 7) (dpe_lst (da_nil))) (dpe_one (dpe_and (dpe_cmp (op_deq hr.units) (dv 8) (dpe_callB cr_dlen hx.b_len (da_cons (dv 7) (da_nil)))) (dpe_one (dpe_cmp (op_dcmp hr.units) (dpe_call c (hx.cal__law_draw w base) (hr.mono (by decide)) (da_cons (dv 0) (da_cons (dint) (da_nil)))) (dint))))))) (dss_one (ds_ret (dpe_tup (da_cons (dstr) (da_cons (dv 3) (da_cons (dv 4) (da_cons (dv 6) (da_cons (dpe_slice (dv 7) dpo_none (dpo_some (dv 8))) (da_cons (dv 9) (da_nil))))))))))))))))))
theorem Fx.kp__law_piece (hx : Fx K mg base) (w : World) (_ : Heap) : Keeps P w K mg base 6 "_law_piece" "_law_piece" (defArgs s__law_piece) (defBody s__law_piece) (defScope s__law_piece) [] (He.ga K "_law_piece") ["_law_purse_here", "_law_places", "_law_there"] (sp__law_piece K) := by
  obtain ⟨fd, F⟩ := hx.fd__law_piece
  exact ⟨fd, F, dfn F sc__law_piece (fun ds M Q E h => by first | exact False.elim h | (obtain ⟨rfl, _⟩ := h; rfl) | (obtain ⟨_, rfl, _⟩ := h; rfl) | (obtain ⟨_, _, rfl, _⟩ := h; rfl) | (obtain ⟨_, _, _, rfl, _⟩ := h; rfl) | (obtain ⟨_, _, _, _, rfl, _⟩ := h; rfl) | (obtain ⟨_, _, _, _, _, rfl, _⟩ := h; rfl) | (obtain ⟨_, _, _, _, _, _, rfl, _⟩ := h; rfl) | (obtain ⟨_, _, _, _, _, _, _, rfl, _⟩ := h; rfl) | (obtain ⟨_, _, _, _, _, _, _, _, rfl, _⟩ := h; rfl) | (obtain ⟨_, _, _, _, _, _, _, _, _, rfl, _⟩ := h; rfl) | (obtain ⟨_, _, _, _, _, _, _, _, _, _, rfl, _⟩ := h; rfl) | (obtain ⟨_, _, _, _, _, _, _, _, _, _, _, rfl, _⟩ := h; rfl) | (obtain ⟨_, _, _, _, _, _, _, _, _, _, _, _, rfl, _⟩ := h; rfl) | (obtain ⟨_, _, _, _, _, _, _, _, _, _, _, _, _, rfl, _⟩ := h; rfl)) fun cdv A outer s H E F0 W c hr => ⟨t__law_piece K (upX W), r__law_piece hx c hr, fun ds M Q h => pure__law_piece hx h⟩⟩
theorem Fx.cal__law_piece (hx : Fx K mg base) (w : World) (_ : Heap) : DCal P w K mg base 6 "_law_piece" (sp__law_piece K) := (hx.kp__law_piece w base).cal (fun fd F => F.bindsN fun _ _ _ _ _ _ us hl => match us, hl with | [_, _, _], _ => rfl) hx.g__law_piece
theorem r__law_made {cdv : Value} {A : Around} {outer : List Env} {s : Shared} {H : Hp} {E : XK} {F0 : Hp} {W : DXK} (hx : Fx K mg base)
    (c : Ctx (cxOf (L2.CX P w) P w K mg base ["_law_look"] "_law_made" (defScope s__law_made) (He.ga K "_law_made") cdv A outer s H E) F0 (dW W)) (hr : Room 8 (cxOf (L2.CX P w) P w K mg base ["_law_look"] "_law_made" (defScope s__law_made) (He.ga K "_law_made") cdv A outer s H E).A) :
    DPSs (cxOf (L2.CX P w) P w K mg base ["_law_look"] "_law_made" (defScope s__law_made) (He.ga K "_law_made") cdv A outer s H E) F0 (defBody s__law_made) (t__law_made K W) :=
  dss_cons (ds_if (dpt_cmp (op_deq hr.units) (dpe_ix (dv 0) (dint)) (dstr)) (dss_one (ds_never)) (dss_nil)) (dss_one (ds_ret (dpe_make c (hx.mak_Piece5 w base) (hr.mono (by decide)) (da_cons (dpe_ix (dv 0) (dint)) (da_cons (dpe_make c (hx.mak_Form2 w base) (hr.mono (by decide)) (da_cons (dpe_ix (dpe_ix (dv 0) (dint)) (dint)) (da_cons (dpe_ix (dpe_ix (dv 0) (dint)) (dint)) (da_nil)))) (da_cons (dpe_ix (dv 0) (dint)) (da_cons (dpe_callTy cr_dlist hx.b_list (da_cons (dpe_ix (dv 0) (dint)) (da_nil))) (da_cons (dpe_ix (dv 0) (dint)) (da_nil)))))))))
theorem Fx.kp__law_made (hx : Fx K mg base) (w : World) (_ : Heap) : Keeps P w K mg base 9 "_law_made" "_law_made" (defArgs s__law_made) (defBody s__law_made) (defScope s__law_made) [] (He.ga K "_law_made") ["_law_look"] (sp__law_made K) := by
  obtain ⟨fd, F⟩ := hx.fd__law_made
  exact ⟨fd, F, dfn F sc__law_made (fun ds M Q E h => by first | exact False.elim h | (obtain ⟨rfl, _⟩ := h; rfl) | (obtain ⟨_, rfl, _⟩ := h; rfl) | (obtain ⟨_, _, rfl, _⟩ := h; rfl) | (obtain ⟨_, _, _, rfl, _⟩ := h; rfl) | (obtain ⟨_, _, _, _, rfl, _⟩ := h; rfl) | (obtain ⟨_, _, _, _, _, rfl, _⟩ := h; rfl) | (obtain ⟨_, _, _, _, _, _, rfl, _⟩ := h; rfl) | (obtain ⟨_, _, _, _, _, _, _, rfl, _⟩ := h; rfl) | (obtain ⟨_, _, _, _, _, _, _, _, rfl, _⟩ := h; rfl) | (obtain ⟨_, _, _, _, _, _, _, _, _, rfl, _⟩ := h; rfl) | (obtain ⟨_, _, _, _, _, _, _, _, _, _, rfl, _⟩ := h; rfl) | (obtain ⟨_, _, _, _, _, _, _, _, _, _, _, rfl, _⟩ := h; rfl) | (obtain ⟨_, _, _, _, _, _, _, _, _, _, _, _, rfl, _⟩ := h; rfl) | (obtain ⟨_, _, _, _, _, _, _, _, _, _, _, _, _, rfl, _⟩ := h; rfl)) fun cdv A outer s H E F0 W c hr => ⟨t__law_made K (upX W), r__law_made hx c hr, fun ds M Q h => pure__law_made hx h⟩⟩
theorem Fx.cal__law_made (hx : Fx K mg base) (w : World) (_ : Heap) : DCal P w K mg base 9 "_law_made" (sp__law_made K) := (hx.kp__law_made w base).cal (fun fd F => F.bindsN fun _ _ _ _ _ _ us hl => match us, hl with | [_], _ => rfl) hx.g__law_made
theorem r__law_says {cdv : Value} {A : Around} {outer : List Env} {s : Shared} {H : Hp} {E : XK} {F0 : Hp} {W : DXK} (hx : Fx K mg base)
    (c : Ctx (cxOf (L2.CX P w) P w K mg base ["_law_look", "_law_place", "_law_one", "_law_stands", "_law_word", "_law_folder", "_law_form_here", "_law_mark", "_law_names_here", "_law_ended", "_law_rank"] "_law_says" (defScope s__law_says) (He.ga K "_law_says") cdv A outer s H E) F0 (dW W)) (hr : Room 1 (cxOf (L2.CX P w) P w K mg base ["_law_look", "_law_place", "_law_one", "_law_stands", "_law_word", "_law_folder", "_law_form_here", "_law_mark", "_law_names_here", "_law_ended", "_law_rank"] "_law_says" (defScope s__law_says) (He.ga K "_law_says") cdv A outer s H E).A) :
    DPSs (cxOf (L2.CX P w) P w K mg base ["_law_look", "_law_place", "_law_one", "_law_stands", "_law_word", "_law_folder", "_law_form_here", "_law_mark", "_law_names_here", "_law_ended", "_law_rank"] "_law_says" (defScope s__law_says) (He.ga K "_law_says") cdv A outer s H E) F0 (defBody s__law_says) (t__law_says K W) :=
  dss_cons (ds_if (dpt_cmp (op_deq hr.units) (dpe_ix (dv 0) (dint)) (dstr)) (dss_cons (ds_never) (dss_one (ds_never))) (dss_nil)) (dss_cons (ds_asg (dv 0) (dg_tup c.calm (dgs_cons (dg_name 4 c.nd) (dgs_cons (dg_name 5 c.nd) (dgs_cons (dg_name 6 c.nd) (dgs_cons (dg_name 7 c.nd) (dgs_cons (dg_name 8 c.nd) (dgs_cons (dg_name 9 c.nd) (dgs_nil))))))))) (dss_cons (ds_if (dpt_cmp (op_dne hr.units) (dpe_ix (dv 1) (dint)) (dv 5)) (dss_one (ds_ret (dnon))) (dss_nil)) (dss_cons (ds_set 10 c.nd (dpe_call c (hx.cal__law_key w base) (hr.mono (by decide)) (da_cons (dv 6) (da_cons (dpe_ix (dv 1) (dint)) (da_nil))))) (dss_cons (ds_if (dpw (dpw_and (dpt_cmp (op_disnot) (dv 7) (dnon)) (dpw_and1 (dpt_cmp (op_dcmp hr.units) (dv 10) (dpe_call c (hx.cal__law_key w base) (hr.mono (by decide)) (da_cons (dv 6) (da_cons (dv 7) (da_nil)))))))) (dss_one (ds_ret (dnon))) (dss_nil)) (dss_cons (ds_if (dpw (dpw_and (dpt_not (dpt_val (dv 9))) (dpw_and1 (dpt_cmp (op_dcmp hr.units) (dv 10) (dpe_call c (hx.cal__law_key w base) (hr.mono (by decide)) (da_cons (dv 6) (da_cons (dpe_ix (dv 8) (dpe_un dnegR (dint))) (da_nil)))))))) (dss_one (ds_ret (dnon))) (dss_nil)) (dss_one (ds_ret (dpe_cmp (op_din hr.units) (dpe_ix (dv 1) (dint)) (dv 8)))))))))
theorem Fx.kp__law_says (hx : Fx K mg base) (w : World) (_ : Heap) : Keeps P w K mg base 2 "_law_says" "_law_says" (defArgs s__law_says) (defBody s__law_says) (defScope s__law_says) [] (He.ga K "_law_says") ["_law_look", "_law_place"] (sp__law_says K) := by
  obtain ⟨fd, F⟩ := hx.fd__law_says
  exact ⟨fd, F, dfn F sc__law_says (fun ds M Q E h => by first | exact False.elim h | (obtain ⟨rfl, _⟩ := h; rfl) | (obtain ⟨_, rfl, _⟩ := h; rfl) | (obtain ⟨_, _, rfl, _⟩ := h; rfl) | (obtain ⟨_, _, _, rfl, _⟩ := h; rfl) | (obtain ⟨_, _, _, _, rfl, _⟩ := h; rfl) | (obtain ⟨_, _, _, _, _, rfl, _⟩ := h; rfl) | (obtain ⟨_, _, _, _, _, _, rfl, _⟩ := h; rfl) | (obtain ⟨_, _, _, _, _, _, _, rfl, _⟩ := h; rfl) | (obtain ⟨_, _, _, _, _, _, _, _, rfl, _⟩ := h; rfl) | (obtain ⟨_, _, _, _, _, _, _, _, _, rfl, _⟩ := h; rfl) | (obtain ⟨_, _, _, _, _, _, _, _, _, _, rfl, _⟩ := h; rfl) | (obtain ⟨_, _, _, _, _, _, _, _, _, _, _, rfl, _⟩ := h; rfl) | (obtain ⟨_, _, _, _, _, _, _, _, _, _, _, _, rfl, _⟩ := h; rfl) | (obtain ⟨_, _, _, _, _, _, _, _, _, _, _, _, _, rfl, _⟩ := h; rfl)) fun cdv A outer s H E F0 W c hr => ⟨t__law_says K (upX W), r__law_says hx c hr, fun ds M Q h => pure__law_says hx h⟩⟩
theorem Fx.cal__law_says (hx : Fx K mg base) (w : World) (_ : Heap) : DCal P w K mg base 2 "_law_says" (sp__law_says K) := (hx.kp__law_says w base).cal (fun fd F => F.bindsN fun _ _ _ _ _ _ us hl => match us, hl with | [_, _], _ => rfl) hx.g__law_says
theorem r__law_standing {cdv : Value} {A : Around} {outer : List Env} {s : Shared} {H : Hp} {E : XK} {F0 : Hp} {W : DXK} (hx : Fx K mg base)
    (c : Ctx (cxOf (L2.CX P w) P w K mg base ["_law_look", "_law_one", "_law_stands", "_law_name_here"] "_law_standing" (defScope s__law_standing) (He.ga K "_law_standing") cdv A outer s H E) F0 (dW W)) (hr : Room 0 (cxOf (L2.CX P w) P w K mg base ["_law_look", "_law_one", "_law_stands", "_law_name_here"] "_law_standing" (defScope s__law_standing) (He.ga K "_law_standing") cdv A outer s H E).A) :
    DPSs (cxOf (L2.CX P w) P w K mg base ["_law_look", "_law_one", "_law_stands", "_law_name_here"] "_law_standing" (defScope s__law_standing) (He.ga K "_law_standing") cdv A outer s H E) F0 (defBody s__law_standing) (t__law_standing K W) :=
  dss_cons (ds_if (dpt_cmp (op_deq hr.units) (dpe_ix (dv 0) (dint)) (dstr)) (dss_one (ds_never)) (dss_nil)) (dss_one (ds_ret (dpe_callB (cr_dsorted hr.units) hx.b_sorted (da_cons (dpe_lc 3 c.calm c.nd (blk_of (N := ["_law_look", "_law_one", "_law_stands", "_law_name_here"]) (sc := defScope s__law_standing) (by decide +kernel)) (dpi_seq (dpe_ix (dv 0) (dint))) (fun s H C cl fp =>  pg_name (i := 3) c.nd rfl (Or.inl rfl) (.inr rfl)) (fun s H C cl fp =>  dts_nil) (fun s H C cl fp =>  dpe_tup (da_cons (dpe_ix (dv 0) (dint)) (da_cons (dv 3) (da_nil))))) (da_nil)))))
theorem Fx.kp__law_standing (hx : Fx K mg base) (w : World) (_ : Heap) : Keeps P w K mg base 1 "_law_standing" "_law_standing" (defArgs s__law_standing) (defBody s__law_standing) (defScope s__law_standing) [] (He.ga K "_law_standing") ["_law_look"] (sp__law_standing K) := by
  obtain ⟨fd, F⟩ := hx.fd__law_standing
  exact ⟨fd, F, dfn F sc__law_standing (fun ds M Q E h => by first | exact False.elim h | (obtain ⟨rfl, _⟩ := h; rfl) | (obtain ⟨_, rfl, _⟩ := h; rfl) | (obtain ⟨_, _, rfl, _⟩ := h; rfl) | (obtain ⟨_, _, _, rfl, _⟩ := h; rfl) | (obtain ⟨_, _, _, _, rfl, _⟩ := h; rfl) | (obtain ⟨_, _, _, _, _, rfl, _⟩ := h; rfl) | (obtain ⟨_, _, _, _, _, _, rfl, _⟩ := h; rfl) | (obtain ⟨_, _, _, _, _, _, _, rfl, _⟩ := h; rfl) | (obtain ⟨_, _, _, _, _, _, _, _, rfl, _⟩ := h; rfl) | (obtain ⟨_, _, _, _, _, _, _, _, _, rfl, _⟩ := h; rfl) | (obtain ⟨_, _, _, _, _, _, _, _, _, _, rfl, _⟩ := h; rfl) | (obtain ⟨_, _, _, _, _, _, _, _, _, _, _, rfl, _⟩ := h; rfl) | (obtain ⟨_, _, _, _, _, _, _, _, _, _, _, _, rfl, _⟩ := h; rfl) | (obtain ⟨_, _, _, _, _, _, _, _, _, _, _, _, _, rfl, _⟩ := h; rfl)) fun cdv A outer s H E F0 W c hr => ⟨t__law_standing K (upX W), r__law_standing hx c hr, fun ds M Q h => pure__law_standing hx h⟩⟩
theorem Fx.cal__law_standing (hx : Fx K mg base) (w : World) (_ : Heap) : DCal P w K mg base 1 "_law_standing" (sp__law_standing K) := (hx.kp__law_standing w base).cal (fun fd F => F.bindsN fun _ _ _ _ _ _ us hl => match us, hl with | [_], _ => rfl) hx.g__law_standing
theorem r__law_around {cdv : Value} {A : Around} {outer : List Env} {s : Shared} {H : Hp} {E : XK} {F0 : Hp} {W : DXK} (hx : Fx K mg base)
    (c : Ctx (cxOf (L2.CX P w) P w K mg base ["_law_purse_here", "_law_places", "_law_look", "_law_found", "_law_place", "_law_name_here"] "_law_around" (defScope s__law_around) (He.ga K "_law_around") cdv A outer s H E) F0 (dW W)) (hr : Room 2 (cxOf (L2.CX P w) P w K mg base ["_law_purse_here", "_law_places", "_law_look", "_law_found", "_law_place", "_law_name_here"] "_law_around" (defScope s__law_around) (He.ga K "_law_around") cdv A outer s H E).A) :
    DPSs (cxOf (L2.CX P w) P w K mg base ["_law_purse_here", "_law_places", "_law_look", "_law_found", "_law_place", "_law_name_here"] "_law_around" (defScope s__law_around) (He.ga K "_law_around") cdv A outer s H E) F0 (defBody s__law_around) (t__law_around K W) :=
  dss_cons (ds_set 3 c.nd (dpe_op op_daddM (dpe_callTy cr_dlist hx.b_list (da_cons (dv 1) (da_nil))) (dpe_lst (da_cons (dpe_tup (da_cons (dpe_ix (dv 2) (dint)) (da_cons (dpe_call c (hx.cal__law_name w base) (hr.mono (by decide)) (da_cons (dv 0) (da_nil))) (da_nil)))) (da_cons (dpe_tup (da_cons (dpe_call c (hx.cal__law_name w base) (hr.mono (by decide)) (da_cons (dv 0) (da_nil))) (da_cons (dpe_ix (dpe_ix (dv 1) (dint)) (dint)) (da_nil)))) (da_cons (dpe_tup (da_cons (dpe_ix (dv 2) (dint)) (da_cons (dstr) (da_nil)))) (da_nil))))))) (dss_cons (ds_for c.own c.calm (dpi_seq (dpe_op op_dadd (dv 1) (dpe_lc 5 c.calm c.nd (blk_of (N := ["_law_purse_here", "_law_places", "_law_look", "_law_found", "_law_place", "_law_name_here"]) (sc := defScope s__law_around) (by decide +kernel)) (dpi_seq (dpe_ix (dv 2) (dint))) (fun s H C cl fp =>  pg_name (i := 5) c.nd rfl (Or.inl rfl) (.inr rfl)) (fun s H C cl fp =>  dts_nil) (fun s H C cl fp =>  dpe_tup (da_cons (dpe_ix (dv 2) (dint)) (da_cons (dv 5) (da_nil))))))) (dg_name 4 c.nd) (dss_cons (ds_expr (dpe_bm PySem.F.plainAttrs_list PySem.F.slot_list_append PySem.F.type_list_append mt_dappend (dv 3) (da_cons (dpe_tup (da_cons (dpe_ix (dv 2) (dint)) (da_cons (dpe_ix (dv 4) (dint)) (da_nil)))) (da_nil)))) (dss_cons (ds_expr (dpe_bm PySem.F.plainAttrs_list PySem.F.slot_list_append PySem.F.type_list_append mt_dappend (dv 3) (da_cons (dpe_tup (da_cons (dpe_ix (dv 2) (dint)) (da_cons (dpe_slice (dpe_op op_dadd (dpe_ix (dv 4) (dint)) (dstr)) dpo_none (dpo_some (dint))) (da_nil)))) (da_nil)))) (dss_cons (ds_expr (dpe_bm PySem.F.plainAttrs_list PySem.F.slot_list_append PySem.F.type_list_append mt_dappend (dv 3) (da_cons (dpe_tup (da_cons (dpe_ix (dv 2) (dint)) (da_cons (dpe_slice (dpe_op op_dadd (dpe_slice (dpe_ix (dv 4) (dint)) dpo_none (dpo_some (dpe_un dnegR (dint)))) (dstr)) dpo_none (dpo_some (dint))) (da_nil)))) (da_nil)))) (dss_one (ds_expr (dpe_bm PySem.F.plainAttrs_list PySem.F.slot_list_append PySem.F.type_list_append mt_dappend (dv 3) (da_cons (dpe_tup (da_cons (dpe_ix (dv 2) (dint)) (da_cons (dpe_slice (dpe_ix (dv 4) (dint)) dpo_none (dpo_some (dpe_callB (cr_dmax c.calm) hx.b_max (da_cons (dint) (da_cons (dpe_op op_dsub (dpe_callB cr_dlen hx.b_len (da_cons (dpe_ix (dv 4) (dint)) (da_nil))) (dint)) (da_nil)))))) (da_nil)))) (da_nil))))))))) (dss_cons (ds_if (dpt_cmp (op_disnot) (dpe_ix (dv 2) (dint)) (dnon)) (dss_one (ds_set 3 c.nd (dpe_op op_daddM (dv 3) (dpe_lst (da_cons (dpe_tup (da_cons (dpe_ix (dv 2) (dint)) (da_cons (dpe_ix (dv 2) (dint)) (da_nil)))) (da_cons (dpe_tup (da_cons (dpe_ix (dv 2) (dint)) (da_cons (dpe_slice (dpe_op op_dadd (dpe_ix (dv 2) (dint)) (dstr)) dpo_none (dpo_some (dint))) (da_nil)))) (da_nil))))))) (dss_nil)) (dss_one (ds_ret (dv 3)))))
theorem Fx.kp__law_around (hx : Fx K mg base) (w : World) (_ : Heap) : Keeps P w K mg base 3 "_law_around" "_law_around" (defArgs s__law_around) (defBody s__law_around) (defScope s__law_around) [] (He.ga K "_law_around") ["_law_purse_here", "_law_places", "_law_look"] (sp__law_around K) := by
  obtain ⟨fd, F⟩ := hx.fd__law_around
  exact ⟨fd, F, dfn F sc__law_around (fun ds M Q E h => by first | exact False.elim h | (obtain ⟨rfl, _⟩ := h; rfl) | (obtain ⟨_, rfl, _⟩ := h; rfl) | (obtain ⟨_, _, rfl, _⟩ := h; rfl) | (obtain ⟨_, _, _, rfl, _⟩ := h; rfl) | (obtain ⟨_, _, _, _, rfl, _⟩ := h; rfl) | (obtain ⟨_, _, _, _, _, rfl, _⟩ := h; rfl) | (obtain ⟨_, _, _, _, _, _, rfl, _⟩ := h; rfl) | (obtain ⟨_, _, _, _, _, _, _, rfl, _⟩ := h; rfl) | (obtain ⟨_, _, _, _, _, _, _, _, rfl, _⟩ := h; rfl) | (obtain ⟨_, _, _, _, _, _, _, _, _, rfl, _⟩ := h; rfl) | (obtain ⟨_, _, _, _, _, _, _, _, _, _, rfl, _⟩ := h; rfl) | (obtain ⟨_, _, _, _, _, _, _, _, _, _, _, rfl, _⟩ := h; rfl) | (obtain ⟨_, _, _, _, _, _, _, _, _, _, _, _, rfl, _⟩ := h; rfl) | (obtain ⟨_, _, _, _, _, _, _, _, _, _, _, _, _, rfl, _⟩ := h; rfl)) fun cdv A outer s H E F0 W c hr => ⟨t__law_around K (upX W), r__law_around hx c hr, fun ds M Q h => pure__law_around hx h⟩⟩
theorem Fx.cal__law_around (hx : Fx K mg base) (w : World) (_ : Heap) : DCal P w K mg base 3 "_law_around" (sp__law_around K) := (hx.kp__law_around w base).cal (fun fd F => F.bindsN fun _ _ _ _ _ _ us hl => match us, hl with | [_, _, _], _ => rfl) hx.g__law_around
theorem r__law_strangers {cdv : Value} {A : Around} {outer : List Env} {s : Shared} {H : Hp} {E : XK} {F0 : Hp} {W : DXK} (hx : Fx K mg base)
    (c : Ctx (cxOf (L2.CX P w) P w K mg base ["_law_place", "_law_folder", "_law_name_here"] "_law_strangers" (defScope s__law_strangers) (He.ga K "_law_strangers") cdv A outer s H E) F0 (dW W)) (hr : Room 0 (cxOf (L2.CX P w) P w K mg base ["_law_place", "_law_folder", "_law_name_here"] "_law_strangers" (defScope s__law_strangers) (He.ga K "_law_strangers") cdv A outer s H E).A) :
    DPSs (cxOf (L2.CX P w) P w K mg base ["_law_place", "_law_folder", "_law_name_here"] "_law_strangers" (defScope s__law_strangers) (He.ga K "_law_strangers") cdv A outer s H E) F0 (defBody s__law_strangers) (t__law_strangers K W) :=
  dss_cons (ds_asg (dv 0) (dg_tup c.calm (dgs_cons (dg_name 1 c.nd) (dgs_cons (dg_name 2 c.nd) (dgs_nil))))) (dss_one (ds_ret (dpe_lst (da_cons (dv 1) (da_cons (dv 2) (da_cons (dpe_lst (da_cons (dv 1) (da_cons (dv 2) (da_nil)))) (da_cons (dpe_tup (da_cons (dv 1) (da_nil))) (da_cons (dpe_tup (da_cons (dv 1) (da_cons (dv 2) (da_cons (dv 2) (da_nil))))) (da_cons (dpe_tup (da_cons (dv 1) (da_cons (dstr) (da_nil)))) (da_cons (dpe_tup (da_cons (dstr) (da_cons (dv 2) (da_nil)))) (da_cons (dnon) (da_cons (dbl) (da_cons (dint) (da_cons (dpe_tup (da_cons (dv 1) (da_cons (dpe_bm0 PySem.F.plainAttrs_str PySem.F.slot_str_upper PySem.F.type_str_upper mt_dupper (dv 2)) (da_nil)))) (da_cons (dpe_tup (da_cons (dv 1) (da_cons (dpe_lst (da_cons (dv 2) (da_nil))) (da_nil)))) (da_cons (dpe_tup (da_cons (dpe_op op_dadd (dv 1) (dstr)) (da_cons (dv 2) (da_nil)))) (da_cons (dpe_tup (da_cons (dv 2) (da_cons (dint) (da_nil)))) (da_cons (dpe_tup (da_cons (dpe_tup (da_cons (dv 1) (da_cons (dv 2) (da_nil)))) (da_cons (dv 2) (da_nil)))) (da_nil)))))))))))))))))))
theorem Fx.kp__law_strangers (hx : Fx K mg base) (w : World) (_ : Heap) : Keeps P w K mg base 1 "_law_strangers" "_law_strangers" (defArgs s__law_strangers) (defBody s__law_strangers) (defScope s__law_strangers) [] (He.ga K "_law_strangers") ["_law_place"] (sp__law_strangers K) := by
  obtain ⟨fd, F⟩ := hx.fd__law_strangers
  exact ⟨fd, F, dfn F sc__law_strangers (fun ds M Q E h => by first | exact False.elim h | (obtain ⟨rfl, _⟩ := h; rfl) | (obtain ⟨_, rfl, _⟩ := h; rfl) | (obtain ⟨_, _, rfl, _⟩ := h; rfl) | (obtain ⟨_, _, _, rfl, _⟩ := h; rfl) | (obtain ⟨_, _, _, _, rfl, _⟩ := h; rfl) | (obtain ⟨_, _, _, _, _, rfl, _⟩ := h; rfl) | (obtain ⟨_, _, _, _, _, _, rfl, _⟩ := h; rfl) | (obtain ⟨_, _, _, _, _, _, _, rfl, _⟩ := h; rfl) | (obtain ⟨_, _, _, _, _, _, _, _, rfl, _⟩ := h; rfl) | (obtain ⟨_, _, _, _, _, _, _, _, _, rfl, _⟩ := h; rfl) | (obtain ⟨_, _, _, _, _, _, _, _, _, _, rfl, _⟩ := h; rfl) | (obtain ⟨_, _, _, _, _, _, _, _, _, _, _, rfl, _⟩ := h; rfl) | (obtain ⟨_, _, _, _, _, _, _, _, _, _, _, _, rfl, _⟩ := h; rfl) | (obtain ⟨_, _, _, _, _, _, _, _, _, _, _, _, _, rfl, _⟩ := h; rfl)) fun cdv A outer s H E F0 W c hr => ⟨t__law_strangers K (upX W), r__law_strangers hx c hr, fun ds M Q h => pure__law_strangers hx h⟩⟩
theorem Fx.cal__law_strangers (hx : Fx K mg base) (w : World) (_ : Heap) : DCal P w K mg base 1 "_law_strangers" (sp__law_strangers K) := (hx.kp__law_strangers w base).cal (fun fd F => F.bindsN fun _ _ _ _ _ _ us hl => match us, hl with | [_], _ => rfl) hx.g__law_strangers
theorem r__law_raises {cdv : Value} {A : Around} {outer : List Env} {s : Shared} {H : Hp} {E : XK} {F0 : Hp} {W : DXK} (hx : Fx K mg base)
    (c : Ctx (cxOf (L2.CX P w) P w K mg base ["_law_look", "_law_value", "_law_found", "e"] "_law_raises" (defScope s__law_raises) (He.ga K "_law_raises") cdv A outer s H E) F0 (dW W)) (hr : Room 4 (cxOf (L2.CX P w) P w K mg base ["_law_look", "_law_value", "_law_found", "e"] "_law_raises" (defScope s__law_raises) (He.ga K "_law_raises") cdv A outer s H E).A) :
    DPSs (cxOf (L2.CX P w) P w K mg base ["_law_look", "_law_value", "_law_found", "e"] "_law_raises" (defScope s__law_raises) (He.ga K "_law_raises") cdv A outer s H E) F0 (defBody s__law_raises) (t__law_raises K W) :=
  dss_cons (ds_set 2 c.nd (dpe_lst (da_cons (dstr) (da_nil)))) (dss_cons (ds_try c 3 (fun F1 W1 pn xe c1 => dss_one (ds_expr (dpe_meth c1 (hx.dm_says w base) (hr.mono (by decide)) (dv 0) (da_cons (dv 1) (da_nil))))) (DHds.cons ⟨rfl, by decide, .inl hx.g_InvalidPlace⟩ (fun F1 a oe C fs pn sui => dss_one (ds_set 2 c.nd (dpe_lst (da_cons (dpe_xf sui (dv 3)) (da_nil))))) (DHds.nil))) (dss_one (ds_ret (dpe_cmp (op_deqR' hr.units) (dv 2) (dpe_lst (da_cons (dv 1) (da_nil)))))))
theorem Fx.kp__law_raises (hx : Fx K mg base) (w : World) (_ : Heap) : Keeps P w K mg base 5 "_law_raises" "_law_raises" (defArgs s__law_raises) (defBody s__law_raises) (defScope s__law_raises) [] (He.ga K "_law_raises") ["_law_look", "_law_value"] (sp__law_raises K) := by
  obtain ⟨fd, F⟩ := hx.fd__law_raises
  exact ⟨fd, F, dfn F sc__law_raises (fun ds M Q E h => by first | exact False.elim h | (obtain ⟨rfl, _⟩ := h; rfl) | (obtain ⟨_, rfl, _⟩ := h; rfl) | (obtain ⟨_, _, rfl, _⟩ := h; rfl) | (obtain ⟨_, _, _, rfl, _⟩ := h; rfl) | (obtain ⟨_, _, _, _, rfl, _⟩ := h; rfl) | (obtain ⟨_, _, _, _, _, rfl, _⟩ := h; rfl) | (obtain ⟨_, _, _, _, _, _, rfl, _⟩ := h; rfl) | (obtain ⟨_, _, _, _, _, _, _, rfl, _⟩ := h; rfl) | (obtain ⟨_, _, _, _, _, _, _, _, rfl, _⟩ := h; rfl) | (obtain ⟨_, _, _, _, _, _, _, _, _, rfl, _⟩ := h; rfl) | (obtain ⟨_, _, _, _, _, _, _, _, _, _, rfl, _⟩ := h; rfl) | (obtain ⟨_, _, _, _, _, _, _, _, _, _, _, rfl, _⟩ := h; rfl) | (obtain ⟨_, _, _, _, _, _, _, _, _, _, _, _, rfl, _⟩ := h; rfl) | (obtain ⟨_, _, _, _, _, _, _, _, _, _, _, _, _, rfl, _⟩ := h; rfl)) fun cdv A outer s H E F0 W c hr => ⟨t__law_raises K (upX W), r__law_raises hx c hr, fun ds M Q h => pure__law_raises hx h⟩⟩
theorem Fx.cal__law_raises (hx : Fx K mg base) (w : World) (_ : Heap) : DCal P w K mg base 5 "_law_raises" (sp__law_raises K) := (hx.kp__law_raises w base).cal (fun fd F => F.bindsN fun _ _ _ _ _ _ us hl => match us, hl with | [_, _], _ => rfl) hx.g__law_raises
theorem r_law {cdv : Value} {A : Around} {outer : List Env} {s : Shared} {H : Hp} {E : XK} {F0 : Hp} {W : DXK} (hx : Fx K mg base)
    (c : Ctx (cxOf (L2.CX P w) P w K mg base ["_law_script", "_law_at", "_law_purse_here", "_law_places", "_law_there", "_law_look", "_law_piece_here", "_law_place", "_law_due", "_law_told", "_law_strangers_here", "_law_one"] "law" (defScope s_law) (He.ga K "law") cdv A outer s H E) F0 (dW W)) (hr : Room 9 (cxOf (L2.CX P w) P w K mg base ["_law_script", "_law_at", "_law_purse_here", "_law_places", "_law_there", "_law_look", "_law_piece_here", "_law_place", "_law_due", "_law_told", "_law_strangers_here", "_law_one"] "law" (defScope s_law) (He.ga K "law") cdv A outer s H E).A) :
    DPSs (cxOf (L2.CX P w) P w K mg base ["_law_script", "_law_at", "_law_purse_here", "_law_places", "_law_there", "_law_look", "_law_piece_here", "_law_place", "_law_due", "_law_told", "_law_strangers_here", "_law_one"] "law" (defScope s_law) (He.ga K "law") cdv A outer s H E) F0 (defBody s_law) (t_law K W) :=
  dss_cons (ds_for c.own c.calm (dpi_range1 hx.b_range (da_cons (dint) (da_nil))) (dg_name 1 c.nd) (dss_cons (ds_set 2 c.nd (dpe_call c (hx.cal__law_purse w base) (hr.mono (by decide)) (da_cons (dv 0) (da_cons (dv 1) (da_nil))))) (dss_cons (ds_set 3 c.nd (dpe_call c (hx.cal__law_world w base) (hr.mono (by decide)) (da_cons (dv 2) (da_nil)))) (dss_cons (ds_setLc 4 7 c.calm c.nd (blk_of (N := ["_law_script", "_law_at", "_law_purse_here", "_law_places", "_law_there", "_law_look", "_law_piece_here", "_law_place", "_law_due", "_law_told", "_law_strangers_here", "_law_one"]) (sc := defScope s_law) (by decide +kernel)) (dpi_seq (dv 3)) (fun s H C cl fp =>  pg_name (i := 7) c.nd rfl (Or.inl rfl) (.inr rfl)) (fun s H C cl fp =>  dts_one (dpt_cmp (op_dcmp hr.units) (dpe_call c.blk (hx.cal__law_draw w base) (hr.mono (by decide)) (da_cons (dv 2) (da_cons (dint) (da_nil)))) (dint))) (fun s H C cl fp =>  dv 7) rfl) (dss_cons (ds_set 5 c.nd (dpe_call c (hx.cal__law_piece w base) (hr.mono (by decide)) (da_cons (dv 2) (da_cons (dv 3) (da_cons (dv 4) (da_nil)))))) (dss_cons (ds_set 6 c.nd (dpe_call c (hx.cal__law_made w base) (hr.mono (by decide)) (da_cons (dv 5) (da_nil)))) (dss_cons (ds_for c.own c.calm (dpi_seq (dpe_call c (hx.cal__law_around w base) (hr.mono (by decide)) (da_cons (dv 2) (da_cons (dv 3) (da_cons (dv 5) (da_nil)))))) (dg_name 7 c.nd) (dss_cons (ds_set 8 c.nd (dpe_call c (hx.cal__law_says w base) (hr.mono (by decide)) (da_cons (dv 5) (da_cons (dv 7) (da_nil))))) (dss_cons (ds_set 9 c.nd (dpe_meth c (hx.dm_says w base) (hr.mono (by decide)) (dv 6) (da_cons (dv 7) (da_nil)))) (dss_one (ds_if (dpw (dpw_or (dpt_cmp (op_dne hr.units) (dv 9) (dv 8)) (dpw_or (dpt_cmp (op_dne hr.units) (dpe_callB cr_disi hx.b_isinstance (da_cons (dv 9) (da_cons ((dbltn hx.b_bool Boot.«bool»)) (da_nil)))) (dpe_cmp (op_disnot) (dv 8) (dnon))) (dpw_or1 (dpt_cmp (op_dne hr.units) (dpe_cmp (op_dinO c (hx.dm___contains__ w base) (hr.mono (by decide))) (dv 7) (dv 6)) (dpe_cmp (op_disnot) (dv 8) (dnon))))))) (dss_one (ds_ret (dbl))) (dss_nil)))))) (dss_cons (ds_set 9 c.nd (dpe_meth0 c (hx.dm_standing w base) (hr.mono (by decide)) (dv 6))) (dss_cons (ds_if (dpw (dpw_or (dpt_not (dpt_val (dpe_callB cr_disi hx.b_isinstance (da_cons (dv 9) (da_cons ((dbltn hx.b_list Boot.«list»)) (da_nil)))))) (dpw_or1 (dpt_cmp (op_dne hr.units) (dv 9) (dpe_call c (hx.cal__law_standing w base) (hr.mono (by decide)) (da_cons (dv 5) (da_nil))))))) (dss_one (ds_ret (dbl))) (dss_nil)) (dss_cons (ds_expr (dpe_bm PySem.F.plainAttrs_list PySem.F.slot_list_append PySem.F.type_list_append mt_dappend (dv 9) (da_cons (dpe_ix (dv 3) (dint)) (da_nil)))) (dss_cons (ds_if (dpt_cmp (op_dne hr.units) (dpe_meth0 c (hx.dm_standing w base) (hr.mono (by decide)) (dv 6)) (dpe_call c (hx.cal__law_standing w base) (hr.mono (by decide)) (da_cons (dv 5) (da_nil)))) (dss_one (ds_ret (dbl))) (dss_nil)) (dss_cons (ds_set 10 c.nd (dpe_call c (hx.cal__law_strangers w base) (hr.mono (by decide)) (da_cons (dpe_ix (dv 3) (dpe_call c (hx.cal__law_draw w base) (hr.mono (by decide)) (da_cons (dv 2) (da_cons (dpe_callB cr_dlen hx.b_len (da_cons (dv 3) (da_nil))) (da_nil))))) (da_nil)))) (dss_one (ds_if (dpt_cmp (op_dne hr.units) (dpe_lc 11 c.calm c.nd (blk_of (N := ["_law_script", "_law_at", "_law_purse_here", "_law_places", "_law_there", "_law_look", "_law_piece_here", "_law_place", "_law_due", "_law_told", "_law_strangers_here", "_law_one"]) (sc := defScope s_law) (by decide +kernel)) (dpi_seq (dv 10)) (fun s H C cl fp =>  pg_name (i := 11) c.nd rfl (Or.inl rfl) (.inr rfl)) (fun s H C cl fp =>  dts_one (dpw (dpw_or (dpt_cmp (op_dinO c.blk (hx.dm___contains__ w base) (hr.mono (by decide))) (dv 11) (dv 6)) (dpw_or1 (dpt_not (dpt_val (dpe_call c.blk (hx.cal__law_raises w base) (hr.mono (by decide)) (da_cons (dv 6) (da_cons (dv 11) (da_nil)))))))))) (fun s H C cl fp =>  dv 11)) (dpe_lst (da_nil))) (dss_one (ds_ret (dbl))) (dss_nil))))))))))))))) (dss_one (ds_ret (dbl)))
theorem Fx.kp_law (hx : Fx K mg base) (w : World) (_ : Heap) : Keeps P w K mg base 10 "law" "law" (defArgs s_law) (defBody s_law) (defScope s_law) [] (He.ga K "law") ["_law_script"] (sp_law K) := by
  obtain ⟨fd, F⟩ := hx.fd_law
  exact ⟨fd, F, dfn F sc_law (fun ds M Q E h => by first | exact False.elim h | (obtain ⟨rfl, _⟩ := h; rfl) | (obtain ⟨_, rfl, _⟩ := h; rfl) | (obtain ⟨_, _, rfl, _⟩ := h; rfl) | (obtain ⟨_, _, _, rfl, _⟩ := h; rfl) | (obtain ⟨_, _, _, _, rfl, _⟩ := h; rfl) | (obtain ⟨_, _, _, _, _, rfl, _⟩ := h; rfl) | (obtain ⟨_, _, _, _, _, _, rfl, _⟩ := h; rfl) | (obtain ⟨_, _, _, _, _, _, _, rfl, _⟩ := h; rfl) | (obtain ⟨_, _, _, _, _, _, _, _, rfl, _⟩ := h; rfl) | (obtain ⟨_, _, _, _, _, _, _, _, _, rfl, _⟩ := h; rfl) | (obtain ⟨_, _, _, _, _, _, _, _, _, _, rfl, _⟩ := h; rfl) | (obtain ⟨_, _, _, _, _, _, _, _, _, _, _, rfl, _⟩ := h; rfl) | (obtain ⟨_, _, _, _, _, _, _, _, _, _, _, _, rfl, _⟩ := h; rfl) | (obtain ⟨_, _, _, _, _, _, _, _, _, _, _, _, _, rfl, _⟩ := h; rfl)) fun cdv A outer s H E F0 W c hr => ⟨t_law K (upX W), r_law hx c hr, fun ds M Q h => pure_law hx h⟩⟩
theorem Fx.cal_law (hx : Fx K mg base) (w : World) (_ : Heap) : DCal P w K mg base 10 "law" (sp_law K) := (hx.kp_law w base).cal (fun fd F => F.bindsN fun _ _ _ _ _ _ us hl => match us, hl with | [_], _ => rfl) hx.g_law
end
end K06
set_option Elab.async false
set_option linter.all false
set_option maxRecDepth 100000
set_option maxHeartbeats 4000000
namespace K06
open PySem PySem.Spec PyProof.Rows L2 DX DL DH DS PL LM
abbrev R : PySem.W.OpenRow := PySem.W.OpenLaw.row PySem.Challenge.rw_betweenlists_k06_pieces_say
def loose0 : List Str := ["_wall", "BetweenError", "InvalidName", "InvalidPlace", "InvalidForm", "InvalidLook", "InvalidNumber", "ALPHABET", "is_whole", "is_name", "is_place", "are_places", "check_name", "check_place", "check_whole", "MOST_CHAINS", "is_order", "key_in", "Form", "Look", "are_names_behind", "is_piece", "Piece", "are_answers", "Ask", "_law_purse", "_law_draw", "_law_name", "_law_names", "_law_form"]
def loose1 : List Str := ["_law_key", "_law_ordered", "_law_world", "_law_piece", "_law_made", "_law_says", "_law_standing", "_law_around", "_law_strangers", "_law_raises"]
def loose : List Str := loose0 ++ loose1
abbrev hk : PySem.W.Hook := hookL 5 P.main.file ck fn ini tabs lams
def ob (s : PySem.W.SharedT) : AlL := obsL 5 P.main.file ck fn ini tabs lams (HandSHeadRun.getT s)
theorem ob_eq (s : PySem.W.SharedT) : ob s = hk.obs s.abs := obsL_eq (HandSHeadRun.getT_eq s)
theorem run (w : World) : HandSHeadRun.RunEq R (PySem.W.view R.prog [45]) hk ob 6000 loose w := by
  intro os
  kernel_rfl
end K06
set_option Elab.async false
set_option linter.all false
set_option maxRecDepth 100000
set_option maxHeartbeats 4000000
namespace K06
open PySem PySem.Spec PyProof.Rows L2 DX DL DH DS PL LM
theorem facts {w : World} {K : Frag} {h : Heap} {mg : Str → Option Value} {f : Addr} (X : K.In h) (G : h.Ns mainGlobals mg) (hf : mg ("law" : Str) = some (.ref f)) (c : SaysL P.main.file ck fn ini tabs lams w h K) :
    ∃ (fd : FuncData), (∀ (s : Shared) (u : Value), BindsTo s fd ⟨[u], []⟩ [("_law_script", u)]) ∧ ∀ base : Heap, K.In base → base.Ns mainGlobals mg → Tbs lams K mg base → DFn P w K mg base 10 f fd ["_law_script"] (sp_law K) := by
  have e := hf.symm.trans (s_glaw X G c.t.s)
  cases e
  obtain ⟨fd, F⟩ := s_fdlaw c.t.s
  refine ⟨fd, fun s u => FunD.bindsA (ps := ["_law_script"]) F (fun _ _ _ _ _ _ us hl => match us, hl with | [_], _ => rfl) s [u] rfl, fun base _ _ hb => ?_⟩
  have hx : Fx K mg base := ⟨c.t.s, ⟨h, X, G⟩, hb⟩
  exact dfn F sc_law (fun ds M Q E h => by obtain ⟨_, rfl, _⟩ := h; rfl) fun cdv A outer s H E F0 W c hr => ⟨t_law K (upX W), r_law hx c hr, fun ds M Q h => pure_law hx h⟩
end K06
open PySem PySem.W PySem.Calls PyProof.Rows
set_option maxRecDepth 100000 in
set_option maxHeartbeats 0 in
theorem PySem.Challenge.cw_betweenlists_k06_pieces_say_holds : PySem.Challenge.rw_betweenlists_k06_pieces_say.Holds := by
  w_on; o_law
  refine HandSHeadRun.head_any (r := K06.R) (q := PySem.W.view K06.R.prog [45]) (H := K06.hk) (ob := K06.ob) (M := 6000) (loose := K06.loose) (d := HandSHeadRun.topDef K06.R.prog 45) (kwd := []) K06.ob_eq
    (by kernel_rfl) (fun s => by kernel_rfl) K06.run (by kernel_rfl) (by kernel_rfl) (by kernel_rfl) (by rfl) (by first | assumption | decide +kernel) (by decide +kernel) ⟨rfl, rfl, rfl, rfl, rfl, by decide +kernel⟩ ?hw ?hc
  case hw => w_witness2
  case hc =>
    refine LM.walkL (l := PySem.Challenge.rw_betweenlists_k06_pieces_say) (k := 10) (x := "_law_script") rfl (by kernel_rfl) ⟨rfl, by decide, by decide⟩ ?G
    intro w mg fa h K KX c G hmg0
    have hmg : mg ("law" : PySem.Str) = some (.ref fa) := by
      have e : (HandSHeadRun.topDef K06.R.prog 45).name = ("law" : PySem.Str) := by kernel_rfl
      rw [← e]
      exact hmg0
    obtain ⟨fd, hb, hF⟩ := K06.facts (w := w) KX G hmg c
    exact ⟨fd, K06.sp_law K, hb, fun ns M hl ht => K06.law_tells hl ht, hF⟩
