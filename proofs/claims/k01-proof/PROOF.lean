import PyProof.Rows.All
import Wide.All
import OpenK.AllK
import Wide.FinOn
import HandS.ForMost
import HandS.Exc
import HandS.TryOnly
import HandS.ExcOwn
import HandS.Defaults
import HandS.Wide
import HandS.WideMore
import HandS.Replace
import HandS.StrMore
import HandS.Lambda
import HandS.AnyAll
import HandS.Conv
import HandS.Rev
import HandS.Zip
import HandS.More
import HandS.Codes
import HandS.HeadEnd
import HandS.HeadHook1
import HandS.HeadHook2
import HandS.HeadHook3
import HandS.HeadHook4
import HandS.GenList
import HandS.RaiseMore
import HandS.Style
import HandS.TupAny
import HandS.Small
import HandS.ReplaceLit
import KE.KStateDown
import HandS.Head0
import HandS.Head1
import HandS.Head2
import HandS.EndTab
import HandS.HeadWalk
import PySem.Challenge.RW_idstack_k01_numbers_in_bases
set_option Elab.async false
set_option linter.all false
set_option maxRecDepth 100000
set_option maxHeartbeats 4000000
/-! Sh0: data as trees, what may be changed as numbered objects, and what they stand for over the abstract heap. -/
namespace Sh
open PySem PySem.Spec PyProof.Rows L2

/-- data: a text is its codes; obj n: the n-th object that may be changed; fn k: a lambda; fls: a list that the text or the caller holds -/
inductive D where
  | non | bl (b : Bool) | int (i : Int) | str (x : List Nat)
  | tup (xs : List D) | lst (xs : List D) | dic (kvs : List (Key × D)) | obj (n : Nat) | fn (k : Nat) | fls (xs : List D)
  deriving Inhabited

/-- an object that may be changed -/
inductive LO where
  | lst (xs : List D) | dic (kvs : List (Key × D)) | dt (kvs : List (List Key × D)) | ins (C : Str) (fs : List (Str × D)) | gone
  deriving Inhabited

abbrev LH := List LO
inductive Res (α : Type) where
  | ok (a : α) (h : LH) | exc (c : Str) (h : LH) | err
@[simp] def Res.bind {α β : Type} : Res α → (α → LH → Res β) → Res β
  | .ok a h, f => f a h
  | .exc c h, _ => .exc c h
  | .err, _ => .err

theorem nodup_at {α : Type} {N : List α} (hN : N.Nodup) {i j : Nat} {x : α} (a : N[i]? = some x) (b : N[j]? = some x) : i = j := by
  obtain ⟨h1, e1⟩ := List.getElem?_eq_some_iff.mp a
  obtain ⟨h2, e2⟩ := List.getElem?_eq_some_iff.mp b
  exact (List.getElem_inj hN).mp (e1.trans e2.symm)

/-- the ghost: what never changes any more, where the objects stand -/
structure Gh where
  F : Hp
  α : List Addr
  /-- what is held for the moment (a list that a comprehension fills) -/
  E : Hp
structure Gh.lw (G G' : Gh) : Prop where
  F : ∀ a o, G.F a = some o → G'.F a = some o
  α : ∀ (i : Nat) (a : Addr), G.α[i]? = some a → G'.α[i]? = some a
structure Gh.le (G G' : Gh) : Prop extends Gh.lw G G' where
  E : G'.E = G.E
theorem Gh.le.w {G G' : Gh} (l : G.le G') : G.lw G' := ⟨l.F, l.α⟩
theorem Gh.lw.refl (G : Gh) : G.lw G := ⟨fun _ _ h => h, fun _ _ h => h⟩
theorem Gh.lw.trans {G G1 G2 : Gh} (a : G.lw G1) (b : G1.lw G2) : G.lw G2 := ⟨fun c o h => b.F c o (a.F c o h), fun i c h => b.α i c (a.α i c h)⟩
theorem Gh.le.refl (G : Gh) : G.le G := ⟨.refl G, rfl⟩
theorem Gh.le.trans {G G1 G2 : Gh} (a : G.le G1) (b : G1.le G2) : G.le G2 := ⟨a.w.trans b.w, b.E.trans a.E⟩

abbrev S (l : List Nat) : Str := ⟨l.toArray⟩

mutual
inductive RD (K : PySem.W.Frag) (G : Gh) : D → V → Prop where
  | non : RD K G .non .non
  | bl (b) : RD K G (.bl b) (.bl b)
  | int (i) : RD K G (.int i) (.int i)
  | str (x) : RD K G (.str x) (.str (S x))
  | tup {xs vs a} : SqT K G.F a vs → RDs K G xs vs → RD K G (.tup xs) (.ref a)
  | lst {xs vs a} : G.F a = some (.lst vs) → RDs K G xs vs → RD K G (.lst xs) (.ref a)
  | fls {xs vs a} : SqL K G.F a vs → RDs K G xs vs → RD K G (.fls xs) (.ref a)
  | dic {xs vs a} : G.F a = some (.dK vs) → RKs K G xs vs → RD K G (.dic xs) (.ref a)
  | obj {n a} : G.α[n]? = some a → RD K G (.obj n) (.ref a)
inductive RDs (K : PySem.W.Frag) (G : Gh) : List D → List V → Prop where
  | nil : RDs K G [] []
  | cons {x xs v vs} : RD K G x v → RDs K G xs vs → RDs K G (x :: xs) (v :: vs)
inductive RKs (K : PySem.W.Frag) (G : Gh) : List (Key × D) → List (Key × V) → Prop where
  | nil : RKs K G [] []
  | cons {k x xs v vs} : RD K G x v → RKs K G xs vs → RKs K G ((k, x) :: xs) ((k, v) :: vs)
end

theorem Rd.mono {H H' : Hp} {a : Addr} {u : HO} (r : Rd H a u) (h : ∀ a o, H a = some o → H' a = some o) : Rd H' a u := by
  rcases r with r | ⟨o, r⟩
  · exact .inl (h _ _ r)
  · exact .inr ⟨o, h _ _ r⟩
theorem SqL.mono {K : PySem.W.Frag} {H H' : Hp} {a : Addr} {xs : List V} (r : SqL K H a xs) (h : ∀ a o, H a = some o → H' a = some o) : SqL K H' a xs := by
  rcases r with r | r
  · exact .inl (Rd.mono r h)
  · exact .inr r
theorem SqT.mono {K : PySem.W.Frag} {H H' : Hp} {a : Addr} {xs : List V} (r : SqT K H a xs) (h : ∀ a o, H a = some o → H' a = some o) : SqT K H' a xs := by
  rcases r with r | r
  · exact .inl (Rd.mono r h)
  · exact .inr r

mutual
theorem RD.monow {K : PySem.W.Frag} {G G' : Gh} (l : G.lw G') : ∀ {d : D} {v : V}, RD K G d v → RD K G' d v
  | _, _, .non => .non
  | _, _, .bl b => .bl b
  | _, _, .int i => .int i
  | _, _, .str x => .str x
  | _, _, .tup h r => .tup (SqT.mono h l.F) (RDs.monow l r)
  | _, _, .lst h r => .lst (l.F _ _ h) (RDs.monow l r)
  | _, _, .fls h r => .fls (SqL.mono h l.F) (RDs.monow l r)
  | _, _, .dic h r => .dic (l.F _ _ h) (RKs.monow l r)
  | _, _, .obj h => .obj (l.α _ _ h)
theorem RDs.monow {K : PySem.W.Frag} {G G' : Gh} (l : G.lw G') : ∀ {d : List D} {v : List V}, RDs K G d v → RDs K G' d v
  | _, _, .nil => .nil
  | _, _, .cons a b => .cons (RD.monow l a) (RDs.monow l b)
theorem RKs.monow {K : PySem.W.Frag} {G G' : Gh} (l : G.lw G') : ∀ {d : List (Key × D)} {v : List (Key × V)}, RKs K G d v → RKs K G' d v
  | _, _, .nil => .nil
  | _, _, .cons a b => .cons (RD.monow l a) (RKs.monow l b)
end

theorem RD.mono {K : PySem.W.Frag} {G G' : Gh} {d : D} {v : V} (r : RD K G d v) (l : G.le G') : RD K G' d v := r.monow l.w
theorem RDs.mono {K : PySem.W.Frag} {G G' : Gh} {d : List D} {v : List V} (r : RDs K G d v) (l : G.le G') : RDs K G' d v := r.monow l.w
theorem RKs.mono {K : PySem.W.Frag} {G G' : Gh} {d : List (Key × D)} {v : List (Key × V)} (r : RKs K G d v) (l : G.le G') : RKs K G' d v := r.monow l.w

section
variable {K : PySem.W.Frag} {G : Gh}
theorem RDs.length : ∀ {xs : List D} {vs : List V}, RDs K G xs vs → xs.length = vs.length
  | _, _, .nil => rfl
  | _, _, .cons _ t => congrArg (· + 1) (RDs.length t)
theorem RDs.get : ∀ {xs : List D} {vs : List V} {i : Nat} {x : D}, RDs K G xs vs → xs[i]? = some x → ∃ v, vs[i]? = some v ∧ RD K G x v
  | _, _, _, _, .nil, e => by simp at e
  | _, _, 0, _, .cons r _, e => by simp at e; subst e; exact ⟨_, rfl, r⟩
  | _, _, i + 1, x, .cons _ t, e => by
    obtain ⟨u, h1, h2⟩ := RDs.get (i := i) (x := x) t (by simpa using e)
    exact ⟨u, by simpa using h1, h2⟩
theorem RDs.append : ∀ {xs ys : List D} {vs ws : List V}, RDs K G xs vs → RDs K G ys ws → RDs K G (xs ++ ys) (vs ++ ws)
  | _, _, _, _, .nil, s => s
  | _, _, _, _, .cons r t, s => .cons r (RDs.append t s)
theorem RDs.take : ∀ {xs : List D} {vs : List V} (n : Nat), RDs K G xs vs → RDs K G (xs.take n) (vs.take n)
  | _, _, 0, _ => by rw [List.take_zero, List.take_zero]; exact .nil
  | _, _, _ + 1, .nil => .nil
  | _, _, n + 1, .cons r t => .cons r (RDs.take n t)
theorem RDs.drop : ∀ {xs : List D} {vs : List V} (n : Nat), RDs K G xs vs → RDs K G (xs.drop n) (vs.drop n)
  | _, _, 0, r => r
  | _, _, _ + 1, .nil => .nil
  | _, _, n + 1, .cons _ t => RDs.drop n t
theorem RDs.reverse {xs : List D} {vs : List V} (h : RDs K G xs vs) : RDs K G xs.reverse vs.reverse := by
  induction h using RDs.rec (motive_1 := fun _ _ _ => True) (motive_3 := fun _ _ _ => True) with
  | cons r t _ ih => rw [List.reverse_cons, List.reverse_cons]; exact ih.append (.cons r .nil)
  | nil => exact .nil
  | _ => trivial
theorem RDs.set : ∀ {xs : List D} {vs : List V} (i : Nat) {x : D} {v : V}, RD K G x v → RDs K G xs vs → RDs K G (xs.set i x) (vs.set i v)
  | _, _, _, _, _, _, .nil => .nil
  | _, _, 0, _, _, r, .cons _ t => .cons r t
  | _, _, i + 1, _, _, r, .cons q t => .cons q (RDs.set i r t)
end

/-- fields -/
inductive RFs (K : PySem.W.Frag) (G : Gh) : List (Str × D) → List (Str × V) → Prop where
  | nil : RFs K G [] []
  | cons {f x xs v vs} : RD K G x v → RFs K G xs vs → RFs K G ((f, x) :: xs) ((f, v) :: vs)
/-- keys that are tuples -/
inductive RTs (K : PySem.W.Frag) (G : Gh) : List (List Key × D) → List (List Key × V) → Prop where
  | nil : RTs K G [] []
  | cons {k x xs v vs} : RD K G x v → RTs K G xs vs → RTs K G ((k, x) :: xs) ((k, v) :: vs)
theorem RFs.monow {K : PySem.W.Frag} {G G' : Gh} (l : G.lw G') : ∀ {d : List (Str × D)} {v : List (Str × V)}, RFs K G d v → RFs K G' d v
  | _, _, .nil => .nil
  | _, _, .cons a b => .cons (RD.monow l a) (RFs.monow l b)
theorem RTs.monow {K : PySem.W.Frag} {G G' : Gh} (l : G.lw G') : ∀ {d : List (List Key × D)} {v : List (List Key × V)}, RTs K G d v → RTs K G' d v
  | _, _, .nil => .nil
  | _, _, .cons a b => .cons (RD.monow l a) (RTs.monow l b)
/-- what stands at an object's place a -/
inductive RO (K : PySem.W.Frag) (G : Gh) (a : Addr) : LO → HO → Prop where
  | lst {xs vs} : RDs K G xs vs → RO K G a (.lst xs) (.lst vs)
  | dic {xs vs} : RKs K G xs vs → RO K G a (.dic xs) (.dK vs)
  | dt {xs vs} : RTs K G xs vs → RO K G a (.dt xs) (.dT vs)
  | ins {C fs gs dx} : G.F dx = some (.own a) → RFs K G fs gs → RO K G a (.ins C fs) (.ins (He.ga K C) dx gs)
theorem RO.monow {K : PySem.W.Frag} {G G' : Gh} (l : G.lw G') {a : Addr} : ∀ {o : LO} {u : HO}, RO K G a o u → RO K G' a o u
  | _, _, .lst r => .lst (r.monow l)
  | _, _, .dic r => .dic (r.monow l)
  | _, _, .dt r => .dt (r.monow l)
  | _, _, .ins h r => .ins (l.F _ _ h) (r.monow l)
theorem RFs.mono {K : PySem.W.Frag} {G G' : Gh} {d : List (Str × D)} {v : List (Str × V)} (r : RFs K G d v) (l : G.le G') : RFs K G' d v := r.monow l.w
theorem RTs.mono {K : PySem.W.Frag} {G G' : Gh} {d : List (List Key × D)} {v : List (List Key × V)} (r : RTs K G d v) (l : G.le G') : RTs K G' d v := r.monow l.w
theorem RO.mono {K : PySem.W.Frag} {G G' : Gh} {a : Addr} {o : LO} {u : HO} (r : RO K G a o u) (l : G.le G') : RO K G' a o u := r.monow l.w

/-- where the code tables stand, the name that their codes bear -/
abbrev Tb := List (Addr × Str)
/-- what may be held for the moment -/
def HoldOk (o : HO) : Prop := (∀ φ, o ≠ .ext φ) ∧ ∀ ps, o ≠ .tbl ps
theorem holdL (vs : List V) : HoldOk (.lst vs) := ⟨(fun _ e => by cases e), (fun _ e => by cases e)⟩
theorem holdD (vs : List (Key × V)) : HoldOk (.dK vs) := ⟨(fun _ e => by cases e), (fun _ e => by cases e)⟩
/-- the heap -/
structure RH (K : PySem.W.Frag) (T : Tb) (G : Gh) (h : LH) (H : Hp) : Prop where
  F : ∀ a o, G.F a = some o → H a = some o
  len : G.α.length = h.length
  nd : G.α.Nodup
  obj : ∀ (n : Nat) (o : LO) (a : Addr), h[n]? = some o → G.α[n]? = some a → (o = .gone ∧ (G.F a).isSome = true) ∨ (G.F a = none ∧ ∃ u, H a = some u ∧ RO K G a o u)
  tab : ∀ p ∈ T, (∃ ps : Array Value, H p.1 = some (.tbl ps) ∧ TriplesOk ps.toList ∧ ∀ (pos : Pos) (cv : Value), codeAmong pos ps.toList = some cv → ∃ c, cv = .ref c ∧ G.F c = some (LamX.CodeO c p.2)) ∧ G.F p.1 = none ∧ p.1 ∉ G.α ∧ G.E p.1 = none
  ext : ∀ a o, G.E a = some o → H a = some o ∧ G.F a = none ∧ a ∉ G.α ∧ HoldOk o
  ntb : ∀ a ps, G.F a ≠ some (.tbl ps)

section
variable {K : PySem.W.Frag} {T : Tb} {G : Gh} {h : LH} {H : Hp}
theorem RH.some_at (r : RH K T G h H) {n : Nat} {a : Addr} (e : G.α[n]? = some a) : (H a).isSome = true := by
  have hn : n < h.length := by rw [← r.len]; exact (List.getElem?_eq_some_iff.mp e).1
  rcases r.obj n h[n] a (List.getElem?_eq_getElem hn) e with ⟨_, z⟩ | ⟨_, u, z, _⟩
  · obtain ⟨o, z⟩ := Option.isSome_iff_exists.mp z
    rw [r.F a o z]; rfl
  · rw [z]; rfl
theorem RH.notα (r : RH K T G h H) {p : Addr} (hp : H p = none) : p ∉ G.α := fun hm => by
  obtain ⟨n, hn, e⟩ := List.getElem_of_mem hm
  have := r.some_at (n := n) (a := p) (by rw [List.getElem?_eq_getElem hn, e])
  rw [hp] at this; cases this
theorem RH.notF (r : RH K T G h H) {p : Addr} (hp : H p = none) : G.F p = none := by
  cases q : G.F p with
  | none => rfl
  | some o => have := r.F p o q; rw [hp] at this; cases this
theorem RH.notE (r : RH K T G h H) {p : Addr} (hp : H p = none) : G.E p = none := by
  cases q : G.E p with
  | none => rfl
  | some o => have := (r.ext p o q).1; rw [hp] at this; cases this
theorem RH.notT (r : RH K T G h H) {p : Addr} (hp : H p = none) : ∀ q ∈ T, q.1 ≠ p := fun q hm z => by
  obtain ⟨⟨ps, e, _⟩, _⟩ := r.tab q hm
  rw [z, hp] at e; cases e
theorem RO.not_tbl {a : Addr} {o : LO} {u : HO} (r : RO K G a o u) : ∀ ps, u ≠ .tbl ps := fun ps e => by cases r <;> cases e
theorem RO.not_ext {a : Addr} {o : LO} {u : HO} (r : RO K G a o u) : ∀ φ, u ≠ .ext φ := fun φ e => by cases r <;> cases e
/-- the tables, with what never changes grown -/
theorem tab_mono {T : Tb} {G G' : Gh} {H H' : Hp} {p : Addr × Str} (hF : ∀ a o, G.F a = some o → G'.F a = some o) (hH : H' p.1 = H p.1) (r : ∃ ps : Array Value, H p.1 = some (.tbl ps) ∧ TriplesOk ps.toList ∧ ∀ (pos : Pos) (cv : Value), codeAmong pos ps.toList = some cv → ∃ c, cv = .ref c ∧ G.F c = some (LamX.CodeO c p.2)) :
    ∃ ps : Array Value, H' p.1 = some (.tbl ps) ∧ TriplesOk ps.toList ∧ ∀ (pos : Pos) (cv : Value), codeAmong pos ps.toList = some cv → ∃ c, cv = .ref c ∧ G'.F c = some (LamX.CodeO c p.2) := by
  obtain ⟨ps, e, t, q⟩ := r
  refine ⟨ps, hH.trans e, t, fun pos cv z => ?_⟩
  obtain ⟨c, e1, e2⟩ := q pos cv z
  exact ⟨c, e1, hF _ _ e2⟩
/-- something new that never changes -/
abbrev Gh.put (G : Gh) (p : Addr) (o : HO) : Gh := ⟨upd G.F p o, G.α, G.E⟩
theorem Gh.put_le {G : Gh} {p : Addr} {o : HO} (hp : G.F p = none) : G.le (G.put p o) :=
  ⟨⟨fun a u e => by show upd G.F p o a = some u; rw [upd_ne (ne_of_none e hp)]; exact e, fun _ _ e => e⟩, rfl⟩
theorem RH.new (r : RH K T G h H) {p : Addr} (hp : H p = none) (o : HO) (ho : ∀ ps, o ≠ .tbl ps := by intro ps e; cases e) : RH K T (G.put p o) h (upd H p o) := by
  have l := Gh.put_le (o := o) (r.notF hp)
  refine ⟨fun a u e => ?_, r.len, r.nd, fun n u a e1 e2 => ?_, fun P hP => ?_, fun a u e => ?_, fun a ps e => ?_⟩
  · have e : upd G.F p o a = some u := e
    by_cases ha : a = p
    · subst ha; rw [upd_same] at e ⊢; exact e
    · rw [upd_ne ha] at e ⊢; exact r.F a u e
  · have hne : a ≠ p := fun z => r.notα hp (z ▸ List.mem_of_getElem? e2)
    rcases r.obj n u a e1 e2 with ⟨z, q⟩ | ⟨z, w, q1, q2⟩
    · exact .inl ⟨z, by show (upd G.F p o a).isSome = true; rw [upd_ne hne]; exact q⟩
    · exact .inr ⟨by show upd G.F p o a = none; rw [upd_ne hne]; exact z, w, by rw [upd_ne hne]; exact q1, q2.mono l⟩
  · obtain ⟨q, z, w⟩ := r.tab P hP
    have hne := r.notT hp P hP
    exact ⟨tab_mono (T := T) l.F (by rw [upd_ne hne]) q, by show upd G.F p o P.1 = none; rw [upd_ne hne]; exact z, w⟩
  · obtain ⟨e1, e2, e3⟩ := r.ext a u e
    have hne := ne_of_none e1 hp
    exact ⟨by rw [upd_ne hne]; exact e1, by show upd G.F p o a = none; rw [upd_ne hne]; exact e2, e3⟩
  · have e : upd G.F p o a = some (.tbl ps) := e
    by_cases ha : a = p
    · subst ha; rw [upd_same] at e; exact ho ps (Option.some.inj e)
    · rw [upd_ne ha] at e; exact r.ntb a ps e
/-- a new object that may be changed -/
abbrev Gh.add (G : Gh) (p : Addr) : Gh := ⟨G.F, G.α ++ [p], G.E⟩
theorem Gh.add_le {G : Gh} {p : Addr} : G.le (G.add p) := ⟨⟨fun _ _ e => e, fun i a e => by
  show (G.α ++ [p])[i]? = some a
  rw [List.getElem?_append_left (List.getElem?_eq_some_iff.mp e).1]; exact e⟩, rfl⟩
theorem Gh.add_at {G : Gh} {p : Addr} : (G.add p).α[G.α.length]? = some p := by show (G.α ++ [p])[G.α.length]? = _; simp
theorem RH.add (r : RH K T G h H) {p : Addr} (hp : H p = none) {o : LO} {u : HO} (q : RO K (G.add p) p o u) : RH K T (G.add p) (h ++ [o]) (upd H p u) := by
  refine ⟨fun a w e => ?_, by simp [r.len], ?_, fun n w a e1 e2 => ?_, fun P hP => ?_, fun a w e => ?_, r.ntb⟩
  · rw [upd_ne (ne_of_none (r.F a w e) hp)]; exact r.F a w e
  · exact List.nodup_append.mpr ⟨r.nd, (by simp), fun a ha b hb z => by
      have hb := List.mem_singleton.mp hb
      exact r.notα hp (by rw [← hb, ← z]; exact ha)⟩
  · have e2 : (G.α ++ [p])[n]? = some a := e2
    by_cases hn : n < G.α.length
    · rw [List.getElem?_append_left hn] at e2
      rw [List.getElem?_append_left (by rw [← r.len]; exact hn)] at e1
      have hne : a ≠ p := fun z => r.notα hp (z ▸ List.mem_of_getElem? e2)
      rcases r.obj n w a e1 e2 with ⟨z, q⟩ | ⟨z, w', q1, q2⟩
      · exact .inl ⟨z, q⟩
      · exact .inr ⟨z, w', by rw [upd_ne hne]; exact q1, q2.mono Gh.add_le⟩
    · have hn' : n < (G.α ++ [p]).length := (List.getElem?_eq_some_iff.mp e2).1
      have en : n = G.α.length := by rw [List.length_append] at hn'; simp at hn'; omega
      subst en
      have ea : a = p := by simpa using e2.symm
      have eo : w = o := by rw [r.len] at e1; simpa using e1.symm
      subst ea eo
      exact .inr ⟨r.notF hp, u, upd_same, q⟩
  · obtain ⟨q, z, w⟩ := r.tab P hP
    have hne := r.notT hp P hP
    exact ⟨tab_mono (T := T) (fun _ _ e => e) (by rw [upd_ne hne]) q, z, (fun hm => by
      rcases List.mem_append.mp hm with hm | hm
      · exact w.1 hm
      · exact hne (List.mem_singleton.mp hm)), w.2⟩
  · obtain ⟨e1, e2, e3, e4⟩ := r.ext a w e
    have hne := ne_of_none e1 hp
    exact ⟨by rw [upd_ne hne]; exact e1, e2, (fun hm => by
      rcases List.mem_append.mp hm with hm | hm
      · exact e3 hm
      · exact hne (List.mem_singleton.mp hm)), e4⟩
/-- an object is there -/
theorem RH.at (r : RH K T G h H) {n : Nat} {a : Addr} {o : LO} (e1 : h[n]? = some o) (e2 : G.α[n]? = some a) (ho : o ≠ .gone) : ∃ u, H a = some u ∧ RO K G a o u := by
  rcases r.obj n o a e1 e2 with ⟨z, _⟩ | ⟨_, q⟩
  · exact absurd z ho
  · exact q
theorem RH.nF (r : RH K T G h H) {n : Nat} {a : Addr} {o : LO} (e1 : h[n]? = some o) (e2 : G.α[n]? = some a) (ho : o ≠ .gone) : G.F a = none := by
  rcases r.obj n o a e1 e2 with ⟨z, _⟩ | ⟨z, _⟩
  · exact absurd z ho
  · exact z
/-- an object is changed -/
theorem RH.set (r : RH K T G h H) {n : Nat} {a : Addr} {o o' : LO} {u' : HO} (e1 : h[n]? = some o) (e2 : G.α[n]? = some a) (ho : o ≠ .gone) (q' : RO K G a o' u') : RH K T G (h.set n o') (upd H a u') := by
  have hF := r.nF e1 e2 ho
  have hm := List.mem_of_getElem? e2
  refine ⟨fun b w e => ?_, by rw [List.length_set]; exact r.len, r.nd, fun m w b f1 f2 => ?_, fun P hP => ?_, fun b w e => ?_, r.ntb⟩
  · rw [upd_ne (ne_of_none e hF)]; exact r.F b w e
  · by_cases hm : m = n
    · subst hm
      rw [e2] at f2; cases f2
      have hn : m < h.length := (List.getElem?_eq_some_iff.mp e1).1
      rw [List.getElem?_set_self hn] at f1; cases f1
      exact .inr ⟨hF, u', upd_same, q'⟩
    · rw [List.getElem?_set_ne (Ne.symm hm)] at f1
      have hne : b ≠ a := fun z => hm (nodup_at r.nd f2 (by rw [z]; exact e2))
      rcases r.obj m w b f1 f2 with ⟨z, q⟩ | ⟨z, w', q1, q2⟩
      · exact .inl ⟨z, q⟩
      · exact .inr ⟨z, w', by rw [upd_ne hne]; exact q1, q2⟩
  · obtain ⟨q, z, w⟩ := r.tab P hP
    have hne : P.1 ≠ a := fun z => w.1 (by rw [z]; exact hm)
    exact ⟨tab_mono (T := T) (fun _ _ e => e) (by rw [upd_ne hne]) q, z, w⟩
  · obtain ⟨f1, f2, f3⟩ := r.ext b w e
    exact ⟨by rw [upd_ne (show b ≠ a from fun z => f3.1 (by rw [z]; exact hm))]; exact f1, f2, f3⟩
/-- an object that never changes any more -/
theorem RH.freeze (r : RH K T G h H) {n : Nat} {a : Addr} {o : LO} {u : HO} (e1 : h[n]? = some o) (e2 : G.α[n]? = some a) (ho : o ≠ .gone) (eu : H a = some u) : G.le (G.put a u) ∧ RH K T (G.put a u) (h.set n .gone) H := by
  have hF := r.nF e1 e2 ho
  have hm := List.mem_of_getElem? e2
  have l := Gh.put_le (o := u) hF
  obtain ⟨u', eu', ro⟩ := r.at e1 e2 ho
  rw [eu] at eu'
  cases eu'
  refine ⟨l, fun b w e => ?_, by rw [List.length_set]; exact r.len, r.nd, fun m w b f1 f2 => ?_, fun P hP => ?_, fun b w e => ?_, fun b ps e => ?_⟩
  · have e : upd G.F a u b = some w := e
    by_cases hb : b = a
    · subst hb; rw [upd_same] at e; cases e; exact eu
    · rw [upd_ne hb] at e; exact r.F b w e
  · by_cases hm : m = n
    · subst hm
      rw [e2] at f2; cases f2
      have hn : m < h.length := (List.getElem?_eq_some_iff.mp e1).1
      rw [List.getElem?_set_self hn] at f1; cases f1
      exact .inl ⟨rfl, by show (upd G.F a u a).isSome = true; rw [upd_same]; rfl⟩
    · rw [List.getElem?_set_ne (Ne.symm hm)] at f1
      have hne : b ≠ a := fun z => hm (nodup_at r.nd f2 (by rw [z]; exact e2))
      rcases r.obj m w b f1 f2 with ⟨z, q⟩ | ⟨z, w', q1, q2⟩
      · exact .inl ⟨z, by show (upd G.F a u b).isSome = true; rw [upd_ne hne]; exact q⟩
      · exact .inr ⟨by show upd G.F a u b = none; rw [upd_ne hne]; exact z, w', q1, q2.mono l⟩
  · obtain ⟨q, z, w⟩ := r.tab P hP
    have hne : P.1 ≠ a := fun z => w.1 (by rw [z]; exact hm)
    exact ⟨tab_mono (T := T) l.F rfl q, by show upd G.F a u P.1 = none; rw [upd_ne hne]; exact z, w⟩
  · obtain ⟨f1, f2, f3⟩ := r.ext b w e
    exact ⟨f1, by show upd G.F a u b = none; rw [upd_ne (show b ≠ a from fun z => f3.1 (by rw [z]; exact hm))]; exact f2, f3⟩
  · have e : upd G.F a u b = some (.tbl ps) := e
    by_cases hb : b = a
    · subst hb; rw [upd_same] at e; exact ro.not_tbl ps (Option.some.inj e)
    · rw [upd_ne hb] at e; exact r.ntb b ps e
/-- a lambda's, a generator expression's code has come: tables may have grown -/
noncomputable def Gh.code (G : Gh) (H1 : Hp) : Gh := ⟨fun a => match G.F a with
  | some o => some o
  | none => open Classical in if (∃ q, H1 a = some (LamX.CodeO a q)) ∧ a ∉ G.α ∧ G.E a = none then H1 a else none, G.α, G.E⟩
theorem Gh.code_le {G : Gh} {H1 : Hp} : G.le (G.code H1) := ⟨⟨fun a o e => by show (match G.F a with | some o => some o | none => _) = some o; rw [e], fun _ _ e => e⟩, rfl⟩
theorem Gh.code_at {G : Gh} {H1 : Hp} {a : Addr} {o : HO} (h : (G.code H1).F a = some o) : G.F a = some o ∨ (G.F a = none ∧ (∃ q, H1 a = some (LamX.CodeO a q)) ∧ a ∉ G.α ∧ G.E a = none ∧ H1 a = some o) := by
  have h : (match G.F a with
    | some o => some o
    | none => open Classical in if (∃ q, H1 a = some (LamX.CodeO a q)) ∧ a ∉ G.α ∧ G.E a = none then H1 a else none) = some o := h
  cases e : G.F a with
  | some u => rw [e] at h; exact .inl h
  | none =>
    rw [e] at h
    simp only at h
    split at h
    · rename_i z
      exact .inr ⟨rfl, z.1, z.2.1, z.2.2, h⟩
    · cases h
theorem codeO_ext {c : Addr} {q : Str} : ∃ φ, LamX.CodeO c q = .ext φ := ⟨_, rfl⟩
theorem RH.code (r : RH K T G h H) {H1 : Hp} (e : LamX.ExtN H H1) (t : LamX.Tabs T H1) : RH K T (G.code H1) h H1 := by
  have hF : ∀ a o, G.F a = some o → H1 a = some o := fun a o q => e a o (r.F a o q) fun ps z => r.ntb a ps (by rw [← z]; exact q)
  have hT : ∀ p ∈ T, ∃ ps, H1 p.1 = some (.tbl ps) := fun p hp => let ⟨ps, q, _⟩ := t p hp; ⟨ps, q⟩
  refine ⟨fun a o q => ?_, r.len, r.nd, fun n o a e1 e2 => ?_, fun p hp => ?_, fun a o q => ?_, fun a ps q => ?_⟩
  · rcases Gh.code_at q with q | ⟨_, _, _, _, q⟩
    · exact hF a o q
    · exact q
  · rcases r.obj n o a e1 e2 with ⟨z, q⟩ | ⟨z, u, q1, q2⟩
    · obtain ⟨w, q⟩ := Option.isSome_iff_exists.mp q
      exact .inl ⟨z, by rw [Gh.code_le.F a w q]; rfl⟩
    · refine .inr ⟨?_, u, e a u q1 fun ps y => q2.not_tbl ps y, q2.mono Gh.code_le⟩
      cases y : (G.code H1).F a with
      | none => rfl
      | some w =>
        rcases Gh.code_at y with y | ⟨_, _, y, _⟩
        · rw [z] at y; cases y
        · exact absurd (List.mem_of_getElem? e2) y
  · obtain ⟨_, z, w1, w2⟩ := r.tab p hp
    obtain ⟨ps, q1, q2, q3⟩ := t p hp
    refine ⟨⟨ps, q1, q2, fun pos cv y => ?_⟩, ?_, w1, w2⟩
    · obtain ⟨c, y1, y2⟩ := q3 pos cv y
      refine ⟨c, y1, ?_⟩
      show (match G.F c with
        | some o => some o
        | none => _) = some (LamX.CodeO c p.2)
      cases y3 : G.F c with
      | some o =>
        have := hF c o y3
        rw [y2] at this
        exact this.symm
      | none =>
        simp only
        have hα : c ∉ G.α := fun hm => by
          obtain ⟨n, hn, en⟩ := List.getElem_of_mem hm
          have e2 : G.α[n]? = some c := by rw [List.getElem?_eq_getElem hn, en]
          have hn' : n < h.length := by rw [← r.len]; exact hn
          rcases r.obj n h[n] c (List.getElem?_eq_getElem hn') e2 with ⟨_, q⟩ | ⟨_, u, q4, q5⟩
          · rw [y3] at q; cases q
          · have q6 := e c u q4 fun ps z => q5.not_tbl ps z
            rw [y2] at q6
            have q7 := Option.some.inj q6
            exact (q5.not_ext _ q7.symm).elim
        have hE : G.E c = none := by
          cases y4 : G.E c with
          | none => rfl
          | some o =>
            obtain ⟨f1, _, _, hk⟩ := r.ext c o y4
            have q6 := e c _ f1 fun ps z => hk.2 ps z
            rw [y2] at q6
            exact (hk.1 _ (Option.some.inj q6).symm).elim
        rw [if_pos ⟨⟨p.2, y2⟩, hα, hE⟩]
        exact y2
    · cases y : (G.code H1).F p.1 with
      | none => rfl
      | some w =>
        rcases Gh.code_at y with y | ⟨_, ⟨q, y⟩, _⟩
        · rw [z] at y; cases y
        · rw [q1] at y
          have y2 := Option.some.inj y
          unfold LamX.CodeO at y2
          cases y2
  · obtain ⟨f1, f2, f3, hk⟩ := r.ext a o q
    refine ⟨e a o f1 (fun ps z => hk.2 ps z), ?_, f3, hk⟩
    cases y : (G.code H1).F a with
    | none => rfl
    | some w =>
      rcases Gh.code_at y with y | ⟨_, _, _, y, _⟩
      · rw [f2] at y; cases y
      · have q : G.E a = some o := q
        rw [q] at y; cases y
  · rcases Gh.code_at q with q | ⟨_, ⟨w, y⟩, _, _, q⟩
    · exact r.ntb a ps q
    · rw [y] at q
      have y2 := Option.some.inj q
      unfold LamX.CodeO at y2
      cases y2
theorem RH.tabs (r : RH K T G h H) : LamX.Tabs T H := fun p hp => by
  obtain ⟨⟨ps, e, t, q⟩, _⟩ := r.tab p hp
  refine ⟨ps, e, t, fun pos cv y => ?_⟩
  obtain ⟨c, e1, e2⟩ := q pos cv y
  exact ⟨c, e1, r.F _ _ e2⟩
/-- something new that is held for the moment -/
abbrev Gh.hold (G : Gh) (p : Addr) (o : HO) : Gh := ⟨G.F, G.α, upd G.E p o⟩
theorem Gh.hold_lw {G : Gh} {p : Addr} {o : HO} : G.lw (G.hold p o) := ⟨fun _ _ e => e, fun _ _ e => e⟩
theorem RH.hold (r : RH K T G h H) {p : Addr} (hp : H p = none) (o : HO) (ho : HoldOk o := by first | exact holdL _ | exact holdD _) : RH K T (G.hold p o) h (upd H p o) := by
  refine ⟨fun a u e => by rw [upd_ne (ne_of_none (r.F a u e) hp)]; exact r.F a u e, r.len, r.nd, fun n u a e1 e2 => ?_, fun P hP => ?_, fun a u e => ?_, r.ntb⟩
  · have hne : a ≠ p := fun z => r.notα hp (z ▸ List.mem_of_getElem? e2)
    rcases r.obj n u a e1 e2 with ⟨z, q⟩ | ⟨z, w, q1, q2⟩
    · exact .inl ⟨z, q⟩
    · exact .inr ⟨z, w, by rw [upd_ne hne]; exact q1, q2.monow Gh.hold_lw⟩
  · obtain ⟨q, z, w⟩ := r.tab P hP
    have hne := r.notT hp P hP
    exact ⟨tab_mono (T := T) (fun _ _ e => e) (by rw [upd_ne hne]) q, z, w.1, by show upd G.E p _ P.1 = none; rw [upd_ne hne]; exact w.2⟩
  · have e : upd G.E p o a = some u := e
    by_cases ha : a = p
    · subst ha
      rw [upd_same] at e ⊢
      exact ⟨e, r.notF hp, r.notα hp, Option.some.inj e ▸ ho⟩
    · rw [upd_ne ha] at e ⊢
      exact r.ext a u e
/-- .. is changed -/
theorem RH.held (r : RH K T G h H) {p : Addr} {o : HO} (hp : G.E p = some o) (o' : HO) (ho : HoldOk o' := by first | exact holdL _ | exact holdD _) : RH K T (G.hold p o') h (upd H p o') := by
  obtain ⟨p1, p2, p3, _⟩ := r.ext p o hp
  refine ⟨fun a w e => by rw [upd_ne (ne_of_none e p2)]; exact r.F a w e, r.len, r.nd, fun n w a e1 e2 => ?_, fun P hP => ?_, fun a w e => ?_, r.ntb⟩
  · have hne : a ≠ p := fun z => p3 (z ▸ List.mem_of_getElem? e2)
    rcases r.obj n w a e1 e2 with ⟨z, q⟩ | ⟨z, w, q1, q2⟩
    · exact .inl ⟨z, q⟩
    · exact .inr ⟨z, w, by rw [upd_ne hne]; exact q1, q2.monow Gh.hold_lw⟩
  · obtain ⟨q, z, w⟩ := r.tab P hP
    have hne : P.1 ≠ p := fun z => by rw [z, hp] at w; cases w.2
    exact ⟨tab_mono (T := T) (fun _ _ e => e) (by rw [upd_ne hne]) q, z, w.1, by show upd G.E p _ P.1 = none; rw [upd_ne hne]; exact w.2⟩
  · have e : upd G.E p o' a = some w := e
    by_cases ha : a = p
    · subst ha
      rw [upd_same] at e ⊢
      exact ⟨e, p2, p3, Option.some.inj e ▸ ho⟩
    · rw [upd_ne ha] at e ⊢
      exact r.ext a w e
/-- .. never changes any more: the outer hold E0 again -/
abbrev Gh.back (G : Gh) (p : Addr) (o : HO) (E0 : Hp) : Gh := ⟨upd G.F p o, G.α, E0⟩
theorem RH.back (r : RH K T G h H) {p : Addr} {o : HO} {E0 : Hp} (hp : G.E p = some o) (h0 : E0 p = none) (hE : ∀ a u, E0 a = some u → G.E a = some u) : G.lw (G.back p o E0) ∧ RH K T (G.back p o E0) h H := by
  obtain ⟨p1, p2, p3, hk⟩ := r.ext p o hp
  have l : G.lw (G.back p o E0) := ⟨fun a u e => by show upd G.F p o a = some u; rw [upd_ne (ne_of_none e p2)]; exact e, fun _ _ e => e⟩
  refine ⟨l, fun a u e => ?_, r.len, r.nd, fun n u a e1 e2 => ?_, fun P hP => ?_, fun a u e => ?_, fun a ps e => ?_⟩
  · have e : upd G.F p o a = some u := e
    by_cases ha : a = p
    · subst ha; rw [upd_same] at e; cases e; exact p1
    · rw [upd_ne ha] at e; exact r.F a u e
  · have hne : a ≠ p := fun z => p3 (z ▸ List.mem_of_getElem? e2)
    rcases r.obj n u a e1 e2 with ⟨z, q⟩ | ⟨z, w, q1, q2⟩
    · exact .inl ⟨z, by show (upd G.F p o a).isSome = true; rw [upd_ne hne]; exact q⟩
    · exact .inr ⟨by show upd G.F p o a = none; rw [upd_ne hne]; exact z, w, q1, q2.monow l⟩
  · obtain ⟨q, z, w⟩ := r.tab P hP
    have hne : P.1 ≠ p := fun z => by rw [z, hp] at w; cases w.2
    refine ⟨tab_mono (T := T) l.F rfl q, by show upd G.F p o P.1 = none; rw [upd_ne hne]; exact z, w.1, ?_⟩
    show E0 P.1 = none
    cases e : E0 P.1 with
    | none => rfl
    | some u => have := hE P.1 u e; rw [w.2] at this; cases this
  · have e : E0 a = some u := e
    have hne : a ≠ p := fun z => by rw [z, h0] at e; cases e
    obtain ⟨f1, f2, f3⟩ := r.ext a u (hE a u e)
    exact ⟨f1, by show upd G.F p o a = none; rw [upd_ne hne]; exact f2, f3⟩
  · have e : upd G.F p o a = some (.tbl ps) := e
    by_cases ha : a = p
    · subst ha; rw [upd_same] at e; exact hk.2 ps (Option.some.inj e)
    · rw [upd_ne ha] at e; exact r.ntb a ps e
/-- what is held is let go -/
abbrev Gh.drop (G : Gh) (E0 : Hp) : Gh := ⟨G.F, G.α, E0⟩
theorem RH.drop (r : RH K T G h H) {E0 : Hp} (hE : ∀ a u, E0 a = some u → G.E a = some u) : RH K T (G.drop E0) h H := by
  have l : G.lw (G.drop E0) := ⟨fun _ _ e => e, fun _ _ e => e⟩
  refine ⟨r.F, r.len, r.nd, fun n u a e1 e2 => ?_, fun P hP => ?_, fun a u e => r.ext a u (hE a u e), r.ntb⟩
  · rcases r.obj n u a e1 e2 with ⟨z, q⟩ | ⟨z, w, q1, q2⟩
    · exact .inl ⟨z, q⟩
    · exact .inr ⟨z, w, q1, q2.monow l⟩
  · obtain ⟨q, z, w⟩ := r.tab P hP
    refine ⟨q, z, w.1, ?_⟩
    show E0 P.1 = none
    cases e : E0 P.1 with
    | none => rfl
    | some u => have := hE P.1 u e; rw [w.2] at this; cases this
end

abbrev En := List (Option D)
/-- the names -/
structure RE (K : PySem.W.Frag) (G : Gh) (ρ : En) (σ : L2.St) : Prop where
  len : ρ.length = σ.length
  get : ∀ (i : Nat) (d : D), ρ[i]? = some (some d) → ∃ v, σ[i]? = some (some v) ∧ RD K G d v
theorem RE.monow {K : PySem.W.Frag} {G G' : Gh} {ρ : En} {σ : L2.St} (r : RE K G ρ σ) (l : G.lw G') : RE K G' ρ σ := ⟨r.len, fun i d e => let ⟨v, h1, h2⟩ := r.get i d e; ⟨v, h1, h2.monow l⟩⟩
theorem RE.mono {K : PySem.W.Frag} {G G' : Gh} {ρ : En} {σ : L2.St} (r : RE K G ρ σ) (l : G.le G') : RE K G' ρ σ := r.monow l.w

abbrev Ev := En → LH → Res D
/-- what is wanted behind a result -/
def Post (K : PySem.W.Frag) (T : Tb) (W : WX) (σ : L2.St) (G : Gh) (r : Res D) (Q : VK) : Prop := match r with
  | .ok d h' => ∀ G' H' v, G.le G' → RH K T G' h' H' → RD K G' d v → Q v H'
  | .exc c h' => ∀ G' H', G.le G' → RH K T G' h' H' → W (.ref (He.ga K c)) none σ H'
  | .err => False
theorem Post.mono {K : PySem.W.Frag} {T : Tb} {W : WX} {σ : L2.St} {G G' : Gh} {r : Res D} {Q : VK} (h : Post K T W σ G r Q) (l : G.le G') : Post K T W σ G' r Q := by
  cases r with
  | ok d h' => exact fun G2 H v l2 => h G2 H v (l.trans l2)
  | exc c h' => exact fun G2 H l2 => h G2 H (l.trans l2)
  | err => exact h
def tE (K : PySem.W.Frag) (T : Tb) (W : WX) (m : Ev) : TE := fun σ H Q => ∃ G ρ h, RE K G ρ σ ∧ RH K T G h H ∧ Post K T W σ G (m ρ h) Q
/-- an expression and its mirror -/
structure DE (X : Cx) (T : Tb) (W : WX) (e : Expr) (m : Ev) : Prop where
  p : PE X e (tE X.K T W m)
theorem PE.imp {X : Cx} {e : Expr} {t t' : TE} (h : PE X e t) (i : ∀ σ H Q, t' σ H Q → t σ H Q) : PE X e t' := ⟨fun pins s σ H Q I q => h.run pins s σ H Q I (i _ _ _ q)⟩

section
variable {X : Cx} {T : Tb} {W : WX} {pos : Pos}
def eVar (i : Nat) : Ev := fun ρ h => match ρ[i]? with
  | some (some d) => .ok d h
  | _ => .err
theorem de_var {i : Nat} {x : Str} (hN : X.N[i]? = some x) (hv : Vis X.env.scope x) (hd : (x == ("__debug__" : Str)) = false := by decide) (hcd : (x == ("__classdict__" : Str)) = false := by decide) : DE X T W (.Name x pos) (eVar i) := by
  refine ⟨PE.imp (pe_var hN hv hd hcd) fun σ H Q ⟨G, ρ, h, re, rh, p⟩ => ?_⟩
  unfold eVar at p
  split at p
  · rename_i d e
    obtain ⟨v, h1, h2⟩ := re.get i d e
    exact ⟨v, h1, p G H v (.refl G) rh h2⟩
  · exact p.elim
def eC (d : D) : Ev := fun _ h => .ok d h
theorem de_int {i j} : DE X T W (.Constant (.int i) j pos) (eC (.int i)) := ⟨PE.imp pe_int fun σ H Q ⟨G, ρ, h, re, rh, p⟩ => p G H _ (.refl G) rh (.int i)⟩
theorem de_bl {i j} : DE X T W (.Constant (.bool i) j pos) (eC (.bl i)) := ⟨PE.imp pe_bl fun σ H Q ⟨G, ρ, h, re, rh, p⟩ => p G H _ (.refl G) rh (.bl i)⟩
theorem de_non {j} : DE X T W (.Constant .none j pos) (eC .non) := ⟨PE.imp pe_non fun σ H Q ⟨G, ρ, h, re, rh, p⟩ => p G H _ (.refl G) rh .non⟩
theorem de_str {x j} (l : List Nat) (e : x = S l := by rfl) : DE X T W (.Constant (.str x) j pos) (eC (.str l)) := ⟨PE.imp pe_str fun σ H Q ⟨G, ρ, h, re, rh, p⟩ => p G H _ (.refl G) rh (e ▸ .str l)⟩
end
end Sh

set_option Elab.async false
set_option linter.all false
set_option maxRecDepth 100000
set_option maxHeartbeats 4000000
/-! Sh1: operators, comparisons, tests. -/
namespace Sh
open PySem PySem.Spec PyProof.Rows L2

/-- an operation upon data: what its reading asks -/
def rOp (K : PySem.W.Frag) (T : Tb) (f : D → D → Option D) : R2 := fun x y H Q => ∃ G h dx dy d, RH K T G h H ∧ RD K G dx x ∧ RD K G dy y ∧ f dx dy = some d ∧ ∀ G' H' z, G.le G' → RH K T G' h H' → RD K G' d z → Q z H'
abbrev OpD (X : Cx) (T : Tb) (fv : Value → Value → Sem Value) (f : D → D → Option D) : Prop := OpR X fv (rOp X.K T f)
def liftO (h : LH) : Option D → Res D
  | some d => .ok d h
  | none => .err
def eBin (f : D → D → Option D) (a b : Ev) : Ev := fun ρ h => (a ρ h).bind fun x h1 => (b ρ h1).bind fun y h2 => liftO h2 (f x y)
section
variable {X : Cx} {T : Tb} {W : WX} {pos : Pos} {a b c : Expr} {ma mb mc : Ev} {f g : D → D → Option D}
theorem bin_red {σ : L2.St} {H : Hp} {Q : VK} (k : tE X.K T W (eBin f ma mb) σ H Q) : tOp (rOp X.K T f) (tE X.K T W ma) (tE X.K T W mb) σ H Q := by
  obtain ⟨G, ρ, h, re, rh, p⟩ := k
  refine ⟨G, ρ, h, re, rh, ?_⟩
  unfold eBin at p
  cases e1 : ma ρ h with
  | ok x h1 =>
    rw [e1] at p
    intro G1 H1 v1 l1 rh1 rd1
    refine ⟨G1, ρ, h1, re.mono l1, rh1, ?_⟩
    simp only [Res.bind] at p
    cases e2 : mb ρ h1 with
    | ok y h2 =>
      rw [e2] at p
      simp only [Res.bind] at p
      intro G2 H2 v2 l2 rh2 rd2
      cases e3 : f x y with
      | some d =>
        rw [e3] at p
        exact ⟨G2, h2, x, y, d, rh2, rd1.mono l2, rd2, e3, fun G3 H3 z l3 r3 q3 => p G3 H3 z ((l1.trans l2).trans l3) r3 q3⟩
      | none => rw [e3] at p; exact p.elim
    | exc c h2 => rw [e2] at p; exact fun G2 H2 l2 rh2 => p G2 H2 (l1.trans l2) rh2
    | err => rw [e2] at p; exact p.elim
  | exc c h1 => rw [e1] at p; exact p
  | err => rw [e1] at p; exact p.elim
theorem de_bin {op : Operator} (ho : OpD X T (binaryOp op) f) (ha : DE X T W a ma) (hb : DE X T W b mb) : DE X T W (.BinOp a op b pos) (eBin f ma mb) := ⟨PE.imp (pe_op ho ha.p hb.p) fun σ H Q k => bin_red k⟩
theorem de_cmp {op : CmpOp} (ho : OpD X T (compareOp op) f) (ha : DE X T W a ma) (hb : DE X T W b mb) (hm : behindInMarks op b = false := by first | exact nomark _ | rfl) : DE X T W (.Compare a [op] [b] pos) (eBin f ma mb) := ⟨PE.imp (pe_cmpR ho ha.p hb.p hm) fun σ H Q k => bin_red k⟩
/-! ### tests -/
abbrev Bv := En → LH → Res Bool
def PostB (K : PySem.W.Frag) (T : Tb) (W : WX) (σ : L2.St) (G : Gh) (r : Res Bool) (Q : Bool → Hp → Prop) : Prop := match r with
  | .ok d h' => ∀ G' H', G.le G' → RH K T G' h' H' → Q d H'
  | .exc c h' => ∀ G' H', G.le G' → RH K T G' h' H' → W (.ref (He.ga K c)) none σ H'
  | .err => False
theorem PostB.mono {K : PySem.W.Frag} {T : Tb} {W : WX} {σ : L2.St} {G G' : Gh} {r : Res Bool} {Q : Bool → Hp → Prop} (h : PostB K T W σ G r Q) (l : G.le G') : PostB K T W σ G' r Q := by
  cases r with
  | ok d h' => exact fun G2 H l2 => h G2 H (l.trans l2)
  | exc c h' => exact fun G2 H l2 => h G2 H (l.trans l2)
  | err => exact h
def tT (K : PySem.W.Frag) (T : Tb) (W : WX) (m : Bv) : TT := fun σ H Q => ∃ G ρ h, RE K G ρ σ ∧ RH K T G h H ∧ PostB K T W σ G (m ρ h) Q
structure DT (X : Cx) (T : Tb) (W : WX) (e : Expr) (m : Bv) : Prop where
  p : PT X e (tT X.K T W m)
structure DW (X : Cx) (T : Tb) (W : WX) (e : Expr) (m : Bv) : Prop where
  p : PW X e (tT X.K T W m)
theorem PT.imp {e : Expr} {t t' : TT} (h : PT X e t) (i : ∀ σ H Q, t' σ H Q → t σ H Q) : PT X e t' := ⟨fun pins s σ H Q I q => h.run pins s σ H Q I (i _ _ _ q)⟩
theorem PW.imp {e : Expr} {t t' : TT} (h : PW X e t) (i : ∀ σ H Q, t' σ H Q → t σ H Q) : PW X e t' := ⟨fun wh pins s σ H Q I q => h.run wh pins s σ H Q I (i _ _ _ q)⟩
/-- a bool -/
def bTest (m : Ev) : Bv := fun ρ h => (m ρ h).bind fun d h1 => match d with
  | .bl k => .ok k h1
  | _ => .err
theorem test_red {σ : L2.St} {H : Hp} {Q : Bool → Hp → Prop} (k : tT X.K T W (bTest ma) σ H Q) : tE X.K T W ma σ H fun x H' => ∃ c, x = .bl c ∧ Q c H' := by
  obtain ⟨G, ρ, h, re, rh, p⟩ := k
  refine ⟨G, ρ, h, re, rh, ?_⟩
  unfold bTest at p
  cases e1 : ma ρ h with
  | ok x h1 =>
    rw [e1] at p
    intro G1 H1 v1 l1 rh1 rd1
    cases rd1 with
    | bl k => exact ⟨k, rfl, p G1 H1 l1 rh1⟩
    | _ => exact p.elim
  | exc c h1 => rw [e1] at p; exact p
  | err => rw [e1] at p; exact p.elim
theorem dt_val (ha : DE X T W a ma) (he : ∀ whole, isTrue a X.env whole = (do let v ← whole; standAt a.pos; holding [v] (truthy v)) := by intro _; rfl) : DT X T W a (bTest ma) :=
  ⟨PT.imp (pt_val ha.p he) fun σ H Q k => test_red k⟩
theorem dt_cmp {op : CmpOp} (ho : OpD X T (compareOp op) f) (ha : DE X T W a ma) (hb : DE X T W b mb) (hm : behindInMarks op b = false := by first | exact nomark _ | rfl) : DT X T W (.Compare a [op] [b] pos) (bTest (eBin f ma mb)) :=
  ⟨PT.imp (pt_cmpR ho ha.p hb.p hm) fun σ H Q k => by
    obtain ⟨G, ρ, h, re, rh, p⟩ := test_red k
    exact bin_red ⟨G, ρ, h, re, rh, p⟩⟩
def bNot (m : Bv) : Bv := fun ρ h => (m ρ h).bind fun k h1 => .ok (!k) h1
def bAnd (m n : Bv) : Bv := fun ρ h => (m ρ h).bind fun k h1 => if k = true then n ρ h1 else .ok false h1
def bOr (m n : Bv) : Bv := fun ρ h => (m ρ h).bind fun k h1 => if k = true then .ok true h1 else n ρ h1
variable {ta tb : Bv} {rest : List Expr}
theorem dt_not (ha : DT X T W a ta) : DT X T W (.UnaryOp .Not a pos) (bNot ta) := ⟨PT.imp (pt_not ha.p) fun σ H Q ⟨G, ρ, h, re, rh, p⟩ => by
  refine ⟨G, ρ, h, re, rh, ?_⟩
  unfold bNot at p
  cases e1 : ta ρ h with
  | ok x h1 => rw [e1] at p; exact p
  | exc c h1 => rw [e1] at p; exact p
  | err => rw [e1] at p; exact p⟩
theorem dw_one_and (ha : DT X T W a ta) : DW X T W (.BoolOp .And [a] pos) ta := ⟨pw_and1 ha.p⟩
theorem dw_one_or (ha : DT X T W a ta) : DW X T W (.BoolOp .Or [a] pos) ta := ⟨pw_or1 ha.p⟩
theorem dw_and (ha : DT X T W a ta) (hb : DW X T W (.BoolOp .And (b :: rest) pos) tb) : DW X T W (.BoolOp .And (a :: b :: rest) pos) (bAnd ta tb) := ⟨PW.imp (pw_and ha.p hb.p) fun σ H Q ⟨G, ρ, h, re, rh, p⟩ => by
  refine ⟨G, ρ, h, re, rh, ?_⟩
  unfold bAnd at p
  cases e1 : ta ρ h with
  | ok x h1 =>
    rw [e1] at p
    intro G1 H1 l1 rh1
    cases x with
    | true => rw [if_pos rfl]; exact ⟨G1, ρ, h1, re.mono l1, rh1, PostB.mono p l1⟩
    | false => rw [if_neg Bool.false_ne_true]; exact p G1 H1 l1 rh1
  | exc c h1 => rw [e1] at p; exact p
  | err => rw [e1] at p; exact p⟩
theorem dw_or (ha : DT X T W a ta) (hb : DW X T W (.BoolOp .Or (b :: rest) pos) tb) : DW X T W (.BoolOp .Or (a :: b :: rest) pos) (bOr ta tb) := ⟨PW.imp (pw_or ha.p hb.p) fun σ H Q ⟨G, ρ, h, re, rh, p⟩ => by
  refine ⟨G, ρ, h, re, rh, ?_⟩
  unfold bOr at p
  cases e1 : ta ρ h with
  | ok x h1 =>
    rw [e1] at p
    intro G1 H1 l1 rh1
    cases x with
    | true => rw [if_pos rfl]; exact p G1 H1 l1 rh1
    | false => rw [if_neg Bool.false_ne_true]; exact ⟨G1, ρ, h1, re.mono l1, rh1, PostB.mono p l1⟩
  | exc c h1 => rw [e1] at p; exact p
  | err => rw [e1] at p; exact p⟩
theorem DW.dt {e : Expr} (h : DW X T W e ta) : DT X T W e ta := ⟨h.p.pt⟩
/-- and, or as values: bools -/
def eAnd (m n : Ev) : Ev := fun ρ h => (m ρ h).bind fun k h1 => match k with
  | .bl true => n ρ h1
  | .bl false => .ok (.bl false) h1
  | _ => .err
def eOr (m n : Ev) : Ev := fun ρ h => (m ρ h).bind fun k h1 => match k with
  | .bl true => .ok (.bl true) h1
  | .bl false => n ρ h1
  | _ => .err
theorem de_one {op} (ha : DE X T W a ma) : DE X T W (.BoolOp op [a] pos) ma := ⟨pe_one ha.p⟩
theorem de_and (ha : DE X T W a ma) (hb : DE X T W (.BoolOp .And (b :: rest) pos) mb) : DE X T W (.BoolOp .And (a :: b :: rest) pos) (eAnd ma mb) := ⟨PE.imp (pe_and ha.p hb.p) fun σ H Q ⟨G, ρ, h, re, rh, p⟩ => by
  refine ⟨G, ρ, h, re, rh, ?_⟩
  unfold eAnd at p
  cases e1 : ma ρ h with
  | ok x h1 =>
    rw [e1] at p
    intro G1 H1 v l1 rh1 rd1
    cases rd1 with
    | bl k =>
      refine ⟨k, rfl, ?_⟩
      cases k with
      | true => rw [if_pos rfl]; exact ⟨G1, ρ, h1, re.mono l1, rh1, Post.mono p l1⟩
      | false => rw [if_neg Bool.false_ne_true]; exact p G1 H1 _ l1 rh1 (.bl _)
    | _ => exact p.elim
  | exc c h1 => rw [e1] at p; exact p
  | err => rw [e1] at p; exact p⟩
theorem de_or (ha : DE X T W a ma) (hb : DE X T W (.BoolOp .Or (b :: rest) pos) mb) : DE X T W (.BoolOp .Or (a :: b :: rest) pos) (eOr ma mb) := ⟨PE.imp (pe_or ha.p hb.p) fun σ H Q ⟨G, ρ, h, re, rh, p⟩ => by
  refine ⟨G, ρ, h, re, rh, ?_⟩
  unfold eOr at p
  cases e1 : ma ρ h with
  | ok x h1 =>
    rw [e1] at p
    intro G1 H1 v l1 rh1 rd1
    cases rd1 with
    | bl k =>
      refine ⟨k, rfl, ?_⟩
      cases k with
      | true => rw [if_pos rfl]; exact p G1 H1 _ l1 rh1 (.bl _)
      | false => rw [if_neg Bool.false_ne_true]; exact ⟨G1, ρ, h1, re.mono l1, rh1, Post.mono p l1⟩
    | _ => exact p.elim
  | exc c h1 => rw [e1] at p; exact p
  | err => rw [e1] at p; exact p⟩
def eNot (m : Ev) : Ev := fun ρ h => (m ρ h).bind fun k h1 => match k with
  | .bl k => .ok (.bl (!k)) h1
  | _ => .err
theorem de_not (ha : DE X T W a ma) : DE X T W (.UnaryOp .Not a pos) (eNot ma) := ⟨PE.imp (pe_not ha.p) fun σ H Q ⟨G, ρ, h, re, rh, p⟩ => by
  refine ⟨G, ρ, h, re, rh, ?_⟩
  unfold eNot at p
  cases e1 : ma ρ h with
  | ok x h1 =>
    rw [e1] at p
    intro G1 H1 v l1 rh1 rd1
    cases rd1 with
    | bl k => exact ⟨k, rfl, p G1 H1 _ l1 rh1 (.bl _)⟩
    | _ => exact p.elim
  | exc c h1 => rw [e1] at p; exact p
  | err => rw [e1] at p; exact p⟩
def eIf (t : Bv) (a b : Ev) : Ev := fun ρ h => (t ρ h).bind fun k h1 => if k = true then a ρ h1 else b ρ h1
theorem de_if (hc : DT X T W c ta) (ha : DE X T W a ma) (hb : DE X T W b mb) : DE X T W (.IfExp c a b pos) (eIf ta ma mb) := ⟨PE.imp (pe_ifExp hc.p ha.p hb.p) fun σ H Q ⟨G, ρ, h, re, rh, p⟩ => by
  refine ⟨G, ρ, h, re, rh, ?_⟩
  unfold eIf at p
  cases e1 : ta ρ h with
  | ok x h1 =>
    rw [e1] at p
    intro G1 H1 l1 rh1
    cases x with
    | true => rw [if_pos rfl]; exact ⟨G1, ρ, h1, re.mono l1, rh1, Post.mono p l1⟩
    | false => rw [if_neg Bool.false_ne_true]; exact ⟨G1, ρ, h1, re.mono l1, rh1, Post.mono p l1⟩
  | exc c h1 => rw [e1] at p; exact p
  | err => rw [e1] at p; exact p⟩
/-! ### chains -/
def eChain (f g : D → D → Option D) (a b c : Ev) : Ev := fun ρ h => (a ρ h).bind fun x h1 => (b ρ h1).bind fun y h2 => match f x y with
  | some (.bl true) => (c ρ h2).bind fun z h3 => liftO h3 (g y z)
  | some (.bl false) => .ok (.bl false) h2
  | _ => .err
theorem chain_red {σ : L2.St} {H : Hp} {Q : VK} (k : tE X.K T W (eChain f g ma mb mc) σ H Q) : tChain (rOp X.K T f) (rOp X.K T g) (tE X.K T W ma) (tE X.K T W mb) (tE X.K T W mc) σ H Q := by
  obtain ⟨G, ρ, h, re, rh, p⟩ := k
  refine ⟨G, ρ, h, re, rh, ?_⟩
  unfold eChain at p
  cases e1 : ma ρ h with
  | ok x h1 =>
    rw [e1] at p
    intro G1 H1 v1 l1 rh1 rd1
    refine ⟨G1, ρ, h1, re.mono l1, rh1, ?_⟩
    simp only [Res.bind] at p
    cases e2 : mb ρ h1 with
    | ok y h2 =>
      rw [e2] at p
      simp only [Res.bind] at p
      intro G2 H2 v2 l2 rh2 rd2
      cases e3 : f x y with
      | some d =>
        rw [e3] at p
        refine ⟨G2, h2, x, y, d, rh2, rd1.mono l2, rd2, e3, fun G3 H3 z l3 r3 q3 => ?_⟩
        cases q3 with
        | bl k =>
          refine ⟨k, rfl, ?_⟩
          cases k with
          | true =>
            rw [if_pos rfl]
            refine ⟨G3, ρ, h2, re.mono ((l1.trans l2).trans l3), r3, ?_⟩
            have p : Post X.K T W σ G ((mc ρ h2).bind fun z h3 => liftO h3 (g y z)) Q := p
            cases e4 : mc ρ h2 with
            | ok w h3 =>
              rw [e4] at p
              simp only [Res.bind] at p
              intro G4 H4 v4 l4 rh4 rd4
              cases e5 : g y w with
              | some d' =>
                rw [e5] at p
                exact ⟨G4, h3, y, w, d', rh4, (rd2.mono l3).mono l4, rd4, e5, fun G5 H5 z l5 r5 q5 => p G5 H5 z (((l1.trans l2).trans l3).trans (l4.trans l5)) r5 q5⟩
              | none => rw [e5] at p; exact p.elim
            | exc c h3 => rw [e4] at p; exact fun G4 H4 l4 rh4 => p G4 H4 (((l1.trans l2).trans l3).trans l4) rh4
            | err => rw [e4] at p; exact p.elim
          | false => rw [if_neg Bool.false_ne_true]; exact p G3 H3 _ ((l1.trans l2).trans l3) r3 (.bl _)
        | _ => exact p.elim
      | none => rw [e3] at p; exact p.elim
    | exc c h2 => rw [e2] at p; exact fun G2 H2 l2 rh2 => p G2 H2 (l1.trans l2) rh2
    | err => rw [e2] at p; exact p.elim
  | exc c h1 => rw [e1] at p; exact p
  | err => rw [e1] at p; exact p.elim
theorem de_chain {op op' : CmpOp} (ho : OpD X T (compareOp op) f) (ho' : OpD X T (compareOp op') g) (ha : DE X T W a ma) (hb : DE X T W b mb) (hc : DE X T W c mc) (hm : lastMarks [op, op'] [b, c] = false := by rfl) : DE X T W (.Compare a [op, op'] [b, c] pos) (eChain f g ma mb mc) :=
  ⟨PE.imp (pe_chain ho ho' ha.p hb.p hc.p hm) fun σ H Q k => chain_red k⟩
theorem dt_chain {op op' : CmpOp} (ho : OpD X T (compareOp op) f) (ho' : OpD X T (compareOp op') g) (ha : DE X T W a ma) (hb : DE X T W b mb) (hc : DE X T W c mc) (hm : lastMarks [op, op'] [b, c] = false := by rfl) : DT X T W (.Compare a [op, op'] [b, c] pos) (bTest (eChain f g ma mb mc)) :=
  ⟨PT.imp (pt_chain ho ho' ha.p hb.p hc.p hm) fun σ H Q k => by
    obtain ⟨G, ρ, h, re, rh, p⟩ := test_red k
    exact chain_red ⟨G, ρ, h, re, rh, p⟩⟩
/-! ### arguments -/
abbrev Av := En → LH → Res (List D)
def PostA (K : PySem.W.Frag) (T : Tb) (W : WX) (σ : L2.St) (G : Gh) (r : Res (List D)) (Q : List V → Hp → Prop) : Prop := match r with
  | .ok d h' => ∀ G' H' v, G.le G' → RH K T G' h' H' → RDs K G' d v → Q v H'
  | .exc c h' => ∀ G' H', G.le G' → RH K T G' h' H' → W (.ref (He.ga K c)) none σ H'
  | .err => False
theorem PostA.mono {K : PySem.W.Frag} {T : Tb} {W : WX} {σ : L2.St} {G G' : Gh} {r : Res (List D)} {Q : List V → Hp → Prop} (h : PostA K T W σ G r Q) (l : G.le G') : PostA K T W σ G' r Q := by
  cases r with
  | ok d h' => exact fun G2 H v l2 => h G2 H v (l.trans l2)
  | exc c h' => exact fun G2 H l2 => h G2 H (l.trans l2)
  | err => exact h
def tA (K : PySem.W.Frag) (T : Tb) (W : WX) (m : Av) : TA := fun σ H Q => ∃ G ρ h, RE K G ρ σ ∧ RH K T G h H ∧ PostA K T W σ G (m ρ h) Q
structure DA (X : Cx) (T : Tb) (W : WX) (es : List Expr) (m : Av) : Prop where
  p : PA X es (tA X.K T W m)
theorem PA.imp {es : List Expr} {t t' : TA} (h : PA X es t) (i : ∀ σ H Q, t' σ H Q → t σ H Q) : PA X es t' := ⟨fun pos pins s σ H Q I q => h.run pos pins s σ H Q I (i _ _ _ q)⟩
def aNil : Av := fun _ h => .ok [] h
def aCons (a : Ev) (b : Av) : Av := fun ρ h => (a ρ h).bind fun x h1 => (b ρ h1).bind fun xs h2 => .ok (x :: xs) h2
variable {es : List Expr} {mas : Av}
theorem da_nil : DA X T W [] aNil := ⟨PA.imp pa_nil fun σ H Q ⟨G, ρ, h, re, rh, p⟩ => p G H _ (.refl G) rh .nil⟩
theorem da_cons (ha : DE X T W a ma) (hr : DA X T W es mas) (hs : starEach (a :: es) X.env = (false, eval a X.env) :: starEach es X.env := by rfl) : DA X T W (a :: es) (aCons ma mas) := ⟨PA.imp (pa_cons ha.p hr.p hs) fun σ H Q ⟨G, ρ, h, re, rh, p⟩ => by
  refine ⟨G, ρ, h, re, rh, ?_⟩
  unfold aCons at p
  cases e1 : ma ρ h with
  | ok x h1 =>
    rw [e1] at p
    intro G1 H1 v1 l1 rh1 rd1
    refine ⟨G1, ρ, h1, re.mono l1, rh1, ?_⟩
    simp only [Res.bind] at p
    cases e2 : mas ρ h1 with
    | ok y h2 =>
      rw [e2] at p
      exact fun G2 H2 v2 l2 rh2 rd2 => p G2 H2 _ (l1.trans l2) rh2 (.cons (rd1.mono l2) rd2)
    | exc c h2 => rw [e2] at p; exact fun G2 H2 l2 rh2 => p G2 H2 (l1.trans l2) rh2
    | err => rw [e2] at p; exact p.elim
  | exc c h1 => rw [e1] at p; exact p
  | err => rw [e1] at p; exact p.elim⟩
/-- what a function of the arguments' values asks -/
def rFn (K : PySem.W.Frag) (T : Tb) (σ : L2.St) (W : WX) (f : List D → LH → Res D) : List V → Hp → VK → Prop := fun vs H Q => ∃ G h ds, RH K T G h H ∧ RDs K G ds vs ∧ Post K T W σ G (f ds h) Q
def eCall (f : List D → LH → Res D) (m : Av) : Ev := fun ρ h => (m ρ h).bind fun ds h1 => f ds h1
theorem call_red {fn : List D → LH → Res D} {σ : L2.St} {H : Hp} {Q : VK} (k : tE X.K T W (eCall fn mas) σ H Q) : tA X.K T W mas σ H (fun vs H1 => rFn X.K T σ W fn vs H1 Q) := by
  obtain ⟨G, ρ, h, re, rh, p⟩ := k
  refine ⟨G, ρ, h, re, rh, ?_⟩
  unfold eCall at p
  cases e1 : mas ρ h with
  | ok x h1 => rw [e1] at p; exact fun G1 H1 v1 l1 rh1 rd1 => ⟨G1, h1, x, rh1, rd1, Post.mono p l1⟩
  | exc c h1 => rw [e1] at p; exact p
  | err => rw [e1] at p; exact p
/-- a builtin's call: no exception -/
def rBl (K : PySem.W.Frag) (T : Tb) (f : List D → LH → Option (D × LH)) : List V → Hp → VK → Prop := fun vs H Q => ∃ G h ds d h', RH K T G h H ∧ RDs K G ds vs ∧ f ds h = some (d, h') ∧ ∀ G' H' z, G.le G' → RH K T G' h' H' → RD K G' d z → Q z H'
abbrev CallD (X : Cx) (T : Tb) (fv : Value) (f : List D → LH → Option (D × LH)) : Prop := CallR X fv (rBl X.K T f)
def bRes (f : List D → LH → Option (D × LH)) (ds : List D) (h : LH) : Res D := match f ds h with
  | some (d, h') => .ok d h'
  | none => .err
theorem rBl_of {fn : List D → LH → Option (D × LH)} {σ : L2.St} {vs : List V} {H : Hp} {Q : VK} (k : rFn X.K T σ W (bRes fn) vs H Q) : rBl X.K T fn vs H Q := by
  obtain ⟨G, h, ds, rh, rd, p⟩ := k
  unfold bRes at p
  cases e : fn ds h with
  | some r => obtain ⟨d, h'⟩ := r; rw [e] at p; exact ⟨G, h, ds, d, h', rh, rd, e, p⟩
  | none => rw [e] at p; exact p.elim
variable {x : Str} {id Ty : String} {p : Pos} {fb : List D → LH → Option (D × LH)}
theorem de_callB (hc : CallD X T (.builtin id) fb) (hg : Gl X x) (hm : X.mg x = none) (hv : bootBuiltins x = some (.builtin id)) (ha : DA X T W (a :: es) mas) (hn : x ≠ "__name__" := by decide) (hdb : (x == ("__debug__" : Str)) = false := by decide)
    (he : starEach (a :: es) X.env = (false, eval a X.env) :: starEach es X.env := by rfl) (hpl : (backTo pos (starEach es X.env)).any (·.1) = false := by rfl) : DE X T W (.Call (.Name x p) (a :: es) [] pos) (eCall (bRes fb) mas) :=
  ⟨PE.imp (pe_callB hc hg hm hv ha.p hn hdb he hpl) fun σ H Q k => by
    obtain ⟨G, ρ, h, re, rh, q⟩ := call_red k
    refine ⟨G, ρ, h, re, rh, ?_⟩
    cases e : mas ρ h with
    | ok x h1 => rw [e] at q; exact fun G1 H1 v1 l1 r1 d1 => rBl_of (q G1 H1 v1 l1 r1 d1)
    | exc c h1 => rw [e] at q; exact q
    | err => rw [e] at q; exact q⟩
theorem de_callT (hc : CallD X T (.type Ty) fb) (hg : Gl X x) (hm : X.mg x = none) (hv : bootBuiltins x = some (.type Ty)) (ha : DA X T W (a :: es) mas) (hn : x ≠ "__name__" := by decide) (hdb : (x == ("__debug__" : Str)) = false := by decide)
    (he : starEach (a :: es) X.env = (false, eval a X.env) :: starEach es X.env := by rfl) (hpl : (backTo pos (starEach es X.env)).any (·.1) = false := by rfl) : DE X T W (.Call (.Name x p) (a :: es) [] pos) (eCall (bRes fb) mas) :=
  ⟨PE.imp (pe_callTy hc hg hm hv ha.p hn hdb he hpl) fun σ H Q k => by
    obtain ⟨G, ρ, h, re, rh, q⟩ := call_red k
    refine ⟨G, ρ, h, re, rh, ?_⟩
    cases e : mas ρ h with
    | ok x h1 => rw [e] at q; exact fun G1 H1 v1 l1 r1 d1 => rBl_of (q G1 H1 v1 l1 r1 d1)
    | exc c h1 => rw [e] at q; exact q
    | err => rw [e] at q; exact q⟩
end
end Sh

set_option Elab.async false
set_option linter.all false
set_option maxRecDepth 100000
set_option maxHeartbeats 4000000
/-! Sh2: statements, loops, calls of defs. -/
namespace Sh
open PySem PySem.Spec PyProof.Rows L2

inductive SR where
  | nx (ρ : En) (h : LH) | rt (d : D) (h : LH) | bk (ρ : En) (h : LH) | ct (ρ : En) (h : LH) | ex (c : Str) (ρ : En) (h : LH) | er
abbrev Sv := En → LH → SR
def PostS (K : PySem.W.Frag) (T : Tb) (W : WX) (G : Gh) (r : SR) (E : Ends) : Prop := match r with
  | .nx ρ' h' => ∀ G' H' σ', G.le G' → RE K G' ρ' σ' → RH K T G' h' H' → E.nx σ' H'
  | .rt d h' => ∀ G' H' v, G.le G' → RH K T G' h' H' → RD K G' d v → E.rt v H'
  | .bk ρ' h' => ∀ G' H' σ', G.le G' → RE K G' ρ' σ' → RH K T G' h' H' → E.bk σ' H'
  | .ct ρ' h' => ∀ G' H' σ', G.le G' → RE K G' ρ' σ' → RH K T G' h' H' → E.ct σ' H'
  | .ex c ρ' h' => ∀ G' H' σ', G.le G' → RE K G' ρ' σ' → RH K T G' h' H' → W (.ref (He.ga K c)) none σ' H'
  | .er => False
theorem PostS.mono {K : PySem.W.Frag} {T : Tb} {W : WX} {G G' : Gh} {r : SR} {E : Ends} (h : PostS K T W G r E) (l : G.le G') : PostS K T W G' r E := by
  cases r with
  | nx ρ h' => exact fun G2 H σ l2 => h G2 H σ (l.trans l2)
  | rt d h' => exact fun G2 H σ l2 => h G2 H σ (l.trans l2)
  | bk ρ h' => exact fun G2 H σ l2 => h G2 H σ (l.trans l2)
  | ct ρ h' => exact fun G2 H σ l2 => h G2 H σ (l.trans l2)
  | ex c ρ h' => exact fun G2 H σ l2 => h G2 H σ (l.trans l2)
  | er => exact h
def tS (K : PySem.W.Frag) (T : Tb) (W : WX) (m : Sv) : TS := fun E σ H => ∃ G ρ h, RE K G ρ σ ∧ RH K T G h H ∧ PostS K T W G (m ρ h) E
structure DS (X : Cx) (T : Tb) (W : WX) (st : Stmt) (m : Sv) : Prop where
  p : PS X st (tS X.K T W m)
structure DB (X : Cx) (T : Tb) (W : WX) (st : List Stmt) (m : Sv) : Prop where
  p : PSs X st (tS X.K T W m)
theorem PS.imp {X : Cx} {st : Stmt} {t t' : TS} (h : PS X st t) (i : ∀ E σ H, t' E σ H → t E σ H) : PS X st t' := ⟨fun pins s σ H E I q => h.run pins s σ H E I (i _ _ _ q)⟩
theorem PSs.imp {X : Cx} {st : List Stmt} {t t' : TS} (h : PSs X st t) (i : ∀ E σ H, t' E σ H → t E σ H) : PSs X st t' := ⟨fun pins s σ H E I q => h.run pins s σ H E I (i _ _ _ q)⟩
@[simp] def SR.then (r : SR) (f : Sv) : SR := match r with
  | .nx ρ h => f ρ h
  | .rt d h => .rt d h
  | .bk ρ h => .bk ρ h
  | .ct ρ h => .ct ρ h
  | .ex c ρ h => .ex c ρ h
  | .er => .er
/-- an expression within a statement -/
@[simp] def Res.st {α : Type} (r : Res α) (ρ : En) (f : α → LH → SR) : SR := match r with
  | .ok a h => f a h
  | .exc c h => .ex c ρ h
  | .err => .er
section
variable {X : Cx} {T : Tb} {W : WX} {pos : Pos} {st : Stmt} {rest : List Stmt} {e : Expr} {m n : Sv} {me : Ev} {mt : Bv}
/-- how an expression's reading is met within a statement -/
theorem e_red {σ : L2.St} {H : Hp} {E : Ends} {G : Gh} {ρ : En} {h : LH} {f : D → LH → SR} {Q : VK} (re : RE X.K G ρ σ) (rh : RH X.K T G h H) (p : PostS X.K T W G ((me ρ h).st ρ f) E)
    (k : ∀ d h1 G1 H1 v, G.le G1 → RH X.K T G1 h1 H1 → RD X.K G1 d v → PostS X.K T W G1 (f d h1) E → Q v H1) : tE X.K T W me σ H Q := by
  refine ⟨G, ρ, h, re, rh, ?_⟩
  cases e1 : me ρ h with
  | ok d h1 => rw [e1] at p; exact fun G1 H1 v l1 r1 d1 => k d h1 G1 H1 v l1 r1 d1 (PostS.mono p l1)
  | exc c h1 => rw [e1] at p; exact fun G1 H1 l1 r1 => p G1 H1 σ l1 (re.mono l1) r1
  | err => rw [e1] at p; exact p
theorem t_red {σ : L2.St} {H : Hp} {E : Ends} {G : Gh} {ρ : En} {h : LH} {f : Bool → LH → SR} {Q : Bool → Hp → Prop} (re : RE X.K G ρ σ) (rh : RH X.K T G h H) (p : PostS X.K T W G ((mt ρ h).st ρ f) E)
    (k : ∀ d h1 G1 H1, G.le G1 → RH X.K T G1 h1 H1 → PostS X.K T W G1 (f d h1) E → Q d H1) : tT X.K T W mt σ H Q := by
  refine ⟨G, ρ, h, re, rh, ?_⟩
  cases e1 : mt ρ h with
  | ok d h1 => rw [e1] at p; exact fun G1 H1 l1 r1 => k d h1 G1 H1 l1 r1 (PostS.mono p l1)
  | exc c h1 => rw [e1] at p; exact fun G1 H1 l1 r1 => p G1 H1 σ l1 (re.mono l1) r1
  | err => rw [e1] at p; exact p
def sNil : Sv := fun ρ h => .nx ρ h
def sSeq (m n : Sv) : Sv := fun ρ h => (m ρ h).then n
theorem db_nil : DB X T W [] sNil := ⟨PSs.imp pss_nil fun E σ H ⟨G, ρ, h, re, rh, p⟩ => p G H σ (.refl G) re rh⟩
theorem db_one (h1 : DS X T W st m) : DB X T W [st] m := ⟨pss_one h1.p⟩
theorem db_cons (h1 : DS X T W st m) (h2 : DB X T W rest n) : DB X T W (st :: rest) (sSeq m n) := ⟨PSs.imp (pss_cons h1.p h2.p) fun E σ H ⟨G, ρ, h, re, rh, p⟩ => by
  refine ⟨G, ρ, h, re, rh, ?_⟩
  unfold sSeq at p
  cases e : m ρ h with
  | nx ρ' h' => rw [e] at p; exact fun G1 H1 σ1 l1 re1 rh1 => ⟨G1, ρ', h', re1, rh1, PostS.mono p l1⟩
  | rt d h' => rw [e] at p; exact p
  | bk ρ' h' => rw [e] at p; exact p
  | ct ρ' h' => rw [e] at p; exact p
  | ex c ρ' h' => rw [e] at p; exact p
  | er => rw [e] at p; exact p⟩
def sBreak : Sv := fun ρ h => .bk ρ h
def sCont : Sv := fun ρ h => .ct ρ h
theorem ds_pass : DS X T W (.Pass pos) sNil := ⟨PS.imp ps_pass fun E σ H ⟨G, ρ, h, re, rh, p⟩ => p G H σ (.refl G) re rh⟩
theorem ds_break : DS X T W (.Break pos) sBreak := ⟨PS.imp ps_break fun E σ H ⟨G, ρ, h, re, rh, p⟩ => p G H σ (.refl G) re rh⟩
theorem ds_cont : DS X T W (.Continue pos) sCont := ⟨PS.imp ps_continue fun E σ H ⟨G, ρ, h, re, rh, p⟩ => p G H σ (.refl G) re rh⟩
def sExpr (me : Ev) : Sv := fun ρ h => (me ρ h).st ρ fun _ h1 => .nx ρ h1
theorem ds_expr (he : DE X T W e me) (hs : swapsWith e none pos.line X.env = pure false := by rfl) : DS X T W (.Expr e pos) (sExpr me) := ⟨PS.imp (ps_expr he.p hs) fun E σ H ⟨G, ρ, h, re, rh, p⟩ =>
  e_red re rh p fun d h1 G1 H1 v l1 r1 d1 q => q G1 H1 σ (.refl _) (re.mono l1) r1⟩
def sRet (me : Ev) : Sv := fun ρ h => (me ρ h).st ρ fun d h1 => .rt d h1
theorem ds_ret (he : DE X T W e me) : DS X T W (.Return (some e) pos) (sRet me) := ⟨PS.imp (ps_ret he.p) fun E σ H ⟨G, ρ, h, re, rh, p⟩ =>
  e_red re rh p fun d h1 G1 H1 v l1 r1 d1 q => q G1 H1 v (.refl _) r1 d1⟩
def sRetN : Sv := fun _ h => .rt .non h
theorem ds_retN : DS X T W (.Return none pos) sRetN := ⟨PS.imp ps_retN fun E σ H ⟨G, ρ, h, re, rh, p⟩ => p G H _ (.refl G) rh .non⟩
def sIf (t : Bv) (m n : Sv) : Sv := fun ρ h => (t ρ h).st ρ fun k h1 => if k = true then m ρ h1 else n ρ h1
theorem ds_if {c : Expr} {a b : List Stmt} (hc : DT X T W c mt) (ha : DB X T W a m) (hb : DB X T W b n) : DS X T W (.If c a b pos) (sIf mt m n) := ⟨PS.imp (ps_if hc.p ha.p hb.p) fun E σ H ⟨G, ρ, h, re, rh, p⟩ =>
  t_red re rh p fun d h1 G1 H1 l1 r1 q => by
    cases d with
    | true => rw [if_pos rfl]; exact ⟨G1, ρ, h1, re.mono l1, r1, q⟩
    | false => rw [if_neg Bool.false_ne_true]; exact ⟨G1, ρ, h1, re.mono l1, r1, q⟩⟩
/-- code that is never reached -/
theorem ds_never : DS X T W st (fun _ _ => .er) := ⟨PS.imp ps_never fun E σ H ⟨G, ρ, h, re, rh, p⟩ => p⟩
/-! ### targets -/
abbrev Gv := D → En → LH → Option (En × LH)
def PostG (K : PySem.W.Frag) (T : Tb) (G : Gh) (r : Option (En × LH)) (Q : L2.St → Hp → Prop) : Prop := match r with
  | some (ρ', h') => ∀ G' H' σ', G.le G' → RE K G' ρ' σ' → RH K T G' h' H' → Q σ' H'
  | none => False
theorem PostG.mono {K : PySem.W.Frag} {T : Tb} {G G' : Gh} {r : Option (En × LH)} {Q : L2.St → Hp → Prop} (h : PostG K T G r Q) (l : G.le G') : PostG K T G' r Q := by
  cases r with
  | some q => exact fun G2 H σ l2 => h G2 H σ (l.trans l2)
  | none => exact h
def tG (K : PySem.W.Frag) (T : Tb) (g : Gv) : TG := fun v σ H Q => ∃ G ρ h d, RE K G ρ σ ∧ RH K T G h H ∧ RD K G d v ∧ PostG K T G (g d ρ h) Q
structure DG (X : Cx) (T : Tb) (tg : Expr) (g : Gv) : Prop where
  p : PG X tg (tG X.K T g)
abbrev Gvs := List D → En → LH → Option (En × LH)
def tGs (K : PySem.W.Frag) (T : Tb) (g : Gvs) : TGs := fun v σ H Q => ∃ G ρ h d, RE K G ρ σ ∧ RH K T G h H ∧ RDs K G d v ∧ PostG K T G (g d ρ h) Q
structure DGs (X : Cx) (T : Tb) (ts : List Expr) (g : Gvs) : Prop where
  p : PGs X ts (tGs X.K T g)
theorem PG.imp {tg : Expr} {t t' : TG} (h : PG X tg t) (i : ∀ v σ H Q, t' v σ H Q → t v σ H Q) : PG X tg t' := ⟨fun pins s σ H v u Q I r q => h.run pins s σ H v u Q I r (i _ _ _ _ q)⟩
theorem PGs.imp {tg : List Expr} {t t' : TGs} (h : PGs X tg t) (i : ∀ v σ H Q, t' v σ H Q → t v σ H Q) : PGs X tg t' := ⟨fun pins s σ H v u Q I r q => h.run pins s σ H v u Q I r (i _ _ _ _ q)⟩
theorem PG.or {tg : Expr} {t t' : TG} (h : PG X tg t) (h' : PG X tg t') : PG X tg (fun v σ H Q => t v σ H Q ∨ t' v σ H Q) := ⟨fun pins s σ H v u Q I r q => by
  rcases q with q | q
  · exact h.run pins s σ H v u Q I r q
  · exact h'.run pins s σ H v u Q I r q⟩
def gNm (i : Nat) : Gv := fun d ρ h => some (ρ.set i (some d), h)
theorem RE.set {K : PySem.W.Frag} {G : Gh} {ρ : En} {σ : L2.St} (re : RE K G ρ σ) (i : Nat) {d : D} {v : V} (r : RD K G d v) : RE K G (ρ.set i (some d)) (σ.set i (some v)) := by
  refine ⟨by rw [List.length_set, List.length_set]; exact re.len, fun j d' e => ?_⟩
  by_cases hj : j = i
  · subst hj
    by_cases hl : j < ρ.length
    · rw [List.getElem?_set_self hl] at e
      cases e
      exact ⟨v, by rw [List.getElem?_set_self (by rw [← re.len]; exact hl)], r⟩
    · rw [List.getElem?_eq_none (by rw [List.length_set]; omega)] at e; cases e
  · rw [List.getElem?_set_ne (Ne.symm hj)] at e ⊢
    exact re.get j d' e
theorem dg_name {i : Nat} {x : Str} (hN : X.N.Nodup) (hi : X.N[i]? = some x) (hx : Loc X.env.scope x) (hf : X.fn x = true ∨ X.env.scope.names.lookup x = some .local := by first | exact .inl rfl | exact .inr rfl | assumption) : DG X T (.Name x pos) (gNm i) :=
  ⟨PG.imp (pg_name hN hi hx hf) fun v σ H Q ⟨G, ρ, h, d, re, rh, rd, p⟩ => p G H _ (.refl G) (re.set i rd) rh⟩
def gNils : Gvs := fun ds ρ h => match ds with
  | [] => some (ρ, h)
  | _ => none
def gCns (g : Gv) (gs : Gvs) : Gvs := fun ds ρ h => match ds with
  | d :: ds => (g d ρ h).bind fun r => gs ds r.1 r.2
  | [] => none
theorem dgs_nil : DGs X T [] gNils := ⟨PGs.imp pgs_nil fun v σ H Q ⟨G, ρ, h, d, re, rh, rd, p⟩ => by
  cases rd with
  | nil => exact ⟨rfl, p G H _ (.refl G) re rh⟩
  | cons _ _ => exact p.elim⟩
theorem dgs_cons {g : Gv} {gs : Gvs} {es : List Expr} (h1 : DG X T e g) (h2 : DGs X T es gs) (hs : (assignEach (e :: es) X.env).map (·.2) = assign e X.env :: (assignEach es X.env).map (·.2) := by rfl) : DGs X T (e :: es) (gCns g gs) :=
  ⟨PGs.imp (pgs_cons h1.p h2.p hs) fun v σ H Q ⟨G, ρ, h, d, re, rh, rd, p⟩ => by
    cases rd with
    | nil => exact p.elim
    | @cons x xs v2 vs r t =>
      refine ⟨v2, vs, rfl, G, ρ, h, x, re, rh, r, ?_⟩
      have p : PostG X.K T G ((g x ρ h).bind fun r => gs xs r.1 r.2) Q := p
      cases e1 : g x ρ h with
      | some q =>
        obtain ⟨ρ1, h1⟩ := q
        rw [e1] at p
        exact fun G1 H1 σ1 l1 re1 rh1 => ⟨G1, ρ1, h1, xs, re1, rh1, t.mono l1, PostG.mono p l1⟩
      | none => rw [e1] at p; exact p⟩
def gTp (n : Nat) (gs : Gvs) : Gv := fun d ρ h => match d with
  | .tup xs => if xs.length = n then gs xs ρ h else none
  | .lst xs => if xs.length = n then gs xs ρ h else none
  | _ => none
theorem dg_tup {es : List Expr} {k n : Nat} {gs : Gvs} (hc : X.calm = true) (h : DGs X T es gs) (hn : (assignEach es X.env).length = n := by rfl) (hst : (assignEach es X.env).findIdx? (·.1) = none := by rfl) : DG X T (.Tuple es k pos) (gTp n gs) :=
  ⟨PG.imp (PG.or (pg_tup hc h.p hn hst) (pg_lst hc h.p hn hst)) fun v σ H Q ⟨G, ρ, h, d, re, rh, rd, p⟩ => by
    cases rd with
    | @tup xs vs a q r =>
      simp only [gTp] at p
      split at p
      · rename_i hl
        exact .inl ⟨a, vs, rfl, SqT.mono q rh.F, by rw [← r.length]; exact hl, G, ρ, h, xs, re, rh, r, p⟩
      · exact p.elim
    | @lst xs vs a q r =>
      simp only [gTp] at p
      split at p
      · rename_i hl
        exact .inr ⟨a, vs, rfl, SqL.of (rh.F _ _ q), by rw [← r.length]; exact hl, G, ρ, h, xs, re, rh, r, p⟩
      · exact p.elim
    | _ => exact p.elim⟩
def sAsg (me : Ev) (g : Gv) : Sv := fun ρ h => (me ρ h).st ρ fun d h1 => match g d ρ h1 with
  | some (ρ', h') => .nx ρ' h'
  | none => .er
theorem asg_red {σ : L2.St} {H : Hp} {E : Ends} {g : Gv} (k : tS X.K T W (sAsg me g) E σ H) : tAsg (tE X.K T W me) (tG X.K T g) E σ H := by
  obtain ⟨G, ρ, h, re, rh, p⟩ := k
  refine e_red re rh p fun d h1 G1 H1 v l1 r1 d1 q => ?_
  refine ⟨G1, ρ, h1, d, re.mono l1, r1, d1, ?_⟩
  cases e1 : g d ρ h1 with
  | some r => obtain ⟨ρ', h'⟩ := r; rw [e1] at q; exact q
  | none => rw [e1] at q; exact q.elim
theorem ds_asg {tg : Expr} {g : Gv} (he : DE X T W e me) (hg : DG X T tg g) (hs : swapsWithSole [tg] e pos.line X.env = pure false := by rfl) (hw : swappedStores [tg] e X.env = pure none := by rfl)
    (h1 : (assignEach [tg] X.env).map (·.2) = [assign tg X.env] := by rfl) : DS X T W (.Assign [tg] e pos) (sAsg me g) := ⟨PS.imp (ps_asg he.p hg.p hs hw h1) fun E σ H k => asg_red k⟩
theorem ds_set {i : Nat} {x : Str} {pos' : Pos} (hN : X.N.Nodup) (hi : X.N[i]? = some x) (hx : Loc X.env.scope x) (he : DE X T W e me) (hs : swapsWith e (some (.Name x pos')) pos.line X.env = pure false := by rfl) (hf : X.fn x = true ∨ X.env.scope.names.lookup x = some .local := by first | exact .inl rfl | exact .inr rfl | assumption) :
    DS X T W (.Assign [.Name x pos'] e pos) (sAsg me (gNm i)) := ⟨PS.imp (ps_set hN hi hx he.p hs hf) fun E σ H k => by
  obtain ⟨G, ρ, h, re, rh, p⟩ := k
  exact e_red re rh p fun d h1 G1 H1 v l1 r1 d1 q => q G1 H1 _ (.refl _) ((re.mono l1).set i d1) r1⟩
/-- a, b = x, y of plain local names -/
def sPar (i j : Nat) (ma : Av) : Sv := fun ρ h => (ma ρ h).st ρ fun ds h1 => match ds with
  | [x, y] => .nx ((ρ.set i (some x)).set j (some y)) h1
  | _ => .er
theorem ds_par {i j : Nat} {x y : Str} {a b : Expr} {ma : Av} {px py pt : Pos} {kt k2 pt2} (hc : X.calm = true) (hN : X.N.Nodup) (hi : X.N[i]? = some x) (hj : X.N[j]? = some y) (hij : i ≠ j)
    (hx : X.env.scope.names.lookup x = some .local) (hy : X.env.scope.names.lookup y = some .local) (ha : DA X T W [a, b] ma)
    (hw : swappedStores [.Tuple [.Name x px, .Name y py] kt pt] (.Tuple [a, b] k2 pt2) X.env = pure (some [x, y]) := by rfl)
    (hs : swapsWithSole [.Tuple [.Name x px, .Name y py] kt pt] (.Tuple [a, b] k2 pt2) pos.line X.env = pure false := by rfl) :
    DS X T W (.Assign [.Tuple [.Name x px, .Name y py] kt pt] (.Tuple [a, b] k2 pt2) pos) (sPar i j ma) := ⟨PS.imp (ps_par hc hN hi hj hij hx hy ha.p hw hs) fun E σ H ⟨G, ρ, h, re, rh, p⟩ => by
  refine ⟨G, ρ, h, re, rh, ?_⟩
  unfold sPar at p
  cases e1 : ma ρ h with
  | ok ds h1 =>
    rw [e1] at p
    intro G1 H1 v l1 r1 d1
    cases d1 with
    | nil => exact p.elim
    | cons q t => cases t with
      | nil => exact p.elim
      | cons q2 t2 => cases t2 with
        | nil => exact ⟨_, _, rfl, p G1 H1 _ l1 (((re.mono l1).set i q).set j q2) r1⟩
        | cons _ _ => exact p.elim
  | exc c h1 => rw [e1] at p; exact fun G1 H1 l1 r1 => p G1 H1 σ l1 (re.mono l1) r1
  | err => rw [e1] at p; exact p⟩
/-- x op= e -/
def sAug (f : D → D → Option D) (i : Nat) (me : Ev) : Sv := fun ρ h => match ρ[i]? with
  | some (some x) => (me ρ h).st ρ fun y h1 => match f x y with
    | some z => .nx (ρ.set i (some z)) h1
    | none => .er
  | _ => .er
theorem ds_aug {i : Nat} {x : Str} {op : Operator} {f : D → D → Option D} {pos' : Pos} (hN : X.N.Nodup) (hi : X.N[i]? = some x) (hx : Loc X.env.scope x) (he : DE X T W e me) (ho : OpD X T (inplaceOp op) f) (hf : X.fn x = true ∨ X.env.scope.names.lookup x = some .local := by first | exact .inl rfl | exact .inr rfl | assumption) :
    DS X T W (.AugAssign (.Name x pos') op e pos) (sAug f i me) := ⟨PS.imp (ps_aug hN hi hx he.p (ti := rOp X.K T f) (fun pins s σ H x y v u Q I rx ry q => ho pins s σ H x y v u Q I rx ry q) hf) fun E σ H ⟨G, ρ, h, re, rh, p⟩ => by
  unfold sAug at p
  split at p
  · rename_i d e1
    obtain ⟨v, h1, h2⟩ := re.get i d e1
    refine ⟨v, h1, e_red re rh p fun y h1 G1 H1 w l1 r1 d1 q => ?_⟩
    cases e2 : f d y with
    | some z => rw [e2] at q; exact ⟨G1, h1, d, y, z, r1, h2.mono l1, d1, e2, fun G2 H2 zz l2 r2 d2 => q G2 H2 _ l2 (((re.mono l1).mono l2).set i d2) r2⟩
    | none => rw [e2] at q; exact q.elim
  · exact p.elim⟩
/-! ### while -/
/-- the end of a turn; n: how many turns are left -/
def sWh (t : Bv) (m : Sv) : Nat → Sv
  | 0 => fun ρ h => .er
  | n + 1 => fun ρ h => (t ρ h).st ρ fun k h1 => if k = true then (match m ρ h1 with
      | .nx ρ' h' => sWh t m n ρ' h'
      | .ct ρ' h' => sWh t m n ρ' h'
      | .bk ρ' h' => .nx ρ' h'
      | .rt d h' => .rt d h'
      | .ex c ρ' h' => .ex c ρ' h'
      | .er => .er) else .nx ρ h1
theorem ds_while {c : Expr} {body : List Stmt} (N : Nat) (hp : PassesOwn (model X.prog X.w) X.A X.env X.xe) (hc : DT X T W c mt) (hb : DB X T W body m) : DS X T W (.While c body [] pos) (sWh mt m N) :=
  ⟨PS.imp (ps_while hp hc.p hb.p) fun E σ H ⟨G, ρ, h, re, rh, p⟩ => by
    refine ⟨fun n σ H => ∃ G1 ρ h, G.le G1 ∧ RE X.K G1 ρ σ ∧ RH X.K T G1 h H ∧ PostS X.K T W G1 (sWh mt m n ρ h) E, ⟨N, G, ρ, h, .refl G, re, rh, p⟩, ?_⟩
    rintro n σ1 H1 ⟨G1, ρ1, h1, l1, re1, rh1, p1⟩
    cases n with
    | zero => exact p1.elim
    | succ n =>
      unfold sWh at p1
      refine t_red re1 rh1 p1 fun d h2 G2 H2 l2 rh2 q => ?_
      cases d with
      | true =>
        rw [if_pos rfl] at q ⊢
        refine ⟨fun σ' H' => ∃ G3 ρ h, G.le G3 ∧ RE X.K G3 ρ σ' ∧ RH X.K T G3 h H' ∧ PostS X.K T W G3 (sWh mt m n ρ h) E, fun σ' H' z => ⟨n, Nat.lt_succ_self _, z⟩, G2, ρ1, h2, re1.mono l2, rh2, ?_⟩
        cases e : m ρ1 h2 with
        | nx ρ' h' => rw [e] at q; exact fun G3 H3 σ3 l3 re3 rh3 => ⟨G3, ρ', h', (l1.trans l2).trans l3, re3, rh3, PostS.mono q l3⟩
        | ct ρ' h' => rw [e] at q; exact fun G3 H3 σ3 l3 re3 rh3 => ⟨G3, ρ', h', (l1.trans l2).trans l3, re3, rh3, PostS.mono q l3⟩
        | bk ρ' h' => rw [e] at q; exact q
        | rt d h' => rw [e] at q; exact q
        | ex c ρ' h' => rw [e] at q; exact q
        | er => rw [e] at q; exact q
      | false =>
        rw [if_neg Bool.false_ne_true] at q ⊢
        exact q G2 H2 σ1 (.refl _) (re1.mono l2) rh2⟩
/-! ### what is walked -/
/-- the items; the object that must stay as it is -/
structure Itm where
  ds : List D
  g : Option Nat := none
def Itm.still (i : Itm) (h : LH) : Prop := ∀ n, i.g = some n → h[n]? = some (.lst i.ds)
def JOk (K : PySem.W.Frag) (T : Tb) (G0 : Gh) (J : It) (t : Itm) : Prop := ∀ G h H, G0.lw G → RH K T G h H → t.still h → ∀ i : Nat,
  (∀ d, t.ds[i]? = some d → J.go i H ∧ ∀ x H', J.yld i H x H' → ∃ G', G.le G' ∧ RH K T G' h H' ∧ RD K G' d x) ∧ (t.ds.length ≤ i → J.stop i H)
theorem JOk.mono {K : PySem.W.Frag} {T : Tb} {G0 G1 : Gh} {J : It} {t : Itm} (j : JOk K T G0 J t) (l : G0.le G1) : JOk K T G1 J t := fun G h H l2 => j G h H (l.w.trans l2)
abbrev Iv := En → LH → Res Itm
def PostI (K : PySem.W.Frag) (T : Tb) (W : WX) (σ : L2.St) (G : Gh) (r : Res Itm) (R : It → Hp → Prop) : Prop := match r with
  | .ok t h' => ∀ G' H' J, G.le G' → RH K T G' h' H' → JOk K T G' J t → R J H'
  | .exc c h' => ∀ G' H', G.le G' → RH K T G' h' H' → W (.ref (He.ga K c)) none σ H'
  | .err => False
def tI (K : PySem.W.Frag) (T : Tb) (W : WX) (m : Iv) : TI := fun σ H R => ∃ G ρ h, RE K G ρ σ ∧ RH K T G h H ∧ PostI K T W σ G (m ρ h) R
structure DI (X : Cx) (T : Tb) (W : WX) (tg e : Expr) (m : Iv) : Prop where
  p : PI X tg e (tI X.K T W m)
theorem PI.imp {tg e : Expr} {t t' : TI} (h : PI X tg e t) (i : ∀ σ H Q, t' σ H Q → t σ H Q) : PI X tg e t' := ⟨fun pins s σ H Q I q => h.run pins s σ H Q I (i _ _ _ q)⟩
theorem PI.or {tg e : Expr} {t t' : TI} (h : PI X tg e t) (h' : PI X tg e t') : PI X tg e (fun σ H R => t σ H R ∨ t' σ H R) := ⟨fun pins s σ H Q I q => q.elim (h.run pins s σ H Q I) (h'.run pins s σ H Q I)⟩
/-- a for's turns: the items that are left -/
def sFor (g : Gv) (m : Sv) : List D → Sv
  | [] => fun ρ h => .nx ρ h
  | d :: r => fun ρ h => match g d ρ h with
    | some (ρ1, h1) => (match m ρ1 h1 with
      | .nx ρ' h' => sFor g m r ρ' h'
      | .ct ρ' h' => sFor g m r ρ' h'
      | .bk ρ' h' => .nx ρ' h'
      | .rt d h' => .rt d h'
      | .ex c ρ' h' => .ex c ρ' h'
      | .er => .er)
    | none => .er
def sForI (mi : Iv) (g : Gv) (m : Sv) : Sv := fun ρ h => (mi ρ h).st ρ fun t h1 => match t.g with
  | none => sFor g m t.ds ρ h1
  | some _ => .er
theorem ds_for {tg iter : Expr} {body : List Stmt} {mi : Iv} {g : Gv} (hp : PassesOwn (model X.prog X.w) X.A X.env X.xe) (hc : X.calm = true) (hi : DI X T W tg iter mi) (hg : DG X T tg g) (hb : DB X T W body m)
    (hs : ∀ x, foldedSetIterable iter X.env x = pure x := by intro _; rfl) : DS X T W (.For tg iter body [] pos) (sForI mi g m) :=
  ⟨PS.imp (ps_for hp hc hi.p hg.p hb.p hs) fun E σ H ⟨G, ρ, h, re, rh, p⟩ => by
    unfold sForI at p
    refine ⟨G, ρ, h, re, rh, ?_⟩
    cases e0 : mi ρ h with
    | exc c h1 => rw [e0] at p; exact fun G1 H1 l1 r1 => p G1 H1 σ l1 (re.mono l1) r1
    | err => rw [e0] at p; exact p
    | ok t h1 =>
      rw [e0] at p
      intro G1 H1 J l1 rh1 jk
      obtain ⟨ds, gg⟩ := t
      cases gg with
      | some n => exact p.elim
      | none =>
        have p : PostS X.K T W G (sFor g m ds ρ h1) E := p
        refine ⟨fun i n σ H => ∃ G2 ρ h, G1.le G2 ∧ RE X.K G2 ρ σ ∧ RH X.K T G2 h H ∧ n = ds.length - i ∧ i ≤ ds.length ∧ PostS X.K T W G2 (sFor g m (ds.drop i) ρ h) E, ⟨_, G1, ρ, h1, .refl _, re.mono l1, rh1, rfl, Nat.zero_le _, PostS.mono p l1⟩, ?_⟩
        rintro i n σ2 H2 ⟨G2, ρ2, h2, l2, re2, rh2, rfl, hi, p2⟩
        obtain ⟨j1, j2⟩ := jk G2 h2 H2 l2.w rh2 (fun n e => nomatch e) i
        by_cases hlt : i < ds.length
        · obtain ⟨go, yl⟩ := j1 ds[i] (List.getElem?_eq_getElem hlt)
          refine .inr ⟨go, fun σ' H' => ∃ G3 ρ h, G1.le G3 ∧ RE X.K G3 ρ σ' ∧ RH X.K T G3 h H' ∧ PostS X.K T W G3 (sFor g m (ds.drop (i + 1)) ρ h) E, fun σ' H' ⟨G3, ρ3, h3, l3, re3, rh3, p3⟩ => ⟨ds.length - (i + 1), by omega, G3, ρ3, h3, l3, re3, rh3, rfl, hlt, p3⟩, fun x H' y => ?_⟩
          obtain ⟨G3, l3, rh3, rd3⟩ := yl x H' y
          refine ⟨G3, ρ2, h2, ds[i], re2.mono l3, rh3, rd3, ?_⟩
          rw [List.drop_eq_getElem_cons hlt] at p2
          unfold sFor at p2
          cases e1 : g ds[i] ρ2 h2 with
          | none => rw [e1] at p2; exact p2.elim
          | some q =>
            obtain ⟨ρ4, h4⟩ := q
            rw [e1] at p2
            intro G4 H4 σ4 l4 re4 rh4
            refine ⟨G4, ρ4, h4, re4, rh4, ?_⟩
            have p2 : PostS X.K T W G2 (match m ρ4 h4 with
              | .nx ρ' h' => sFor g m (ds.drop (i + 1)) ρ' h'
              | .ct ρ' h' => sFor g m (ds.drop (i + 1)) ρ' h'
              | .bk ρ' h' => .nx ρ' h'
              | .rt d h' => .rt d h'
              | .ex c ρ' h' => .ex c ρ' h'
              | .er => .er) E := p2
            cases e : m ρ4 h4 with
            | nx ρ' h' => rw [e] at p2; exact fun G5 H5 σ5 l5 re5 rh5 => ⟨G5, ρ', h', l2.trans (l3.trans (l4.trans l5)), re5, rh5, PostS.mono p2 (l3.trans (l4.trans l5))⟩
            | ct ρ' h' => rw [e] at p2; exact fun G5 H5 σ5 l5 re5 rh5 => ⟨G5, ρ', h', l2.trans (l3.trans (l4.trans l5)), re5, rh5, PostS.mono p2 (l3.trans (l4.trans l5))⟩
            | bk ρ' h' => rw [e] at p2; exact PostS.mono (r := .nx ρ' h') p2 (l3.trans l4)
            | rt d h' => rw [e] at p2; exact PostS.mono (r := .rt d h') p2 (l3.trans l4)
            | ex c ρ' h' => rw [e] at p2; exact PostS.mono (r := .ex c ρ' h') p2 (l3.trans l4)
            | er => rw [e] at p2; exact p2
        · have ei : i = ds.length := by omega
          subst ei
          rw [List.drop_length] at p2
          exact .inl ⟨j2 (Nat.le_refl _), p2 G2 H2 σ2 (.refl _) re2 rh2⟩⟩
end
end Sh

set_option Elab.async false
set_option linter.all false
set_option maxRecDepth 100000
set_option maxHeartbeats 4000000
/-! Sh3: defs and their calls, raise, displays, subscripts, slices, methods of built-in types. -/
namespace Sh
open PySem PySem.Spec PyProof.Rows L2

/-- what is wanted behind a call -/
def PostF (K : PySem.W.Frag) (T : Tb) (G : Gh) (r : Res D) (Q : VK) (E : XK) : Prop := match r with
  | .ok d h' => ∀ G' H' v, G.le G' → RH K T G' h' H' → RD K G' d v → Q v H'
  | .exc c h' => ∀ G' H', G.le G' → RH K T G' h' H' → E (.ref (He.ga K c)) none H'
  | .err => False
abbrev Fv := List D → LH → Res D
/-- the promise: the mirror f, n parameters -/
def spD (K : PySem.W.Frag) (T : Tb) (n : Nat) (f : Fv) : Sp := fun vs H Q E => vs.length = n ∧ ∃ G h ds, RH K T G h H ∧ RDs K G ds vs ∧ PostF K T G (f ds h) Q E
/-- a function of the module, called by its name: its mirror f -/
structure Cal (P : Program) (w : World) (K : PySem.W.Frag) (mg : Str → Option Value) (base : Heap) (T : Tb) (k : Nat) (x : Str) (f : Fv) : Prop where
  ex : ∃ a fd ps ds dvs sp, mg x = some (.ref a) ∧ PySem.W.keepIn K (.ref a) = true ∧ FnOk P w K mg base (L2.CX P w) k a fd ps sp ∧ Binds K fd ps ds ∧ Vals dvs ds ∧
    ∀ vs H Q E, (∃ G h ds, RH K T G h H ∧ RDs K G ds vs ∧ PostF K T G (f ds h) Q E) → sp (vs ++ dvs) H Q E
theorem Cal.mono {P : Program} {w : World} {K : PySem.W.Frag} {mg : Str → Option Value} {base : Heap} {T : Tb} {j k : Nat} {x : Str} {f : Fv} (c : Cal P w K mg base T j x f) (h : j ≤ k) : Cal P w K mg base T k x f := by
  obtain ⟨a, fd, ps, ds, dvs, sp, h1, h2, h3, r⟩ := c.ex
  exact ⟨⟨a, fd, ps, ds, dvs, sp, h1, h2, h3.mono h, r⟩⟩
section
variable {X : Cx} {T : Tb} {W : WX} {pos p : Pos} {e : Expr} {es : List Expr} {me : Ev} {mas : Av} {x : Str} {f : Fv} {j k : Nat}
/-- a def runs, the slots σ stand -/
theorem run_cal {pins : List (Addr × Obj)} {σ : L2.St} {H : Hp} {s : Shared} {Q : VK} {us : List Value} {vs : List V} {a : Addr} {fd : FuncData} {ps : List Str} {ds : List Value} {dvs : List V} {sp : Sp}
    (F : FnOk X.prog X.w X.K X.mg X.base (L2.CX X.prog X.w) k a fd ps sp) (hr : Room k X.A) (hb : Binds X.K fd ps ds) (hd : Vals dvs ds) (tk : Takes X W) (I : Inv X pins σ H s) (r : Vals vs us) (h : sp (vs ++ dvs) H Q (WE W σ)) :
    wpAny (model X.prog X.w) X.A (call (.ref a) us) (EP X pins σ Q) X.xe s := by
  have r2 : Vals (vs ++ dvs) (us ++ ds) := r.append hd
  have hl : (us ++ ds).length = ps.length := by rw [← r2.length]; exact F.len _ _ _ _ h
  refine wpAny_call (codeAny_mono (F.run X.A X.stack s H ⟨us, []⟩ (us ++ ds) (vs ++ dvs) Q (WE W σ) hr I.env0 (hb s us I.kIn hl) r2 h) fun r s' hq => ?_)
  cases r with
  | error e => exact passAt tk σ pins H s e s' I hq
  | ok fl =>
    cases fl with
    | ret u => exact I.after hq
    | next => exact False.elim hq
    | brk => exact False.elim hq
    | cont => exact False.elim hq
theorem postF_of {σ : L2.St} {vs : List V} {H : Hp} {Q : VK} (q : rFn X.K T σ W f vs H Q) : ∃ G h ds, RH X.K T G h H ∧ RDs X.K G ds vs ∧ PostF X.K T G (f ds h) Q (WE W σ) := by
  obtain ⟨G, h, ds, rh, rd, p⟩ := q
  refine ⟨G, h, ds, rh, rd, ?_⟩
  cases e : f ds h with
  | ok d h' => rw [e] at p; exact p
  | exc c h' => rw [e] at p; exact p
  | err => rw [e] at p; exact p
theorem de_call (c : Cal X.prog X.w X.K X.mg X.base T k x f) (hr : Room j X.A) (hk : k ≤ j) (hg : Gl X x) (tk : Takes X W) (ha : DA X T W (e :: es) mas) (hdb : (x == ("__debug__" : Str)) = false := by decide)
    (he : starEach (e :: es) X.env = (false, eval e X.env) :: starEach es X.env := by rfl) (hpl : (backTo pos (starEach es X.env)).any (·.1) = false := by rfl) : DE X T W (.Call (.Name x p) (e :: es) [] pos) (eCall f mas) := by
  obtain ⟨a, fd, ps, ds, dvs, sp, hm, hkp, F, hb, hd, hsp⟩ := c.ex
  refine ⟨⟨fun pins s σ H Q I h => ?_⟩⟩
  refine wpAny_Call_Name_kw (ld_glob I hg hm ?_ hdb)
  refine PySem.W.callWith_K (h₀ := X.base) I.ok.mod.kin hkp (thn (ha.p.run pos pins s σ H _ I (call_red h)) fun us s1 ⟨vs, H1, I1, r, q⟩ => ⟨I1.kIn, ?_⟩) he hpl
  exact run_cal F (hr.mono hk) hb hd tk I1 r (hsp _ _ _ _ (postF_of q))
theorem de_call0 (c : Cal X.prog X.w X.K X.mg X.base T k x f) (hr : Room j X.A) (hk : k ≤ j) (hg : Gl X x) (tk : Takes X W) (hdb : (x == ("__debug__" : Str)) = false := by decide) : DE X T W (.Call (.Name x p) [] [] pos) (eCall f aNil) := by
  obtain ⟨a, fd, ps, ds, dvs, sp, hm, hkp, F, hb, hd, hsp⟩ := c.ex
  refine ⟨⟨fun pins s σ H Q I h => ?_⟩⟩
  refine wpAny_Call_Name_kw (ld_glob I hg hm ?_ hdb)
  obtain ⟨G, ρ, hh, re, rh, q⟩ := h
  have q2 : rFn X.K T σ W f [] H Q := ⟨G, hh, [], rh, .nil, q⟩
  exact PySem.W.callWith_K0 I.kIn hkp (run_cal (us := []) F (hr.mono hk) hb hd tk I .nil (hsp _ _ _ _ (postF_of q2)))
/-- a def's mirror: the body m over n names, the first of them the parameters -/
def fn (n : Nat) (m : Sv) : Fv := fun ds h => match m (ds.map some ++ List.replicate (n - ds.length) none) h with
  | .nx _ h' => .ok .non h'
  | .rt d h' => .ok d h'
  | .ex c _ h' => .exc c h'
  | _ => .err
/-- THE RULE: a def's promise by its body -/
theorem fn_ok {P : Program} {w : World} {K : PySem.W.Frag} {mg : Str → Option Value} {base : Heap} {T : Tb} {nm qual : Str} {params : Arguments} {body : List Stmt} {scope : Scope} {dvs : List V} {kws : List (Str × V)} {f : Addr} {fd : FuncData} {N ps : List Str} {k : Nat} {m : Sv}
    (F : FunD K nm qual params body scope dvs kws f fd) (S : FnScope N ps scope)
    (hb : ∀ (cdv : Value) (A : Around) (outer : List Env) (s : Shared) (H : Hp) (E : XK), Room k (A.deeper (envOfC qual scope s.heap.objs.size f cdv)) → DB (cxOf (L2.CX P w) P w K mg base N qual scope f cdv A outer s H E) T (fun cls d _ H => E cls d H) body m) :
    FnOk P w K mg base (L2.CX P w) (k + 1) f fd ps (spD K T ps.length (fn N.length m)) := by
  refine F.ok S (fun vs H Q E h => h.1) (fun cdv A outer s H vs Q E hr h => ?_)
  obtain ⟨hl, G, h, ds, rh, rd, p⟩ := h
  refine ⟨_, (hb cdv A outer s H E hr).p, G, ds.map some ++ List.replicate (N.length - ds.length) none, h, ⟨?_, fun i d e => ?_⟩, rh, ?_⟩
  · unfold L2.start
    rw [List.length_append, List.length_append, List.length_map, List.length_map, List.length_replicate, List.length_replicate, rd.length]
  · have hi : i < ds.length := by
      by_cases hi : i < ds.length
      · exact hi
      · rw [List.getElem?_append_right (by simpa using hi), List.getElem?_replicate] at e
        split at e <;> cases e
    rw [List.getElem?_append_left (by simpa using hi), List.getElem?_map] at e
    cases e1 : ds[i]? with
    | none => rw [e1] at e; cases e
    | some d' =>
      rw [e1] at e; cases e
      obtain ⟨v, h1, h2⟩ := rd.get e1
      refine ⟨v, ?_, h2⟩
      unfold L2.start
      rw [List.getElem?_append_left (by rw [List.length_map, ← rd.length]; exact hi), List.getElem?_map, h1]; rfl
  · unfold fn at p
    cases e : m (ds.map some ++ List.replicate (N.length - ds.length) none) h with
    | nx ρ' h' => rw [e] at p; exact fun G1 H1 σ1 l1 re1 rh1 => p G1 H1 _ l1 rh1 .non
    | rt d h' => rw [e] at p; exact p
    | bk ρ' h' => rw [e] at p; exact p.elim
    | ct ρ' h' => rw [e] at p; exact p.elim
    | ex c ρ' h' => rw [e] at p; exact fun G1 H1 σ1 l1 re1 rh1 => p G1 H1 l1 rh1
    | er => rw [e] at p; exact p.elim
/-- what a body may lean on about exceptions -/
theorem takes_cx {CX : CXT} {P : Program} {w : World} {K : PySem.W.Frag} {mg : Str → Option Value} {base : Heap} {N : List Str} {qual : Str} {scope : Scope} {f : Addr} {cd : Value} {A : Around} {outer : List Env} {s : Shared} {H : Hp} {E : XK} :
    Takes (cxOf (L2.CX P w) P w K mg base N qual scope f cd A outer s H E) (fun cls d _ H => E cls d H) := takes_of rfl rfl rfl rfl
theorem owns_cx {P : Program} {w : World} {K : PySem.W.Frag} {mg : Str → Option Value} {base : Heap} {N : List Str} {qual : Str} {scope : Scope} {f : Addr} {cd : Value} {A : Around} {outer : List Env} {s : Shared} {H : Hp} {E : XK} :
    PassesOwn (model (cxOf (L2.CX P w) P w K mg base N qual scope f cd A outer s H E).prog (cxOf (L2.CX P w) P w K mg base N qual scope f cd A outer s H E).w) (cxOf (L2.CX P w) P w K mg base N qual scope f cd A outer s H E).A (cxOf (L2.CX P w) P w K mg base N qual scope f cd A outer s H E).env (cxOf (L2.CX P w) P w K mg base N qual scope f cd A outer s H E).xe :=
  passes_of (X := cxOf (L2.CX P w) P w K mg base N qual scope f cd A outer s H E) rfl
/-- a def's call with all its parameters written -/
theorem cal_of {P : Program} {w : World} {K : PySem.W.Frag} {mg : Str → Option Value} {base : Heap} {T : Tb} {x : Str} {a : Addr} {fd : FuncData} {ps : List Str} {k : Nat} {f : Fv} (hm : mg x = some (.ref a)) (hk : PySem.W.keepIn K (.ref a) = true)
    (F : FnOk P w K mg base (L2.CX P w) k a fd ps (spD K T ps.length f)) (hb : Binds K fd ps []) : Cal P w K mg base T k x (fun ds h => if ds.length = ps.length then f ds h else .err) :=
  ⟨⟨a, fd, ps, [], [], _, hm, hk, F, hb, .nil, fun vs H Q E ⟨G, h, ds, rh, rd, p⟩ => by
    rw [List.append_nil]
    split at p
    · rename_i hl
      exact ⟨by rw [← rd.length]; exact hl, G, h, ds, rh, rd, p⟩
    · exact p.elim⟩⟩
/-- .. with the defaults that fill up -/
theorem cal_dfl {P : Program} {w : World} {K : PySem.W.Frag} {mg : Str → Option Value} {base : Heap} {T : Tb} {x : Str} {a : Addr} {fd : FuncData} {ps : List Str} {k : Nat} {f : Fv} {dvs : List V} {dds : List D} (hm : mg x = some (.ref a)) (hk : PySem.W.keepIn K (.ref a) = true)
    (F : FnOk P w K mg base (L2.CX P w) k a fd ps (spD K T ps.length f)) (hb : ∃ ds, Vals dvs ds ∧ Binds K fd ps ds) (hd : ∀ G, RDs K G dds dvs) : Cal P w K mg base T k x (fun ds h => if ds.length + dds.length = ps.length then f (ds ++ dds) h else .err) := by
  obtain ⟨us, hv, hb⟩ := hb
  exact ⟨⟨a, fd, ps, us, dvs, _, hm, hk, F, hb, hv, fun vs H Q E ⟨G, h, ds, rh, rd, p⟩ => by
    split at p
    · rename_i hl
      exact ⟨by rw [List.length_append, ← rd.length, ← (hd G).length]; exact hl, G, h, ds ++ dds, rh, rd.append (hd G), p⟩
    · exact p.elim⟩⟩
/-! ### raise -/
/-- a class of the text's own that is raised -/
structure Exn (X : Cx) (c : Str) : Prop where
  g : X.mg c = some (.ref (He.ga X.K c))
  x : PySem.W.excIn X.K (He.ga X.K c) He.veBase "ValueError.__new__" = true
  k : PySem.W.keepIn X.K (.ref (He.ga X.K c)) = true
  b : PySem.W.subIn X.K (.ref (He.ga X.K c)) (.type "BaseException") = some true
  t : PySem.W.typeIn X.K (.ref (He.ga X.K c)) = some (.type "type")
def sRaise (c : Str) : Sv := fun ρ h => .ex c ρ h
theorem ds_raise {c m : Str} {i : Nat} {p2 p3 : Pos} (hc : X.calm = true) (tk : Takes X W) (hx : Exn X c) (hg : Gl X c) (hdb : (c == ("__debug__" : Str)) = false := by decide) :
    DS X T W (.Raise (some (.Call (.Name c p) [.Constant (.str m) i p2] [] p3)) none pos) (sRaise c) :=
  ⟨PS.imp (ps_raise hc tk (pmk_own PySem.F.excBase_ValueError hx.x hx.g hx.k (raises_own hx.b hx.t) hg hdb)) fun E σ H ⟨G, ρ, h, re, rh, p⟩ => p G H σ (.refl G) re rh⟩
end
end Sh

set_option Elab.async false
set_option linter.all false
set_option maxRecDepth 100000
set_option maxHeartbeats 4000000
/-! Sh4: the operators upon data. -/
namespace Sh
open PySem PySem.Spec PyProof.Rows L2

theorem S_len (l : List Nat) : (S l).length = l.length := by simp [S, Str.length]
theorem S_toList (l : List Nat) : (S l).cps.toList = l := by simp [S]
theorem S_inj {a b : List Nat} (h : S a = S b) : a = b := congrArg (fun x : Str => x.cps.toList) h
theorem S_ext {x : Str} {a : List Nat} (h : x.cps.toList = a) : x = S a := by
  obtain ⟨c⟩ := x
  have h : c.toList = a := h
  subst h
  rfl
theorem S_app (a b : List Nat) : S a ++ S b = S (a ++ b) := S_ext (TL.tl_append (S a) (S b))
theorem S_beq (a b : List Nat) : (S a == S b) = (a == b) := (PyProof.Rows.toList_beq (S a) (S b)).symm

/-! ### + - * // % ** -/
def fits (n : Nat) : Bool := decide (n ≤ 16777216)
theorem fits_ok {n : Nat} (h : fits n = true) : n ≤ sizeLine := by rw [sizeLine_eq]; exact of_decide_eq_true h
def dAdd : D → D → Option D
  | .int i, .int j => some (.int (i + j))
  | .str a, .str b => if fits (a.length + b.length) then some (.str (a ++ b)) else none
  | .lst xs, .lst ys => if fits (xs.length + ys.length) then some (.lst (xs ++ ys)) else none
  | .tup xs, .tup ys => if fits (xs.length + ys.length) && !xs.isEmpty && !ys.isEmpty then some (.tup (xs ++ ys)) else none
  | _, _ => none
def dSub : D → D → Option D
  | .int i, .int j => some (.int (i - j))
  | _, _ => none
/-- a product that the machine's line lets through -/
def mulOk (i j : Int) : Bool := decide (i.natAbs < 2 ^ 64) || decide (j.natAbs < 2 ^ 64) || decide (i.natAbs.log2 + j.natAbs.log2 < 1000000)
def dMul : D → D → Option D
  | .int i, .int j => if mulOk i j then some (.int (i * j)) else none
  | .str a, .int k => if decide (-(2 ^ 63) ≤ k) && decide (k < 2 ^ 63) && fits (a.length * k.toNat) then some (.str (List.replicate k.toNat a).flatten) else none
  | .lst a, .int k => if decide (-(2 ^ 63) ≤ k) && decide (k < 2 ^ 63) && fits (a.length * k.toNat) then some (.lst (List.replicate k.toNat a).flatten) else none
  | _, _ => none
def dDiv : D → D → Option D
  | .int i, .int j => if decide (0 < j) && decide (j.natAbs.log2 < 9000) then some (.int (i / j)) else none
  | _, _ => none
def dMod : D → D → Option D
  | .int i, .int j => if 0 < j then some (.int (i % j)) else none
  | _, _ => none
def dPow : D → D → Option D
  | .int i, .int j => if decide (0 ≤ j) && decide (j ≤ 1000000) && decide (i.natAbs < 2 ^ 64) then some (.int (i ^ j.toNat)) else none
  | _, _ => none
section
variable {X : Cx} {T : Tb}
/-- a scalar result -/
theorem fin_at {G : Gh} {h : LH} {H : Hp} {Q : VK} {d : D} (k : ∀ G' H' z, G.le G' → RH X.K T G' h H' → RD X.K G' d z → Q z H') (rh : RH X.K T G h H) {z : V} (r : RD X.K G d z) : Q z H := k G H z (.refl G) rh r
theorem fin_lst {G : Gh} {h : LH} {H : Hp} {Q : VK} {xs : List D} {vs : List V} (k : ∀ G' H' z, G.le G' → RH X.K T G' h H' → RD X.K G' (.lst xs) z → Q z H') (rh : RH X.K T G h H) (r : RDs X.K G xs vs) : ∀ p, H p = none → Q (.ref p) (upd H p (.lst vs)) := fun p hp =>
  have l := Gh.put_le (o := .lst vs) (rh.notF hp)
  k (G.put p (.lst vs)) _ _ l (rh.new hp _) (.lst (by show upd G.F p _ p = _; rw [upd_same]) (r.mono l))
theorem fin_tup {G : Gh} {h : LH} {H : Hp} {Q : VK} {xs : List D} {vs : List V} (k : ∀ G' H' z, G.le G' → RH X.K T G' h H' → RD X.K G' (.tup xs) z → Q z H') (rh : RH X.K T G h H) (r : RDs X.K G xs vs) : ∀ p, H p = none → Q (.ref p) (upd H p (.tup vs)) := fun p hp =>
  have l := Gh.put_le (o := .tup vs) (rh.notF hp)
  k (G.put p (.tup vs)) _ _ l (rh.new hp _) (.tup (SqT.of (by show upd G.F p _ p = _; rw [upd_same])) (r.mono l))
theorem RDs.empty {K : PySem.W.Frag} {G : Gh} {xs : List D} {vs : List V} (r : RDs K G xs vs) : xs.isEmpty = vs.isEmpty := by cases r <;> rfl
theorem od_add : OpD X T (binaryOp .Add) dAdd := by
  intro pins s σ H x y v u Q I rx ry ⟨G, h, dx, dy, d, rh, r1, r2, e, k⟩
  unfold dAdd at e
  split at e
  · cases e
    cases r1; cases r2
    exact op_add pins s σ H _ _ v u Q I rx ry ⟨_, _, rfl, rfl, fin_at k rh (.int _)⟩
  · rename_i a b
    split at e
    · rename_i hf
      cases e
      cases r1; cases r2
      refine op_add_str pins s σ H _ _ v u Q I rx ry ⟨_, _, rfl, rfl, by rw [S_len, S_len]; exact fits_ok hf, ?_⟩
      rw [S_app]
      exact fin_at k rh (.str _)
    · cases e
  · rename_i xs ys
    split at e
    · rename_i hf
      cases e
      cases r1 with
      | lst e1 q1 =>
        cases r2 with
        | lst e2 q2 =>
          exact op_cat pins s σ H _ _ v u Q I rx ry ⟨_, _, _, _, rfl, rfl, rh.F _ _ e1, rh.F _ _ e2, by rw [← q1.length, ← q2.length]; exact fits_ok hf, fin_lst k rh (q1.append q2)⟩
    · cases e
  · rename_i xs ys
    split at e
    · rename_i hf
      cases e
      simp only [Bool.and_eq_true, Bool.not_eq_true'] at hf
      obtain ⟨⟨hf, n1⟩, n2⟩ := hf
      cases r1 with
      | tup e1 q1 =>
        cases r2 with
        | tup e2 q2 =>
          rw [q1.empty] at n1
          rw [q2.empty] at n2
          refine op_catT pins s σ H _ _ v u Q I rx ry ⟨_, _, _, _, rfl, rfl, SqT.mono e1 rh.F, SqT.mono e2 rh.F, ?_, by rw [← q1.length, ← q2.length]; exact fits_ok hf, ?_, fun _ => fin_tup k rh (q1.append q2)⟩
          · intro z; rw [z] at n1; cases n1
          · intro z; rw [z] at n2; cases n2
    · cases e
  · cases e
theorem od_sub : OpD X T (binaryOp .Sub) dSub := by
  intro pins s σ H x y v u Q I rx ry ⟨G, h, dx, dy, d, rh, r1, r2, e, k⟩
  unfold dSub at e
  split at e
  · cases e
    cases r1; cases r2
    exact op_sub pins s σ H _ _ v u Q I rx ry ⟨_, _, rfl, rfl, fin_at k rh (.int _)⟩
  · cases e
theorem small_abs {i : Int} (h : i.natAbs < 2 ^ 64) : -(2 ^ 64) < i ∧ i < 2 ^ 64 := by omega
theorem mul_any {i j : Int} (h : mulOk i j = true) : IntMulOk i j := by
  unfold mulOk at h
  simp only [Bool.or_eq_true, decide_eq_true_eq] at h
  rcases h with (h | h) | h
  · exact CMul.ok (.inl (small_abs h))
  · exact CMul.ok (.inr (small_abs h))
  · exact CMulW.ok h
theorem len_rep {α : Type} (a : List α) : ∀ n : Nat, (List.replicate n a).flatten.length = a.length * n
  | 0 => by simp
  | n + 1 => by rw [List.replicate_succ, List.flatten_cons, List.length_append, len_rep a n, Nat.mul_succ]; omega
theorem flat_repS (a : List Nat) : ∀ (n : Nat) (acc : List Nat), (List.replicate n a.toArray).foldl (· ++ ·) acc.toArray = (acc ++ (List.replicate n a).flatten).toArray
  | 0, acc => by simp
  | n + 1, acc => by
    rw [List.replicate_succ, List.foldl_cons, List.replicate_succ, List.flatten_cons, List.append_toArray, flat_repS a n (acc ++ a), List.append_assoc]
theorem od_mul : OpD X T (binaryOp .Mult) dMul := by
  intro pins s σ H x y v u Q I rx ry ⟨G, h, dx, dy, d, rh, r1, r2, e, k⟩
  unfold dMul at e
  split at e
  · split at e
    · rename_i i j hm
      cases e
      cases r1; cases r2
      obtain ⟨t, rfl⟩ := rx
      obtain ⟨t', rfl⟩ := ry
      exact mul_int ⟨.int _, H, I.tok _, ⟨_, rfl⟩, fin_at k rh (.int _)⟩ (mul_any hm)
    · cases e
  · rename_i a n
    split at e
    · rename_i hf
      cases e
      simp only [Bool.and_eq_true, decide_eq_true_eq] at hf
      obtain ⟨⟨h1, h2⟩, hf⟩ := hf
      cases r1; cases r2
      obtain ⟨t, rfl⟩ := rx
      obtain ⟨t', rfl⟩ := ry
      have hlen : (S a).length = a.length := S_len a
      have hfit : a.length * n.toNat ≤ 16777216 := of_decide_eq_true hf
      refine PySem.P.mul_str ?_ ?_ ?_ ?_
      · rw [decide_eq_false (by omega), decide_eq_false (by omega)]; rfl
      · intro h3 h4 h5
        rw [hlen] at h5
        have hn : 0 < n := by omega
        have h6 : (2 ^ 63 - 1 : Int) / n < a.length := h5
        have h7 := (Int.ediv_lt_iff_lt_mul hn).mp h6
        have h8 : (a.length : Int) * n = ((a.length * n.toNat : Nat) : Int) := by
          rw [Int.natCast_mul, Int.toNat_of_nonneg (by omega)]
        rw [h8] at h7
        omega
      · intro _ _
        rw [hlen]
        unfold Builtin.Str.tooLong
        rw [sizeLine_eq]
        exact decide_eq_false (by omega)
      · have fin : ∀ (z : Str) (w : Tok) (tk : Nat), z = S (List.replicate n.toNat a).flatten → EP X pins σ Q (.str z w) { s with toks := tk } := fun z w tk ez => by
          subst ez
          exact ⟨.str _, H, I.tok _, ⟨_, rfl⟩, fin_at k rh (.str _)⟩
        have eS : (⟨(List.replicate n.toNat (S a).cps).foldl (· ++ ·) #[]⟩ : Str) = S (List.replicate n.toNat a).flatten := by
          show (⟨(List.replicate n.toNat a.toArray).foldl (· ++ ·) ([] : List Nat).toArray⟩ : Str) = _
          rw [flat_repS, List.nil_append]
        have hsz : (S (List.replicate n.toNat a).flatten).length ≤ sizeLine := by
          rw [S_len, sizeLine_eq, len_rep]
          exact hfit
        split
        · rename_i h3
          have e0 : n.toNat = 0 := by omega
          refine ⟨by decide, fin _ _ _ ?_⟩
          rw [e0]; rfl
        · split
          · rename_i h3 h4
            simp only [Bool.or_eq_true, beq_iff_eq] at h4
            refine fin _ _ s.toks ?_
            rcases h4 with h4 | h4
            · subst h4; simp
            · rw [hlen] at h4
              have : a = [] := List.length_eq_zero_iff.mp h4
              subst this
              simp
          · rw [eS]
            exact ⟨hsz, fin _ _ _ rfl⟩
    · cases e
  · rename_i a n
    split at e
    · rename_i hf
      cases e
      simp only [Bool.and_eq_true, decide_eq_true_eq] at hf
      obtain ⟨⟨h1, h2⟩, hf⟩ := hf
      cases r2
      cases r1 with
      | lst e1 q1 =>
        refine op_rep pins s σ H _ _ v u Q I rx ry ⟨_, _, _, rfl, rfl, rh.F _ _ e1, h1, h2, by rw [← q1.length]; exact fits_ok hf, fin_lst k rh ?_⟩
        have rep : ∀ m : Nat, RDs X.K G (List.replicate m a).flatten (List.replicate m _).flatten := fun m => by
          induction m with
          | zero => exact .nil
          | succ m ih => rw [List.replicate_succ, List.replicate_succ, List.flatten_cons, List.flatten_cons]; exact q1.append ih
        exact rep _
    · cases e
  · cases e
theorem od_div : OpD X T (binaryOp .FloorDiv) dDiv := by
  intro pins s σ H x y v u Q I rx ry ⟨G, h, dx, dy, d, rh, r1, r2, e, k⟩
  unfold dDiv at e
  split at e
  · split at e
    · rename_i hf
      cases e
      simp only [Bool.and_eq_true, decide_eq_true_eq] at hf
      cases r1; cases r2
      exact op_fdivW pins s σ H _ _ v u Q I rx ry ⟨_, _, rfl, rfl, hf, fin_at k rh (.int _)⟩
    · cases e
  · cases e
theorem od_mod : OpD X T (binaryOp .Mod) dMod := by
  intro pins s σ H x y v u Q I rx ry ⟨G, h, dx, dy, d, rh, r1, r2, e, k⟩
  unfold dMod at e
  split at e
  · split at e
    · rename_i hf
      cases e
      cases r1; cases r2
      exact op_mod pins s σ H _ _ v u Q I rx ry ⟨_, _, rfl, rfl, hf, fin_at k rh (.int _)⟩
    · cases e
  · cases e
theorem od_pow : OpD X T (binaryOp .Pow) dPow := by
  intro pins s σ H x y v u Q I rx ry ⟨G, h, dx, dy, d, rh, r1, r2, e, k⟩
  unfold dPow at e
  split at e
  · split at e
    · rename_i hf
      cases e
      simp only [Bool.and_eq_true, decide_eq_true_eq] at hf
      cases r1; cases r2
      exact op_pow pins s σ H _ _ v u Q I rx ry ⟨_, _, rfl, rfl, ⟨hf.1.1, hf.1.2, hf.2⟩, fin_at k rh (.int _)⟩
    · cases e
  · cases e
/-! ### op= -/
theorem oi_add : OpD X T (inplaceOp .Add) (fun a b => match a, b with
    | .int i, .int j => some (.int (i + j))
    | .str a, .str b => if fits (a.length + b.length) then some (.str (a ++ b)) else none
    | _, _ => none) := by
  intro pins s σ H x y v u Q I rx ry ⟨G, h, dx, dy, d, rh, r1, r2, e, k⟩
  dsimp only at e
  split at e
  · cases e
    cases r1; cases r2
    exact iop_add pins s σ H _ _ v u Q I rx ry ⟨_, _, rfl, rfl, fin_at k rh (.int _)⟩
  · split at e
    · rename_i hf
      cases e
      cases r1; cases r2
      refine iop_add_str pins s σ H _ _ v u Q I rx ry ⟨_, _, rfl, rfl, by rw [S_len, S_len]; exact fits_ok hf, ?_⟩
      rw [S_app]
      exact fin_at k rh (.str _)
    · cases e
  · cases e
def dIAdd : D → D → Option D := fun a b => match a, b with
    | .int i, .int j => some (.int (i + j))
    | .str a, .str b => if fits (a.length + b.length) then some (.str (a ++ b)) else none
    | _, _ => none
theorem oi_addD : OpD X T (inplaceOp .Add) dIAdd := oi_add
theorem oi_sub : OpD X T (inplaceOp .Sub) dSub := by
  intro pins s σ H x y v u Q I rx ry ⟨G, h, dx, dy, d, rh, r1, r2, e, k⟩
  unfold dSub at e
  split at e
  · cases e
    cases r1; cases r2
    exact iop_sub pins s σ H _ _ v u Q I rx ry ⟨_, _, rfl, rfl, fin_at k rh (.int _)⟩
  · cases e
def dIMul : D → D → Option D
  | .int i, .int j => if mulOk i j then some (.int (i * j)) else none
  | _, _ => none
theorem oi_mul : OpD X T (inplaceOp .Mult) dIMul := by
  intro pins s σ H x y v u Q I rx ry ⟨G, h, dx, dy, d, rh, r1, r2, e, k⟩
  unfold dIMul at e
  split at e
  · split at e
    · rename_i hm
      cases e
      cases r1; cases r2
      obtain ⟨t, rfl⟩ := rx
      obtain ⟨t', rfl⟩ := ry
      exact imul_int ⟨.int _, H, I.tok _, ⟨_, rfl⟩, fin_at k rh (.int _)⟩ (mul_any hm)
    · cases e
  · cases e
theorem oi_div : OpD X T (inplaceOp .FloorDiv) dDiv := by
  intro pins s σ H x y v u Q I rx ry ⟨G, h, dx, dy, d, rh, r1, r2, e, k⟩
  unfold dDiv at e
  split at e
  · split at e
    · rename_i hf
      cases e
      simp only [Bool.and_eq_true, decide_eq_true_eq] at hf
      cases r1; cases r2
      exact iop_fdivW pins s σ H _ _ v u Q I rx ry ⟨_, _, rfl, rfl, hf, fin_at k rh (.int _)⟩
    · cases e
  · cases e
/-! ### -n -/
def eUn (f : D → Option D) (a : Ev) : Ev := fun ρ h => (a ρ h).bind fun x h1 => liftO h1 (f x)
def dNeg : D → Option D
  | .int i => some (.int (-i))
  | _ => none
theorem de_neg {W : WX} {a : Expr} {ma : Ev} {pos : Pos} (ha : DE X T W a ma) : DE X T W (.UnaryOp .USub a pos) (eUn dNeg ma) := ⟨PE.imp (pe_un un_neg ha.p) fun σ H Q ⟨G, ρ, h, re, rh, p⟩ => by
  refine ⟨G, ρ, h, re, rh, ?_⟩
  unfold eUn at p
  cases e1 : ma ρ h with
  | ok x h1 =>
    rw [e1] at p
    intro G1 H1 v l1 rh1 rd1
    cases rd1 with
    | int i => exact ⟨i, rfl, p G1 H1 _ l1 rh1 (.int _)⟩
    | _ => exact p.elim
  | exc c h1 => rw [e1] at p; exact p
  | err => rw [e1] at p; exact p⟩
end
end Sh

set_option Elab.async false
set_option linter.all false
set_option maxRecDepth 100000
set_option maxHeartbeats 4000000
/-! Sh5: comparisons, subscripts, slices, displays, calls of built-ins. -/
namespace Sh
open PySem PySem.Spec PyProof.Rows L2

/-! ### == and != -/
mutual
def toPy : D → Option PyData
  | .non => some .none
  | .bl b => some (.bool b)
  | .int i => some (.int i)
  | .str x => some (.str (S x))
  | .tup xs => (toPys xs).map .tuple
  | .lst xs => (toPys xs).map .list
  | .fls xs => (toPys xs).map .list
  | _ => none
def toPys : List D → Option (List PyData)
  | [] => some []
  | x :: xs => match toPy x, toPys xs with
    | some p, some ps => some (p :: ps)
    | _, _ => none
end
section
variable {K : PySem.W.Frag} {G : Gh} {H : Hp} (hF : ∀ a o, G.F a = some o → H a = some o)
include hF
mutual
theorem dp_of : ∀ {d : D} {v : V} {p : PyData}, RD K G d v → toPy d = some p → Dp K H v p
  | _, _, _, .non, e => by cases e; exact .non
  | _, _, _, .bl b, e => by cases e; exact .bl b
  | _, _, _, .int b, e => by cases e; exact .int b
  | _, _, _, .str b, e => by cases e; exact .str _
  | .tup xs, _, p, .tup q r, e => by
    unfold toPy at e
    cases e1 : toPys xs with
    | none => rw [e1] at e; cases e
    | some ps => rw [e1] at e; cases e; exact .tup (SqT.mono q hF) (dps_of r e1)
  | .lst xs, _, p, .lst q r, e => by
    unfold toPy at e
    cases e1 : toPys xs with
    | none => rw [e1] at e; cases e
    | some ps => rw [e1] at e; cases e; exact .lst (SqL.of (hF _ _ q)) (dps_of r e1)
  | .fls xs, _, p, .fls q r, e => by
    unfold toPy at e
    cases e1 : toPys xs with
    | none => rw [e1] at e; cases e
    | some ps => rw [e1] at e; cases e; exact .lst (SqL.mono q hF) (dps_of r e1)
  | _, _, _, .dic _ _, e => by cases e
  | _, _, _, .obj _, e => by cases e
theorem dps_of : ∀ {d : List D} {v : List V} {p : List PyData}, RDs K G d v → toPys d = some p → DpAll K H v p
  | _, _, _, .nil, e => by cases e; exact .nil
  | x :: xs, _, _, .cons q r, e => by
    unfold toPys at e
    cases e1 : toPy x with
    | none => rw [e1] at e; cases e
    | some p =>
      cases e2 : toPys xs with
      | none => rw [e1, e2] at e; cases e
      | some ps => rw [e1, e2] at e; cases e; exact .cons (dp_of q e1) (dps_of r e2)
end
end
/-- == of data -/
def eqB (a b : D) : Option Bool := match a, b with
  | .int i, .int j => some (i == j)
  | .str x, .str y => some (x == y)
  | .bl x, .bl y => some (x == y)
  | a, b => match toPy a, toPy b with
    | some p, some q => if SeqAt.shaped p && SeqAt.shaped q then some (PyData.eqv p q) else none
    | _, _ => none
def dEq (a b : D) : Option D := (eqB a b).map .bl
def dNe (a b : D) : Option D := (eqB a b).map fun k => .bl (!k)
section
variable {X : Cx} {T : Tb} {W : WX} {pos : Pos} {a b c : Expr} {ma mb mc : Ev} {f g : D → D → Option D}
theorem eqB_red {G : Gh} {h : LH} {H : Hp} {dx dy : D} {x y : V} {k : Bool} (rh : RH X.K T G h H) (r1 : RD X.K G dx x) (r2 : RD X.K G dy y) (e : eqB dx dy = some k) :
    (scal x y = true ∧ decide (x = y) = k) ∨ ∃ p q, Dp X.K H x p ∧ Dp X.K H y q ∧ SeqAt.shaped p = true ∧ SeqAt.shaped q = true ∧ PyData.eqv p q = k := by
  unfold eqB at e
  split at e
  · cases e; cases r1; cases r2
    exact .inl ⟨rfl, dec_int⟩
  · cases e; cases r1; cases r2
    exact .inl ⟨rfl, by rw [dec_str, S_beq]⟩
  · cases e; cases r1; cases r2
    exact .inl ⟨rfl, dec_bl⟩
  · split at e
    · rename_i p q e1 e2
      split at e
      · rename_i hs
        cases e
        simp only [Bool.and_eq_true] at hs
        exact .inr ⟨p, q, dp_of rh.F r1 e1, dp_of rh.F r2 e2, hs.1, hs.2, rfl⟩
      · cases e
    · cases e
theorem od_eq (hu : X.A.units + 64 < cLine) : OpD X T (compareOp .Eq) dEq := by
  intro pins s σ H x y v u Q I rx ry ⟨G, h, dx, dy, d, rh, r1, r2, e, k⟩
  unfold dEq at e
  cases e1 : eqB dx dy with
  | none => rw [e1] at e; cases e
  | some b =>
    rw [e1] at e; cases e
    rcases eqB_red rh r1 r2 e1 with ⟨q1, q2⟩ | ⟨p, q, q1, q2, q3, q4, q5⟩
    · exact op_eq pins s σ H x y v u Q I rx ry ⟨q1, by rw [q2]; exact fin_at k rh (.bl _)⟩
    · exact op_eqD hu pins s σ H x y v u Q I rx ry ⟨p, q, q1, q2, q3, q4, by rw [q5]; exact fin_at k rh (.bl _)⟩
theorem od_ne (hu : X.A.units + 64 < cLine) : OpD X T (compareOp .NotEq) dNe := by
  intro pins s σ H x y v u Q I rx ry ⟨G, h, dx, dy, d, rh, r1, r2, e, k⟩
  unfold dNe at e
  cases e1 : eqB dx dy with
  | none => rw [e1] at e; cases e
  | some b =>
    rw [e1] at e; cases e
    rcases eqB_red rh r1 r2 e1 with ⟨q1, q2⟩ | ⟨p, q, q1, q2, q3, q4, q5⟩
    · exact op_ne pins s σ H x y v u Q I rx ry ⟨q1, by rw [q2]; exact fin_at k rh (.bl _)⟩
    · exact op_neD hu pins s σ H x y v u Q I rx ry ⟨p, q, q1, q2, q3, q4, by rw [q5]; exact fin_at k rh (.bl _)⟩
/-! ### < <= > >= -/
def dLt : D → D → Option D
  | .int i, .int j => some (.bl (decide (i < j)))
  | .str a, .str b => some (.bl (decide (a < b)))
  | _, _ => none
def dLe : D → D → Option D
  | .int i, .int j => some (.bl (decide (i ≤ j)))
  | .str a, .str b => some (.bl (!decide (b < a)))
  | _, _ => none
def dGt : D → D → Option D
  | .int i, .int j => some (.bl (decide (j < i)))
  | .str a, .str b => some (.bl (decide (b < a)))
  | _, _ => none
def dGe : D → D → Option D
  | .int i, .int j => some (.bl (decide (j ≤ i)))
  | .str a, .str b => some (.bl (!decide (a < b)))
  | _, _ => none
theorem od_lt : OpD X T (compareOp .Lt) dLt := by
  intro pins s σ H x y v u Q I rx ry ⟨G, h, dx, dy, d, rh, r1, r2, e, k⟩
  unfold dLt at e
  split at e
  · cases e; cases r1; cases r2
    exact op_lt pins s σ H _ _ v u Q I rx ry ⟨_, _, rfl, rfl, fin_at k rh (.bl _)⟩
  · cases e; cases r1; cases r2
    exact op_lt_str pins s σ H _ _ v u Q I rx ry ⟨_, _, rfl, rfl, fin_at k rh (.bl _)⟩
  · cases e
theorem od_le : OpD X T (compareOp .LtE) dLe := by
  intro pins s σ H x y v u Q I rx ry ⟨G, h, dx, dy, d, rh, r1, r2, e, k⟩
  unfold dLe at e
  split at e
  · cases e; cases r1; cases r2
    exact op_le pins s σ H _ _ v u Q I rx ry ⟨_, _, rfl, rfl, fin_at k rh (.bl _)⟩
  · cases e; cases r1; cases r2
    exact op_le_str pins s σ H _ _ v u Q I rx ry ⟨_, _, rfl, rfl, fin_at k rh (.bl _)⟩
  · cases e
theorem od_gt : OpD X T (compareOp .Gt) dGt := by
  intro pins s σ H x y v u Q I rx ry ⟨G, h, dx, dy, d, rh, r1, r2, e, k⟩
  unfold dGt at e
  split at e
  · cases e; cases r1; cases r2
    exact op_gt pins s σ H _ _ v u Q I rx ry ⟨_, _, rfl, rfl, fin_at k rh (.bl _)⟩
  · cases e; cases r1; cases r2
    exact op_gt_str pins s σ H _ _ v u Q I rx ry ⟨_, _, rfl, rfl, fin_at k rh (.bl _)⟩
  · cases e
theorem od_ge : OpD X T (compareOp .GtE) dGe := by
  intro pins s σ H x y v u Q I rx ry ⟨G, h, dx, dy, d, rh, r1, r2, e, k⟩
  unfold dGe at e
  split at e
  · cases e; cases r1; cases r2
    exact op_ge pins s σ H _ _ v u Q I rx ry ⟨_, _, rfl, rfl, fin_at k rh (.bl _)⟩
  · cases e; cases r1; cases r2
    exact op_ge_str pins s σ H _ _ v u Q I rx ry ⟨_, _, rfl, rfl, fin_at k rh (.bl _)⟩
  · cases e
/-! ### in, not in -/
def flatD : D → Option V
  | .non => some .non
  | .bl b => some (.bl b)
  | .int i => some (.int i)
  | .str x => some (.str (S x))
  | _ => none
def eqF (x y : D) : Bool := match x, y with
  | .non, .non => true
  | .bl a, .bl b => a == b
  | .bl a, .int b => (if a then 1 else 0) == b
  | .int a, .bl b => a == (if b then 1 else 0)
  | .int a, .int b => a == b
  | .str a, .str b => a == b
  | _, _ => false
def flatB' : D → Bool
  | .non => true
  | .bl _ => true
  | .int _ => true
  | .str _ => true
  | _ => false
theorem flat_rd {K : PySem.W.Frag} {G : Gh} {d : D} {v : V} (r : RD K G d v) (f : flatB' d = true) : flatV v = true := by
  cases r <;> first | rfl | cases f
theorem flats_rd {K : PySem.W.Frag} {G : Gh} : ∀ {d : List D} {v : List V}, RDs K G d v → d.all flatB' = true → v.all flatV = true
  | _, _, .nil, _ => rfl
  | _, _, .cons q r, f => by
    rw [List.all_cons, Bool.and_eq_true] at f ⊢
    exact ⟨flat_rd q f.1, flats_rd r f.2⟩
theorem eqF_rd {K : PySem.W.Frag} {G : Gh} {d d' : D} {v v' : V} (r : RD K G d v) (r' : RD K G d' v') (f : flatB' d = true) (f' : flatB' d' = true) : eqV v v' = eqF d d' := by
  cases r <;> first | exact Bool.noConfusion f | (cases r' <;> first | exact Bool.noConfusion f' | rfl | exact S_beq _ _)
theorem inV_rd {K : PySem.W.Frag} {G : Gh} {d : D} {v : V} (r : RD K G d v) (f : flatB' d = true) : ∀ {ds : List D} {vs : List V}, RDs K G ds vs → ds.all flatB' = true → inV v vs = ds.any fun y => eqF y d
  | _, _, .nil, _ => rfl
  | _, _, .cons q t, h => by
    rw [List.all_cons, Bool.and_eq_true] at h
    have ih := inV_rd r f t h.2
    unfold inV at ih ⊢
    rw [List.any_cons, List.any_cons, ih, eqF_rd q r h.1 f]
/-- one text in another: the first place -/
def inStr (x y : List Nat) : Bool := !(Builtin.Str.occurrences (S y) (S x) 0 (S y).length 1).isEmpty
theorem inStr_one (c : Nat) (y : List Nat) : inStr [c] y = decide (c ∈ y) := StrLaws.found_one (S y) c
def inB (x y : D) : Option Bool := match x, y with
  | .str x, .str y => some (inStr x y)
  | x, .tup ys => if flatB' x && ys.all flatB' then some (ys.any fun y => eqF y x) else none
  | x, .lst ys => if flatB' x && ys.all flatB' then some (ys.any fun y => eqF y x) else none
  | x, .fls ys => if flatB' x && ys.all flatB' then some (ys.any fun y => eqF y x) else none
  | _, _ => none
def dIn (a b : D) : Option D := (inB a b).map .bl
def dNotIn (a b : D) : Option D := (inB a b).map fun k => .bl (!k)
theorem od_in : OpD X T (compareOp .In) dIn := by
  intro pins s σ H x y v u Q I rx ry ⟨G, h, dx, dy, d, rh, r1, r2, e, k⟩
  unfold dIn inB at e
  split at e
  · cases e; cases r1; cases r2
    exact op_in_str pins s σ H _ _ v u Q I rx ry ⟨_, _, rfl, rfl, fin_at k rh (.bl _)⟩
  · split at e
    · rename_i hf
      cases e
      simp only [Bool.and_eq_true] at hf
      cases r2 with
      | tup q2 w2 =>
        refine op_in_seq pins s σ H _ _ v u Q I rx ry ⟨_, _, rfl, .inr (SqT.mono q2 rh.F), flat_rd r1 hf.1, flats_rd w2 hf.2, ?_⟩
        rw [if_neg Bool.false_ne_true, inV_rd r1 hf.1 w2 hf.2]
        exact fin_at k rh (.bl _)
    · cases e
  · split at e
    · rename_i hf
      cases e
      simp only [Bool.and_eq_true] at hf
      cases r2 with
      | lst q2 w2 =>
        refine op_in_seq pins s σ H _ _ v u Q I rx ry ⟨_, _, rfl, .inl (SqL.of (rh.F _ _ q2)), flat_rd r1 hf.1, flats_rd w2 hf.2, ?_⟩
        rw [if_neg Bool.false_ne_true, inV_rd r1 hf.1 w2 hf.2]
        exact fin_at k rh (.bl _)
    · cases e
  · split at e
    · rename_i hf
      cases e
      simp only [Bool.and_eq_true] at hf
      cases r2 with
      | fls q2 w2 =>
        refine op_in_seq pins s σ H _ _ v u Q I rx ry ⟨_, _, rfl, .inl (SqL.mono q2 rh.F), flat_rd r1 hf.1, flats_rd w2 hf.2, ?_⟩
        rw [if_neg Bool.false_ne_true, inV_rd r1 hf.1 w2 hf.2]
        exact fin_at k rh (.bl _)
    · cases e
  · cases e
theorem od_notIn : OpD X T (compareOp .NotIn) dNotIn := by
  intro pins s σ H x y v u Q I rx ry ⟨G, h, dx, dy, d, rh, r1, r2, e, k⟩
  unfold dNotIn inB at e
  split at e
  · cases e; cases r1; cases r2
    exact L2.op_notIn_str pins s σ H _ _ v u Q I rx ry ⟨_, _, rfl, rfl, fin_at k rh (.bl _)⟩
  · split at e
    · rename_i hf
      cases e
      simp only [Bool.and_eq_true] at hf
      cases r2 with
      | tup q2 w2 =>
        refine op_notIn_seq pins s σ H _ _ v u Q I rx ry ⟨_, _, rfl, .inr (SqT.mono q2 rh.F), flat_rd r1 hf.1, flats_rd w2 hf.2, ?_⟩
        rw [if_pos rfl, inV_rd r1 hf.1 w2 hf.2]
        exact fin_at k rh (.bl _)
    · cases e
  · split at e
    · rename_i hf
      cases e
      simp only [Bool.and_eq_true] at hf
      cases r2 with
      | lst q2 w2 =>
        refine op_notIn_seq pins s σ H _ _ v u Q I rx ry ⟨_, _, rfl, .inl (SqL.of (rh.F _ _ q2)), flat_rd r1 hf.1, flats_rd w2 hf.2, ?_⟩
        rw [if_pos rfl, inV_rd r1 hf.1 w2 hf.2]
        exact fin_at k rh (.bl _)
    · cases e
  · split at e
    · rename_i hf
      cases e
      simp only [Bool.and_eq_true] at hf
      cases r2 with
      | fls q2 w2 =>
        refine op_notIn_seq pins s σ H _ _ v u Q I rx ry ⟨_, _, rfl, .inl (SqL.mono q2 rh.F), flat_rd r1 hf.1, flats_rd w2 hf.2, ?_⟩
        rw [if_pos rfl, inV_rd r1 hf.1 w2 hf.2]
        exact fin_at k rh (.bl _)
    · cases e
  · cases e
/-! ### displays -/
def eTup (m : Av) : Ev := fun ρ h => (m ρ h).bind fun ds h1 => if fits ds.length then .ok (.tup ds) h1 else .err
def eLst (m : Av) : Ev := fun ρ h => (m ρ h).bind fun ds h1 => if fits ds.length then .ok (.lst ds) h1 else .err
/-- a list that will be changed -/
def eNew (m : Av) : Ev := fun ρ h => (m ρ h).bind fun ds h1 => if fits ds.length then .ok (.obj h1.length) (h1 ++ [.lst ds]) else .err
variable {es : List Expr} {mas : Av}
theorem de_tup {k : Nat} (ha : DA X T W es mas) : DE X T W (.Tuple es k pos) (eTup mas) := ⟨PE.imp (pe_tup ha.p) fun σ H Q ⟨G, ρ, h, re, rh, p⟩ => by
  refine ⟨G, ρ, h, re, rh, ?_⟩
  unfold eTup at p
  cases e1 : mas ρ h with
  | ok ds h1 =>
    rw [e1] at p
    intro G1 H1 v l1 rh1 rd1
    simp only [Res.bind] at p
    split at p
    · rename_i hf
      exact ⟨by rw [← rd1.length]; exact fits_ok hf, fin_tup (fun G' H' z l r d => p G' H' z (l1.trans l) r d) rh1 rd1⟩
    · exact p.elim
  | exc c h1 => rw [e1] at p; exact p
  | err => rw [e1] at p; exact p⟩
theorem de_lst (ha : DA X T W es mas) : DE X T W (.List es pos) (eLst mas) := ⟨PE.imp (pe_lst ha.p) fun σ H Q ⟨G, ρ, h, re, rh, p⟩ => by
  refine ⟨G, ρ, h, re, rh, ?_⟩
  unfold eLst at p
  cases e1 : mas ρ h with
  | ok ds h1 =>
    rw [e1] at p
    intro G1 H1 v l1 rh1 rd1
    simp only [Res.bind] at p
    split at p
    · rename_i hf
      exact ⟨by rw [← rd1.length]; exact fits_ok hf, fin_lst (fun G' H' z l r d => p G' H' z (l1.trans l) r d) rh1 rd1⟩
    · exact p.elim
  | exc c h1 => rw [e1] at p; exact p
  | err => rw [e1] at p; exact p⟩
theorem fin_new {G : Gh} {h : LH} {H : Hp} {Q : VK} {o : LO} {u : HO} (k : ∀ G' H' z, G.le G' → RH X.K T G' (h ++ [o]) H' → RD X.K G' (.obj h.length) z → Q z H') (rh : RH X.K T G h H) : ∀ p, H p = none → RO X.K (G.add p) p o u → Q (.ref p) (upd H p u) := fun p hp q =>
  k (G.add p) _ _ Gh.add_le (rh.add hp q) (.obj (by rw [← rh.len]; exact Gh.add_at))
theorem de_new (ha : DA X T W es mas) : DE X T W (.List es pos) (eNew mas) := ⟨PE.imp (pe_lst ha.p) fun σ H Q ⟨G, ρ, h, re, rh, p⟩ => by
  refine ⟨G, ρ, h, re, rh, ?_⟩
  unfold eNew at p
  cases e1 : mas ρ h with
  | ok ds h1 =>
    rw [e1] at p
    intro G1 H1 v l1 rh1 rd1
    simp only [Res.bind] at p
    split at p
    · rename_i hf
      exact ⟨by rw [← rd1.length]; exact fits_ok hf, fun q hq => fin_new (fun G' H' z l r d => p G' H' z (l1.trans l) r d) rh1 q hq (.lst (rd1.mono Gh.add_le))⟩
    · exact p.elim
  | exc c h1 => rw [e1] at p; exact p
  | err => rw [e1] at p; exact p⟩
/-! ### subscripts -/
def keyD : D → Option Key
  | .int i => some (.inl i)
  | .str x => some (.inr (S x))
  | _ => none
theorem keyD_rd {K : PySem.W.Frag} {G : Gh} {d : D} {v : V} {k : Key} (r : RD K G d v) (e : keyD d = some k) : v = kV k := by
  cases r <;> first | (cases e; done) | (cases e; rfl)
def lookD : List (Key × D) → Key → Option D
  | [], _ => none
  | (j, d) :: r, k => if j = k then some d else lookD r k
theorem lookD_rd {K : PySem.W.Frag} {G : Gh} : ∀ {kvs : List (Key × D)} {vs : List (Key × V)} {k : Key}, RKs K G kvs vs → (∀ d, lookD kvs k = some d → ∃ v, valV vs k = some v ∧ RD K G d v) ∧ (lookD kvs k = none → valV vs k = none)
  | _, _, k, .nil => ⟨fun _ e => (nomatch e), fun _ => rfl⟩
  | _, _, k, .cons (k := j) q t => by
    unfold lookD
    by_cases h : j = k
    · subst h
      exact ⟨fun d' e => by rw [if_pos rfl] at e; cases e; exact ⟨_, valV_pos rfl, q⟩, fun e => by rw [if_pos rfl] at e; cases e⟩
    · obtain ⟨i1, i2⟩ := lookD_rd (k := k) t
      exact ⟨fun d' e => by rw [if_neg h] at e; rw [valV_neg h]; exact i1 d' e, fun e => by rw [if_neg h] at e; rw [valV_neg h]; exact i2 e⟩
/-- a[b] -/
def dIx (h : LH) : D → D → Option D
  | .lst xs, .int i => atI xs i
  | .tup xs, .int i => atI xs i
  | .fls xs, .int i => atI xs i
  | .str a, .int i => if fits a.length then (atI a i).map fun c => .str [c] else none
  | .dic kvs, k => (keyD k).bind fun k => lookD kvs k
  | .obj n, k => match h[n]? with
    | some (.lst xs) => (match k with
      | .int i => atI xs i
      | _ => none)
    | some (.dic kvs) => (keyD k).bind fun k => lookD kvs k
    | _ => none
  | _, _ => none
def rIxH (K : PySem.W.Frag) (T : Tb) : R2 := fun x y H Q => ∃ G h dx dy d, RH K T G h H ∧ RD K G dx x ∧ RD K G dy y ∧ dIx h dx dy = some d ∧ ∀ G' H' z, G.le G' → RH K T G' h H' → RD K G' d z → Q z H'
theorem atI_rd {K : PySem.W.Frag} {G : Gh} {xs : List D} {vs : List V} {i : Int} {d : D} (r : RDs K G xs vs) (e : atI xs i = some d) : ∃ v, atI vs i = some v ∧ RD K G d v := by
  unfold atI at e ⊢
  rw [← r.length]
  cases e1 : ixN xs.length i with
  | none => rw [e1] at e; cases e
  | some j =>
    rw [e1] at e
    exact r.get e
theorem ix_red (hu : X.A.units + 1 < cLine) : IxR X (rIxH X.K T) := by
  intro value slice pins s σ H x y v u Q I rx ry ⟨G, h, dx, dy, d, rh, r1, r2, e, k⟩ hs
  unfold dIx at e
  split at e
  · cases r2
    cases r1 with
    | lst q w =>
      obtain ⟨z, e1, e2⟩ := atI_rd w e
      exact ix_list value slice pins s σ H _ _ v u Q I rx ry ⟨_, _, _, z, rfl, rfl, SqL.of (rh.F _ _ q), e1, fin_at k rh e2⟩ hs
  · cases r2
    cases r1 with
    | tup q w =>
      obtain ⟨z, e1, e2⟩ := atI_rd w e
      exact ix_tup value slice pins s σ H _ _ v u Q I rx ry ⟨_, _, _, z, rfl, rfl, SqT.mono q rh.F, e1, fin_at k rh e2⟩ hs
  · cases r2
    cases r1 with
    | fls q w =>
      obtain ⟨z, e1, e2⟩ := atI_rd w e
      exact ix_list value slice pins s σ H _ _ v u Q I rx ry ⟨_, _, _, z, rfl, rfl, SqL.mono q rh.F, e1, fin_at k rh e2⟩ hs
  · rename_i a i
    cases r2; cases r1
    split at e
    · rename_i hf
      cases e1 : atI a i with
      | none => rw [e1] at e; cases e
      | some c =>
        rw [e1] at e; cases e
        exact ix_str value slice pins s σ H _ _ v u Q I rx ry ⟨_, _, c, rfl, rfl, by rw [S_len]; exact fits_ok hf, e1, fin_at k rh (.str [c])⟩ hs
    · cases e
  · rename_i kvs
    cases e1 : keyD dy with
    | none => rw [e1] at e; cases e
    | some key =>
      rw [e1] at e
      have ey := keyD_rd r2 e1
      subst ey
      cases r1 with
      | dic q w =>
        obtain ⟨z, e2, e3⟩ := (lookD_rd (k := key) w).1 d e
        cases rx
        have g := DGet.k (k := key) (rh.F _ _ q)
        rw [e2] at g
        exact tail_any (dict_typeIs I g) slot_dict_getitem.lookup (d_getItem hu I g ry fun w' s' I' r' => ⟨z, H, I', r', fin_at k rh e3⟩) hs
  · rename_i n
    cases r1 with
    | obj ea =>
      split at e
      · rename_i xs eo
        split at e
        · obtain ⟨hu', q1, q2⟩ := rh.at eo ea (fun z => by cases z)
          cases q2 with
          | lst w =>
            cases r2
            obtain ⟨z, e1, e2⟩ := atI_rd w e
            exact ix_list value slice pins s σ H _ _ v u Q I rx ry ⟨_, _, _, z, rfl, rfl, SqL.of q1, e1, fin_at k rh e2⟩ hs
        · cases e
      · rename_i kvs eo
        cases e1 : keyD dy with
        | none => rw [e1] at e; cases e
        | some key =>
          rw [e1] at e
          have ey := keyD_rd r2 e1
          subst ey
          obtain ⟨hu', q1, q2⟩ := rh.at eo ea (fun z => by cases z)
          cases rx
          cases q2 with
          | dic w =>
            obtain ⟨z, e2, e3⟩ := (lookD_rd (k := key) w).1 d e
            have g := DGet.k (k := key) q1
            rw [e2] at g
            exact tail_any (dict_typeIs I g) slot_dict_getitem.lookup (d_getItem hu I g ry fun w' s' I' r' => ⟨z, H, I', r', fin_at k rh e3⟩) hs
      · cases e
  · cases e
def eIx (a b : Ev) : Ev := fun ρ h => (a ρ h).bind fun x h1 => (b ρ h1).bind fun y h2 => liftO h2 (dIx h2 x y)
theorem de_ix (hu : X.A.units + 1 < cLine) (ha : DE X T W a ma) (hb : DE X T W b mb) (hs : PlainIx b := by exact fun _ _ => rfl) : DE X T W (.Subscript a b pos) (eIx ma mb) := ⟨PE.imp (pe_ix (ix_red hu) ha.p hb.p hs) fun σ H Q ⟨G, ρ, h, re, rh, p⟩ => by
  refine ⟨G, ρ, h, re, rh, ?_⟩
  unfold eIx at p
  cases e1 : ma ρ h with
  | ok x h1 =>
    rw [e1] at p
    intro G1 H1 v1 l1 rh1 rd1
    refine ⟨G1, ρ, h1, re.mono l1, rh1, ?_⟩
    simp only [Res.bind] at p
    cases e2 : mb ρ h1 with
    | ok y h2 =>
      rw [e2] at p
      simp only [Res.bind] at p
      intro G2 H2 v2 l2 rh2 rd2
      cases e3 : dIx h2 x y with
      | some d => rw [e3] at p; exact ⟨G2, h2, x, y, d, rh2, rd1.mono l2, rd2, e3, fun G3 H3 z l3 r3 q3 => p G3 H3 z ((l1.trans l2).trans l3) r3 q3⟩
      | none => rw [e3] at p; exact p.elim
    | exc c h2 => rw [e2] at p; exact fun G2 H2 l2 rh2 => p G2 H2 (l1.trans l2) rh2
    | err => rw [e2] at p; exact p.elim
  | exc c h1 => rw [e1] at p; exact p
  | err => rw [e1] at p; exact p.elim⟩
end
end Sh

set_option Elab.async false
set_option linter.all false
set_option maxRecDepth 100000
set_option maxHeartbeats 4000000
/-! Sh6: list comprehensions. -/
namespace Sh
open PySem PySem.Spec PyProof.Rows L2

def wipeD (ρ : En) : List Nat → En
  | [] => ρ
  | v :: vs => (wipeD ρ vs).set v none
theorem RE.none {K : PySem.W.Frag} {G : Gh} {ρ : En} {σ : L2.St} (re : RE K G ρ σ) (i : Nat) : RE K G (ρ.set i none) (σ.set i none) := by
  refine ⟨by rw [List.length_set, List.length_set]; exact re.len, fun j d' e => ?_⟩
  by_cases hj : j = i
  · subst hj
    by_cases hl : j < ρ.length
    · rw [List.getElem?_set_self hl] at e; cases e
    · rw [List.getElem?_eq_none (by rw [List.length_set]; omega)] at e; cases e
  · rw [List.getElem?_set_ne (Ne.symm hj)] at e ⊢
    exact re.get j d' e
theorem RE.wipe {K : PySem.W.Frag} {G : Gh} {ρ : En} {σ : L2.St} (re : RE K G ρ σ) : ∀ vs : List Nat, RE K G (wipeD ρ vs) (L2.wipe σ vs)
  | [] => re
  | v :: vs => (RE.wipe re vs).none v
theorem wipe_get {σ : L2.St} {i : Nat} : ∀ {vs : List Nat}, (L2.wipe σ vs)[i]? = if i ∈ vs then (σ[i]?).map (fun _ => none) else σ[i]?
  | [] => by simp [L2.wipe]
  | v :: vs => by
    unfold L2.wipe
    have ih := wipe_get (σ := σ) (i := i) (vs := vs)
    by_cases hv : v = i
    · subst hv
      rw [if_pos (by simp)]
      by_cases hl : v < (L2.wipe σ vs).length
      · rw [List.getElem?_set_self hl]
        rw [L2.wipe_length] at hl
        rw [List.getElem?_eq_getElem hl]; rfl
      · rw [List.getElem?_eq_none (by rw [List.length_set]; omega)]
        rw [L2.wipe_length] at hl
        rw [List.getElem?_eq_none (by omega)]; rfl
    · rw [List.getElem?_set_ne hv, ih]
      by_cases hm : i ∈ vs
      · rw [if_pos hm, if_pos (List.mem_cons_of_mem _ hm)]
      · rw [if_neg hm, if_neg (fun z => (List.mem_cons.mp z).elim (fun e => hv e.symm) hm)]
theorem wipe_set {σ : L2.St} {i : Nat} {x : Option V} {vs : List Nat} (h : i ∈ vs) : L2.wipe (σ.set i x) vs = L2.wipe σ vs := by
  refine List.ext_getElem? fun j => ?_
  rw [wipe_get, wipe_get]
  by_cases hj : j ∈ vs
  · rw [if_pos hj, if_pos hj]
    by_cases hl : j < σ.length
    · rw [List.getElem?_eq_getElem (by rw [List.length_set]; exact hl), List.getElem?_eq_getElem hl]; rfl
    · rw [List.getElem?_eq_none (by rw [List.length_set]; omega), List.getElem?_eq_none (by omega)]
  · rw [if_neg hj, if_neg hj, List.getElem?_set_ne (show i ≠ j from fun z => hj (by rw [← z]; exact h))]
theorem wipe_idem {σ : L2.St} {vs : List Nat} : L2.wipe (L2.wipe σ vs) vs = L2.wipe σ vs := by
  refine List.ext_getElem? fun j => ?_
  rw [wipe_get, wipe_get]
  split
  · cases σ[j]? <;> rfl
  · rfl
/-! ### a comprehension's targets -/
def PostX (K : PySem.W.Frag) (T : Tb) (vs : List Nat) (σ : L2.St) (G : Gh) (r : Option (En × LH)) (Q : L2.St → Hp → Prop) : Prop := match r with
  | some (ρ', h') => ∀ G' H' σ', G.le G' → RE K G' ρ' σ' → RH K T G' h' H' → L2.wipe σ' vs = L2.wipe σ vs → Q σ' H'
  | none => False
theorem PostX.mono {K : PySem.W.Frag} {T : Tb} {vs : List Nat} {σ σ1 : L2.St} {G G' : Gh} {r : Option (En × LH)} {Q : L2.St → Hp → Prop} (h : PostX K T vs σ G r Q) (l : G.le G') (e : L2.wipe σ1 vs = L2.wipe σ vs) : PostX K T vs σ1 G' r Q := by
  cases r with
  | some q => exact fun G2 H σ2 l2 a b c => h G2 H σ2 (l.trans l2) a b (c.trans e)
  | none => exact h
def tX (K : PySem.W.Frag) (T : Tb) (vs : List Nat) (g : Gv) : TG := fun v σ H Q => ∃ G ρ h d, RE K G ρ σ ∧ RH K T G h H ∧ RD K G d v ∧ PostX K T vs σ G (g d ρ h) Q
structure DX (X : Cx) (T : Tb) (vs : List Nat) (tg : Expr) (g : Gv) : Prop where
  p : PG X tg (tX X.K T vs g)
def tXs (K : PySem.W.Frag) (T : Tb) (vs : List Nat) (g : Gvs) : TGs := fun v σ H Q => ∃ G ρ h d, RE K G ρ σ ∧ RH K T G h H ∧ RDs K G d v ∧ PostX K T vs σ G (g d ρ h) Q
structure DXs (X : Cx) (T : Tb) (vs : List Nat) (ts : List Expr) (g : Gvs) : Prop where
  p : PGs X ts (tXs X.K T vs g)
section
variable {X : Cx} {T : Tb} {W : WX} {pos : Pos} {vs : List Nat}
theorem dx_name {i : Nat} {x : Str} (hN : X.N.Nodup) (hi : X.N[i]? = some x) (hx : Loc X.env.scope x) (hv : i ∈ vs := by decide) (hf : X.fn x = true ∨ X.env.scope.names.lookup x = some .local := by first | exact .inl rfl | exact .inr rfl | assumption) : DX X T vs (.Name x pos) (gNm i) :=
  ⟨PG.imp (pg_name hN hi hx hf) fun v σ H Q ⟨G, ρ, h, d, re, rh, rd, p⟩ => p G H _ (.refl G) (re.set i rd) rh (wipe_set hv)⟩
theorem dxs_nil : DXs X T vs [] gNils := ⟨PGs.imp pgs_nil fun v σ H Q ⟨G, ρ, h, d, re, rh, rd, p⟩ => by
  cases rd with
  | nil => exact ⟨rfl, p G H _ (.refl G) re rh rfl⟩
  | cons _ _ => exact p.elim⟩
theorem dxs_cons {g : Gv} {gs : Gvs} {e : Expr} {es : List Expr} (h1 : DX X T vs e g) (h2 : DXs X T vs es gs) (hs : (assignEach (e :: es) X.env).map (·.2) = assign e X.env :: (assignEach es X.env).map (·.2) := by rfl) : DXs X T vs (e :: es) (gCns g gs) :=
  ⟨PGs.imp (pgs_cons h1.p h2.p hs) fun v σ H Q ⟨G, ρ, h, d, re, rh, rd, p⟩ => by
    cases rd with
    | nil => exact p.elim
    | @cons x xs v2 vs2 r t =>
      refine ⟨v2, vs2, rfl, G, ρ, h, x, re, rh, r, ?_⟩
      have p : PostX X.K T vs σ G ((g x ρ h).bind fun r => gs xs r.1 r.2) Q := p
      cases e1 : g x ρ h with
      | some q =>
        obtain ⟨ρ1, h1⟩ := q
        rw [e1] at p
        exact fun G1 H1 σ1 l1 re1 rh1 ew => ⟨G1, ρ1, h1, xs, re1, rh1, t.mono l1, PostX.mono p l1 ew⟩
      | none => rw [e1] at p; exact p⟩
theorem dx_tup {es : List Expr} {k n : Nat} {gs : Gvs} (hc : X.calm = true) (h : DXs X T vs es gs) (hn : (assignEach es X.env).length = n := by rfl) (hst : (assignEach es X.env).findIdx? (·.1) = none := by rfl) : DX X T vs (.Tuple es k pos) (gTp n gs) :=
  ⟨PG.imp (PG.or (pg_tup hc h.p hn hst) (pg_lst hc h.p hn hst)) fun v σ H Q ⟨G, ρ, h, d, re, rh, rd, p⟩ => by
    cases rd with
    | @tup xs vs2 a q r =>
      simp only [gTp] at p
      split at p
      · rename_i hl
        exact .inl ⟨a, vs2, rfl, SqT.mono q rh.F, by rw [← r.length]; exact hl, G, ρ, h, xs, re, rh, r, p⟩
      · exact p.elim
    | @lst xs vs2 a q r =>
      simp only [gTp] at p
      split at p
      · rename_i hl
        exact .inr ⟨a, vs2, rfl, SqL.of (rh.F _ _ q), by rw [← r.length]; exact hl, G, ρ, h, xs, re, rh, r, p⟩
      · exact p.elim
    | _ => exact p.elim⟩
/-! ### list comprehensions -/
abbrev W0 : WX := fun _ _ _ _ => False
def lcGo (vs : List Nat) (g : Gv) (mt : Bv) (me : Ev) (ρ : En) : List D → List D → LH → Res D
  | [], acc, h => .ok (.lst acc) h
  | d :: ds, acc, h => match g d (wipeD ρ vs) h with
    | some (ρ2, h2) => (match mt ρ2 h2 with
      | .ok true h3 => (match me ρ2 h3 with
        | .ok y h4 => if fits (acc.length + 1) then lcGo vs g mt me ρ ds (acc ++ [y]) h4 else .err
        | _ => .err)
      | .ok false h3 => lcGo vs g mt me ρ ds acc h3
      | _ => .err)
    | none => .err
def eLc (mi : Iv) (vs : List Nat) (g : Gv) (mt : Bv) (me : Ev) : Ev := fun ρ h => (mi ρ h).bind fun t h1 => match t.g with
  | none => lcGo vs g mt me ρ t.ds [] h1
  | some _ => .err
def bYes : Bv := fun _ h => .ok true h
structure DTs (X : Cx) (T : Tb) (ifs : List Expr) (m : Bv) : Prop where
  p : PTs X ifs (tT X.K T W0 m)
theorem PTs.imp {ifs : List Expr} {t t' : TT} (h : PTs X ifs t) (i : ∀ σ H Q, t' σ H Q → t σ H Q) : PTs X ifs t' := ⟨fun pins s σ H Q I q => h.run pins s σ H Q I (i _ _ _ q)⟩
theorem dts_nil : DTs X T [] bYes := ⟨PTs.imp pts_nil fun σ H Q ⟨G, ρ, h, re, rh, p⟩ => p G H (.refl G) rh⟩
theorem dts_one {c : Expr} {m : Bv} (h : DT X T W0 c m) : DTs X T [c] m := ⟨pts_one h.p⟩
theorem lc_red {K : PySem.W.Frag} {σ : L2.St} {H : Hp} {Q : VK} {mi : Iv} {g : Gv} {mt : Bv} {me : Ev} (k : tE K T W (eLc mi vs g mt me) σ H Q) : tLc (tI K T W mi) (tX K T vs g) (tT K T W0 mt) (tE K T W0 me) vs σ H Q := by
  obtain ⟨G, ρ, h, re, rh, p⟩ := k
  refine ⟨G, ρ, h, re, rh, ?_⟩
  unfold eLc at p
  cases e0 : mi ρ h with
  | exc c h1 => rw [e0] at p; exact p
  | err => rw [e0] at p; exact p
  | ok t h1 =>
    rw [e0] at p
    obtain ⟨ds, gg⟩ := t
    cases gg with
    | some n => exact p.elim
    | none =>
      have p : Post K T W σ G (lcGo vs g mt me ρ ds [] h1) Q := p
      intro G1 H1 J l1 rh1 jk D hD
      have hE0 : G1.E D = none := by
        cases q : G1.E D with
        | none => rfl
        | some o => have := (rh1.ext D o q).1; rw [hD] at this; cases this
      refine ⟨fun i m H => ∃ G2 h acc vacc, G1.lw G2 ∧ G2.E = upd G1.E D (.lst vacc) ∧ RH K T G2 h H ∧ RDs K G2 acc vacc ∧ m = ds.length - i ∧ i ≤ ds.length ∧ Post K T W σ G1 (lcGo vs g mt me ρ (ds.drop i) acc h) Q,
        ⟨_, G1.hold D (.lst []), h1, [], [], Gh.hold_lw, rfl, rh1.hold hD _, .nil, rfl, Nat.zero_le _, p.mono l1⟩, ?_⟩
      rintro i m H2 ⟨G2, h2, acc, vacc, l2, eE, rh2, ra, rfl, hi, p2⟩
      have hE2 : G2.E D = some (.lst vacc) := by rw [eE, upd_same]
      obtain ⟨j1, j2⟩ := jk G2 h2 H2 l2 rh2 (fun n e => nomatch e) i
      by_cases hlt : i < ds.length
      · obtain ⟨go, yl⟩ := j1 ds[i] (List.getElem?_eq_getElem hlt)
        refine .inr ⟨go, fun H' => ∃ G3 h acc vacc, G1.lw G3 ∧ G3.E = upd G1.E D (.lst vacc) ∧ RH K T G3 h H' ∧ RDs K G3 acc vacc ∧ Post K T W σ G1 (lcGo vs g mt me ρ (ds.drop (i + 1)) acc h) Q,
          fun H' ⟨G3, h3, acc3, vacc3, q1, q2, q3, q4, q5⟩ => ⟨ds.length - (i + 1), by omega, G3, h3, acc3, vacc3, q1, q2, q3, q4, rfl, hlt, q5⟩, fun x H' y => ?_⟩
        obtain ⟨G3, l3, rh3, rd3⟩ := yl x H' y
        refine ⟨G3, wipeD ρ vs, h2, ds[i], ((re.mono l1).wipe vs).monow (l2.trans l3.w), rh3, rd3, ?_⟩
        rw [List.drop_eq_getElem_cons hlt] at p2
        unfold lcGo at p2
        cases e1 : g ds[i] (wipeD ρ vs) h2 with
        | none => rw [e1] at p2; exact p2.elim
        | some q =>
          obtain ⟨ρ4, h4⟩ := q
          rw [e1] at p2
          intro G4 H4 σ4 l4 re4 rh4 ew
          refine ⟨ew.trans wipe_idem, G4, ρ4, h4, re4, rh4, ?_⟩
          have p2 : Post K T W σ G1 (match mt ρ4 h4 with
            | .ok true h3 => (match me ρ4 h3 with
              | .ok y h4 => if fits (acc.length + 1) then lcGo vs g mt me ρ (ds.drop (i + 1)) (acc ++ [y]) h4 else .err
              | _ => .err)
            | .ok false h3 => lcGo vs g mt me ρ (ds.drop (i + 1)) acc h3
            | _ => .err) Q := p2
          cases e2 : mt ρ4 h4 with
          | exc c h5 => rw [e2] at p2; exact p2.elim
          | err => rw [e2] at p2; exact p2.elim
          | ok b h5 =>
            rw [e2] at p2
            intro G5 H5 l5 rh5
            have l25 : G2.le G5 := (l3.trans l4).trans l5
            have eE5 : G5.E = upd G1.E D (.lst vacc) := by rw [l25.E]; exact eE
            cases b with
            | false =>
              rw [if_neg Bool.false_ne_true]
              exact ⟨G5, h5, acc, vacc, l2.trans l25.w, eE5, rh5, ra.mono l25, p2⟩
            | true =>
              rw [if_pos rfl]
              refine ⟨G5, ρ4, h5, re4.mono l5, rh5, ?_⟩
              have p2 : Post K T W σ G1 (match me ρ4 h5 with
                | .ok y h4 => if fits (acc.length + 1) then lcGo vs g mt me ρ (ds.drop (i + 1)) (acc ++ [y]) h4 else .err
                | _ => .err) Q := p2
              cases e3 : me ρ4 h5 with
              | exc c h6 => rw [e3] at p2; exact p2.elim
              | err => rw [e3] at p2; exact p2.elim
              | ok y h6 =>
                rw [e3] at p2
                have p2 : Post K T W σ G1 (if fits (acc.length + 1) then lcGo vs g mt me ρ (ds.drop (i + 1)) (acc ++ [y]) h6 else .err) Q := p2
                split at p2
                · rename_i hf
                  intro G6 H6 v6 l6 rh6 rd6
                  have l26 := l25.trans l6
                  have hE6 : G6.E D = some (.lst vacc) := by rw [l26.E]; exact hE2
                  refine ⟨vacc, (rh6.ext D _ hE6).1, ?_, G6.hold D (.lst (vacc ++ [v6])), h6, acc ++ [y], vacc ++ [v6], (l2.trans l26.w).trans Gh.hold_lw, ?_, rh6.held hE6 _, ((ra.mono l26).append (.cons rd6 .nil)).monow Gh.hold_lw, p2⟩
                  · have := fits_ok hf
                    rw [← ra.length]; omega
                  · show upd G6.E D _ = _
                    rw [l26.E, eE, upd_upd]
                · exact p2.elim
      · have ei : i = ds.length := by omega
        subst ei
        rw [List.drop_length] at p2
        refine .inl ⟨j2 (Nat.le_refl _), ?_⟩
        obtain ⟨lb, rb⟩ := rh2.back hE2 hE0 (fun a u e => by rw [eE, upd_ne (fun z => by rw [z, hE0] at e; cases e)]; exact e)
        exact p2 (G2.back D (.lst vacc) G1.E) H2 (.ref D) ⟨l2.trans lb, rfl⟩ rb (.lst (by show upd G2.F D _ D = _; rw [upd_same]) (ra.monow lb))
/-- the block's context -/
abbrev Cx.cmp (X : Cx) (scope : Scope) (s : Shared) (H : Hp) (C : Addr) (cl : List (Str × Addr)) (fp : List Addr) : Cx := X.blk s H scope (compEnvC scope cl C X.env) fp
structure Blk (X : Cx) (T : Tb) (scope : Scope) (vs : List Nat) (tg : Expr) (ifs : List Expr) (elt : Expr) (g : Gv) (mt : Bv) (me : Ev) : Prop where
  g : ∀ (s : Shared) (H : Hp) (C : Addr) (cl : List (Str × Addr)) (fp : List Addr), DX (Cx.cmp X scope s H C cl fp) T vs tg g
  t : ∀ (s : Shared) (H : Hp) (C : Addr) (cl : List (Str × Addr)) (fp : List Addr), DTs (Cx.cmp X scope s H C cl fp) T ifs mt
  e : ∀ (s : Shared) (H : Hp) (C : Addr) (cl : List (Str × Addr)) (fp : List Addr), DE (Cx.cmp X scope s H C cl fp) T W0 elt me
theorem de_lc {elt tg iter : Expr} {ifs : List Expr} {scope : Scope} {own : List (Str × Nat)} {mi : Iv} {g : Gv} {mt : Bv} {me : Ev} (hc : X.calm = true) (hN : X.N.Nodup) (hi : DI X T W tg iter mi) (ok : BlkOk X.N X.env.scope scope own)
    (b : Blk X T scope (own.map (·.2)) tg ifs elt g mt me) (hs : ∀ x, foldedSetIterable iter X.env x = pure x := by intro _; rfl) : DE X T W (.ListComp elt [⟨tg, iter, ifs, 0⟩] scope pos) (eLc mi (own.map (·.2)) g mt me) :=
  ⟨PE.imp (pe_lc hc hN hi.p ok (fun s H C cl fp => (b.g s H C cl fp).p) (fun s H C cl fp => (b.t s H C cl fp).p) (fun s H C cl fp => (b.e s H C cl fp).p) hs) fun σ H Q k => lc_red k⟩
theorem ds_setLc {i : Nat} {y : Str} {py spos : Pos} {elt tg iter : Expr} {ifs : List Expr} {scope : Scope} {own : List (Str × Nat)} {mi : Iv} {g : Gv} {mt : Bv} {me : Ev} (hc : X.calm = true) (hN : X.N.Nodup) (hy : X.N[i]? = some y) (hyl : X.env.scope.names.lookup y = some .local)
    (hsw : swapsWith (.ListComp elt [⟨tg, iter, ifs, 0⟩] scope pos) (some (.Name y py)) spos.line X.env = pure true) (hi : DI X T W tg iter mi) (ok : BlkOk X.N X.env.scope scope own)
    (b : Blk X T scope (own.map (·.2)) tg ifs elt g mt me) (hs : ∀ x, foldedSetIterable iter X.env x = pure x := by intro _; rfl) : DS X T W (.Assign [.Name y py] (.ListComp elt [⟨tg, iter, ifs, 0⟩] scope pos) spos) (sAsg (eLc mi (own.map (·.2)) g mt me) (gNm i)) :=
  ⟨PS.imp (ps_setLc hc hN hy hyl hsw hi.p ok (fun s H C cl fp => (b.g s H C cl fp).p) (fun s H C cl fp => (b.t s H C cl fp).p) (fun s H C cl fp => (b.e s H C cl fp).p) hs) fun E σ H k => by
    obtain ⟨G, ρ, h, re, rh, p⟩ := k
    refine lc_red (W := W) (e_red re rh p fun d h1 G1 H1 v l1 r1 d1 q => ?_)
    exact q G1 H1 _ (.refl _) ((re.mono l1).set i d1) r1⟩
end
end Sh

set_option Elab.async false
set_option linter.all false
set_option maxRecDepth 100000
set_option maxHeartbeats 4000000
/-! Sh7: generator expressions. -/
namespace Sh
open PySem PySem.Spec PyProof.Rows L2

/-! ### what a generator expression hands out -/
inductive Tr where
  | done (h : LH) | yld (d : D) (h : LH) (r : Tr) | err
def Tr.len : Tr → Nat
  | .yld _ _ r => r.len + 1
  | _ => 0
def Tr.all : Tr → List D
  | .yld d _ r => d :: r.all
  | _ => []
def Tr.at : Tr → Nat → Tr
  | .yld d h r, n => if n = r.len + 1 then .yld d h r else r.at n
  | t, _ => t
def Tr.ok1 : Tr → Prop
  | .err => False
  | _ => True
theorem Tr.at_self : ∀ t : Tr, t.at t.len = t
  | .yld d h r => by show (if r.len + 1 = r.len + 1 then Tr.yld d h r else _) = _; exact if_pos rfl
  | .done _ => rfl
  | .err => rfl
theorem Tr.at_next : ∀ {t : Tr} {d : D} {h : LH} {r : Tr}, t.at (r.len + 1) = .yld d h r → r.len + 1 ≤ t.len → t.at r.len = r
  | .yld d0 h0 r0, d, h, r, e, hn => by
    have e : (if r.len + 1 = r0.len + 1 then Tr.yld d0 h0 r0 else r0.at (r.len + 1)) = .yld d h r := e
    show (if r.len = r0.len + 1 then Tr.yld d0 h0 r0 else r0.at r.len) = r
    have hn : r.len + 1 ≤ r0.len + 1 := hn
    by_cases q : r.len + 1 = r0.len + 1
    · rw [if_pos q] at e
      cases e
      rw [if_neg (by omega)]
      exact Tr.at_self _
    · rw [if_neg q] at e
      rw [if_neg (by omega)]
      exact Tr.at_next e (by omega)
  | .done _, _, _, _, e, hn => absurd hn (by show ¬ _ ≤ 0; omega)
  | .err, _, _, _, e, hn => absurd hn (by show ¬ _ ≤ 0; omega)
def gxTr (vs : List Nat) (g : Gv) (mt : Bv) (me : Ev) (ρ : En) : List D → LH → Tr
  | [], h => .done h
  | d :: ds, h => match g d (wipeD ρ vs) h with
    | some (ρ2, h2) => (match mt ρ2 h2 with
      | .ok true h3 => (match me ρ2 h3 with
        | .ok y h4 => .yld y h4 (gxTr vs g mt me ρ ds h4)
        | _ => .err)
      | .ok false h3 => gxTr vs g mt me ρ ds h3
      | _ => .err)
    | none => .err

/-! ### its own frame -/
structure GxOk (N : List Str) (sc scope : Scope) (own : List (Str × Nat)) : Prop where
  kind : scope.kind = .function
  co : scope.isCoroutine = false
  cell : ∀ y ∈ scope.names, y.2 ≠ .cell
  dot : scope.names.lookup (".0" : Str) = some NameKind.local
  ix : ∀ p ∈ own, N[p.2]? = some p.1
  free : ∀ y ∈ scope.names, y.2 = .free → sc.names.lookup y.1 = some .cell ∨ sc.names.lookup y.1 = some .free
  own : ∀ y ∈ scope.names, y.2 = .local → y.1 ∈ own.map (·.1) ∨ y.1 ∉ N
def gxC (N : List Str) (sc scope : Scope) (own : List (Str × Nat)) : Bool :=
  decide (scope.kind = .function) && !scope.isCoroutine && (scope.names.all fun y => !decide (y.2 = .cell)) && decide (scope.names.lookup (".0" : Str) = some NameKind.local) && (own.all fun p => decide (N[p.2]? = some p.1)) &&
    (scope.names.all fun y => !decide (y.2 = .free) || decide (sc.names.lookup y.1 = some .cell) || decide (sc.names.lookup y.1 = some .free)) &&
    (scope.names.all fun y => !decide (y.2 = .local) || decide (y.1 ∈ own.map (·.1)) || decide (y.1 ∉ N))
theorem gxOk_by {N : List Str} {sc scope : Scope} {own : List (Str × Nat)} (h : gxC N sc scope own = true) : GxOk N sc scope own := by
  unfold gxC at h
  simp only [Bool.and_eq_true, Bool.or_eq_true, Bool.not_eq_true', decide_eq_true_eq, decide_eq_false_iff_not, List.all_eq_true] at h
  obtain ⟨⟨⟨⟨⟨⟨h1, h2⟩, h3⟩, h4⟩, h5⟩, h6⟩, h7⟩ := h
  refine ⟨h1, h2, h3, h4, h5, fun y hy e => ?_, fun y hy e => ?_⟩
  · rcases h6 y hy with (z | z) | z
    · exact absurd e z
    · exact .inl z
    · exact .inr z
  · rcases h7 y hy with (z | z) | z
    · exact absurd e z
    · exact .inl z
    · exact .inr z
abbrev gxEnv (X : Cx) (scope : Scope) (C : Addr) (code : Value) : Env := genEnv scope (cloFrom X.env.cells scope.names []) C code builtinsNs X.env
/-- its context: made at s, it runs below A -/
abbrev Cx.gx (X : Cx) (scope : Scope) (A : Around) (s : Shared) (H : Hp) (C : Addr) (code : Value) (fp : List Addr) (pn : List (Addr × Obj)) : Cx :=
  { X with A := A.deeper (gxEnv X scope C code), s_0 := s, H_0 := H, env := gxEnv X scope C code, outer := X.stack, stack := gxEnv X scope C code :: X.stack, ex := fp, fn := fun _ => false, calm := true, pn := pn, xe := fun _ _ => False }
theorem over_comp {A : Around} {e : Expr} {elt : Expr} {gs : List Comprehension} {scope : Scope} {pos : Pos} {it acc : Value} {env : Env} (he : e = .GeneratorExp elt gs scope pos) : A.over (.compLoop e 0 it acc env) [] = A.deeper env ∧ A.over (.compStart e 0 it acc env) [] = A.deeper env := by
  subst he
  exact ⟨rfl, rfl⟩
section
variable {X : Cx} {pins : List (Addr × Obj)} {σ : L2.St} {H : Hp} {s : Shared}
theorem gx_start {scope : Scope} {own : List (Str × Nat)} {fp : List Addr} {A : Around} {code : Value} {h' : Heap} {gn : Array GenState} {tk : Nat} {dr : Drawn} {m0 : Str → Option Value} {a : Addr} {go : Obj}
    (I : Inv X pins σ H s) (ok : GxOk X.N X.env.scope scope own) (hN : X.N.Nodup) (hfp : ∀ b ∈ fp, FpOk X pins H b ∧ b < s.heap.objs.size) (hA : A.handled = none) (hfr : A.frames = some X.stack)
    (kp : ∀ b o, s.heap.get? b = some o → h'.get? b = some o) (hns : h'.Ns s.heap.objs.size m0) (hb : AllBare gn)
    (hga : s.heap.objs.size < a) (hgo : h'.get? a = some go) (hgd : ∀ v, go.data ≠ .cell v) :
    Inv (Cx.gx X scope A s H s.heap.objs.size code fp [(a, go)]) [] (L2.wipe σ (own.map (·.2))) H { s with heap := h', gens := gn, toks := tk, drawn := dr } := by
  have hfree : ∀ y ∈ scope.names, y.2 = .free → ∃ c, X.env.cells.lookup y.1 = some c := fun y hy e => by
    rcases ok.free y hy e with k | k
    · exact I.ok.has _ (.inl k)
    · exact I.ok.has _ (.inr k)
  have cm : ∀ {y c}, (cloFrom X.env.cells scope.names []).lookup y = some c → X.env.cells.lookup y = some c ∧ c < s.heap.objs.size := fun {y c} e => by
    rcases cloFrom_mem (PySem.mem_of_lookup e) with hm | ⟨h1, h2⟩
    · cases hm
    · obtain ⟨c1, hc⟩ := hfree _ h1 rfl
      have hc : X.env.cells.lookup y = some c1 := hc
      have e2 : c = c1 := by rw [h2, hc] <;> rfl
      rw [e2]
      obtain ⟨w, z⟩ := I.cell _ _ hc
      exact ⟨hc, z.lt⟩
  have look : ∀ {y}, scope.names.lookup y = some .free → ∃ c, (cloFrom X.env.cells scope.names []).lookup y = some c := fun {y} hl => by
    have hy : (y, NameKind.free) ∈ scope.names := PySem.mem_of_lookup hl
    exact mem_lookup (cloFrom_has (cells := X.env.cells) (acc := []) hy)
  have hnA : H a = none := I.hok.fresh (Nat.le_of_lt hga)
  refine ⟨⟨I.ok.mod, ok.kind, I.ok.glob, rfl, Nat.le_refl _, fun y z c e1 e2 => I.ok.inj y z c (cm e1).1 (cm e2).1, fun y hy => ?_, fun y c z _ => ?_, fun _ => hA, Around.frames_deeper hfr, .inr ⟨rfl, rfl⟩, fun b hb => ⟨?_, fun y c e z => ?_⟩,
      I.bs, Nat.le_trans I.ok.bsz I.sz, fun b o e hb => ?_, fun b hb z => ?_, I.stack, I.stkFree⟩,
    rfl, hb, Un.kept kp, ⟨m0, hns, fun i y v e1 e2 e3 => ?_⟩, fun y c e => ?_, I.hok.fresh (Nat.le_refl _), fun y c e => ?_, fun p hp => ?_, I.hok.kept kp, by rw [L2.wipe_length]; exact I.len⟩
  · have hy : scope.names.lookup y = some .cell ∨ scope.names.lookup y = some .free := hy
    rcases hy with hy | hy
    · exact absurd rfl (ok.cell _ (PySem.mem_of_lookup hy))
    · exact look hy
  · have z : false = true := z
    cases z
  · show b ≠ s.heap.objs.size
    exact Nat.ne_of_lt (hfp b hb).2
  · exact (hfp b hb).1.2.2.2.2.1 y c (cm e).1 z
  · rcases (hfp b hb).1.2.2.2.1 with z | z
    · exact I.ok.noex b o e z
    · exact absurd (Nat.lt_of_lt_of_le (Heap.lt_size e) (Nat.le_trans I.ok.bsz z)) (Nat.lt_irrefl _)
  · rcases List.mem_cons.mp (I.stkSub b z) with z | z
    · exact (hfp b hb).1.2.1 z
    · exact (hfp b hb).1.2.2.1 z
  · obtain ⟨e2, hne⟩ := wipe_some e2
    have e3 : Vis scope y := e3
    rcases e3 with k | k | k
    · exfalso
      rcases ok.own _ (PySem.mem_of_lookup k) rfl with e' | e'
      · obtain ⟨p, hp, hpy⟩ := List.mem_map.mp e'
        have e3 := ok.ix p hp
        have : p.1 = y := hpy
        rw [this] at e3
        exact hne (List.mem_map.mpr ⟨p, hp, nodup_ix hN e3 e1⟩)
      · exact e' (List.mem_of_getElem? e1)
    · exact absurd rfl (ok.cell _ (PySem.mem_of_lookup k))
    · obtain ⟨m, hn, hl⟩ := I.loc
      have hvis : Vis X.env.scope y := (ok.free _ (PySem.mem_of_lookup k) rfl).elim (fun k => .inr (.inl k)) (fun k => .inr (.inr k))
      obtain ⟨w', r, q⟩ := hl i y v e1 e2 hvis
      obtain ⟨c2, h2⟩ := look k
      refine ⟨w', r, .inr ⟨.inr k, c2, h2, ?_⟩⟩
      have c1 := (cm h2).1
      rcases q with ⟨k', _⟩ | ⟨_, c3, e', z⟩
      · have k' : X.env.scope.names.lookup y = some .local := k'
        rcases ok.free _ (PySem.mem_of_lookup k) rfl with k2 | k2 <;> rw [show X.env.scope.names.lookup y = _ from k2] at k' <;> cases k'
      · rw [c1] at e'
        cases e'
        exact z.keeps kp
  · obtain ⟨w', z⟩ := I.cell y c (cm e).1
    exact ⟨w', z.keeps kp⟩
  · exact I.freeC y c (cm e).1
  · have hp : p ∈ [(a, go)] ++ [] := hp
    have ep : p = (a, go) := by simpa using hp
    rw [ep]
    exact ⟨hgo, hnA, Nat.ne_of_gt hga, fun z => by
      rcases List.mem_cons.mp (I.stkSub a z) with e | e
      · exact absurd (Nat.lt_of_lt_of_le I.lt (Nat.le_of_lt (e ▸ hga))) (Nat.lt_irrefl _)
      · exact I.nofs (Nat.le_of_lt hga) e, hgd⟩
end
end Sh

set_option Elab.async false
set_option linter.all false
set_option maxRecDepth 100000
set_option maxHeartbeats 4000000
/-! Sh8: a generator expression's turns. -/
namespace Sh
open PySem PySem.Spec PyProof.Rows L2 GenW

/-- while it sleeps its consumer changes what stands at hs alone -/
structure Slp (hs : List Addr) (s s' : Shared) : Prop where
  os : s'.os = s.os
  bare : AllBare s'.gens
  keep : ∀ b o, b ∉ hs → s.heap.get? b = some o → s'.heap.get? b = some o
  own : ∀ b ∈ hs, ∃ o, s'.heap.get? b = some o ∧ ∀ v, o.data ≠ .cell v
theorem Slp.trans {hs : List Addr} {s s1 s2 : Shared} (a : Slp hs s s1) (b : Slp hs s1 s2) : Slp hs s s2 :=
  ⟨b.os.trans a.os, b.bare, fun c o h e => b.keep c o h (a.keep c o h e), b.own⟩
/-- where they stand -/
structure HsOk (X' : Cx) (hs : List Addr) : Prop where
  new : ∀ b ∈ hs, X'.s_0.heap.objs.size ≤ b
  nL : ∀ b ∈ hs, b ≠ X'.env.locals
  nf : ∀ b ∈ hs, b ∉ X'.fs
  nc : ∀ b ∈ hs, ∀ x c, X'.env.cells.lookup x = some c → c ≠ b
  np : ∀ b ∈ hs, ∀ p ∈ X'.pn, p.1 ≠ b
  nx : ∀ b ∈ hs, b ∉ X'.ex
theorem inv_slp {X' : Cx} {hs : List Addr} {σ : L2.St} {H : Hp} {s s' : Shared} (ok : HsOk X' hs) (I : Inv X' [] σ H s) (hn : ∀ b ∈ hs, H b = none) (z : Slp hs s s') : Inv X' (pinsAt hs s'.heap) σ H s' := by
  obtain ⟨hh, g, d, t, o⟩ := s'
  obtain ⟨z1, z2, z3, z4⟩ := z
  have ho : o = s.os := z1
  subst ho
  have nt : ∀ b u, H b = some u → b ∉ hs := fun b u q hb => by rw [hn b hb] at q; cases q
  have J : Inv X' [] σ H { s with heap := hh, gens := g, drawn := d, toks := t } := by
    refine I.step (g' := g) (t' := t) (d' := d) (ch := hs) (fun b hb => ⟨.inr (ok.new b hb), ok.nL b hb, fun x c e => ok.nc b hb x c e, fun p hp => ?_⟩)
      (fun b ob _ _ hc q _ => z3 b ob hc q) (fun b ob _ _ hc q _ => ⟨ob.slots, z3 b ob hc q⟩) (fun _ _ _ _ n => n) (fun b ob hc q => ⟨ob, z3 b ob hc q⟩)
      (fun _ _ q => q) (fun _ _ _ q => q) (fun b ps q => ⟨#[], by rw [q]; simp⟩) (fun m hm => ?_) (fun b u q => ?_) z2
    · rw [List.append_nil] at hp
      exact ok.np b hb p hp
    · obtain ⟨ob, es, ep, ho, r⟩ := hm
      exact ⟨ob, es, ep, z3 _ ob (fun z => ok.nL _ z rfl) ho, r⟩
    · refine (I.hok b u q).stay (fun c v hc y => z3 c v ?_ y) (fun _ y => y) fun _ _ y => y
      rcases hc with y | y
      · rw [y]; exact nt b u q
      · exact nt c _ y
  have J2 := J.pinned (fp := hs) (fun b hb => ⟨hn b hb, ok.nL b hb, ok.nf b hb, .inr (ok.new b hb), fun x c e => ok.nc b hb x c e, fun p hp => ?_⟩) z4
  · exact J2
  · rw [List.append_nil] at hp
    exact ok.np b hb p hp

section
variable {X X' : Cx} {T : Tb} {A0 : Around} {hs : List Addr} {G1 : Gh} {tr0 : Tr} {a : Addr} {g : Nat} {Hi : List Value → Heap → Prop}
/-- a result is handed out -/
def GxY (X' : Cx) (T : Tb) (G1 : Gh) (hs : List Addr) (Hi : List Value → Heap → Prop) (tr0 : Tr) : Protocol := fun n s₀ v s1 kap =>
  ∃ d h r G σ H x, tr0.at (n + 1) = .yld d h r ∧ r.len = n ∧ G1.le G ∧ RH X'.K T G h H ∧ RD X'.K G d x ∧ RelV x v ∧ Inv X' (pinsAt hs s₀.heap) σ H s1 ∧ ∃ us xs pre, Hi us s₀.heap ∧ Vals xs us ∧ RDs X'.K G pre xs ∧ pre ++ d :: r.all = tr0.all ∧ ∀ s'', Slp hs s1 s'' → Hi (us ++ [v]) s''.heap → r.ok1 → kap (.send .none) s''
/-- it is at its end -/
def GxE (X' : Cx) (T : Tb) (G1 : Gh) (hs : List Addr) (Hi : List Value → Heap → Prop) (tr0 : Tr) : Nat → Shared → Shared → Prop := fun n s₀ s1 =>
  n = 0 ∧ ∃ h G σ H, tr0.at 0 = .done h ∧ G1.le G ∧ RH X'.K T G h H ∧ Inv X' (pinsAt hs s₀.heap) σ H s1 ∧ ∃ us xs, Hi us s₀.heap ∧ Vals xs us ∧ RDs X'.K G tr0.all xs
/-- its turns -/
structure GxP (X' : Cx) (T : Tb) (A0 : Around) (G1 : Gh) (hs : List Addr) (tr0 : Tr) (elt tg iter : Expr) (ifs : List Expr) (scope : Scope) (gpos : Pos) (it : Addr) (fp : List Addr) (tn : Nat → Heap → Prop) (J : It) (ds : List D) (vs : List Nat) (g : Gv) (mt : Bv) (me : Ev) (ρ : En) (σ : L2.St) : Prop where
  A : X'.A = A0.deeper X'.env
  hA : A0.handled = none
  calm : X'.calm = true
  xe : X'.xe = fun _ _ => False
  co : X'.env.scope.isCoroutine = false
  hs : HsOk X' hs
  ex : X'.ex = fp
  fpn : ∀ b ∈ fp, ∀ p ∈ X'.pn, p.1 ≠ b
  tu : Turn X'.prog X'.w X'.K tg J fp it tn
  jk : JOk X'.K T G1 J ⟨ds, none⟩
  re : RE X'.K G1 ρ σ
  g : DX X' T vs tg g
  t : DTs X' T ifs mt
  e : DE X' T W0 elt me
variable {elt tg iter : Expr} {ifs : List Expr} {scope : Scope} {gpos : Pos} {it : Addr} {fp : List Addr} {tn : Nat → Heap → Prop} {J : It} {ds : List D} {vs : List Nat} {gt : Gv} {mt : Bv} {me : Ev} {ρ : En} {σ : L2.St}
theorem mem_pins {l r : List (Addr × Obj)} {p : Addr × Obj} (h : p ∈ r) : p ∈ l ++ r := List.mem_append_right _ h
theorem thnX {α : Type} {t : Sem α} {Q Q' : α → Shared → Prop} {M : Model} {A : Around} {E xe : Value → Shared → Prop} {s : Shared} (hx : xe = fun _ _ => False) (h : wpAny M A t Q xe s) (hQ : ∀ a s, Q a s → Q' a s) : wpAny M A t Q' E s := thnF (by rw [hx] at h; exact h) hQ
theorem gx_seg (P : GxP X' T A0 G1 hs tr0 elt tg iter ifs scope gpos it fp tn J ds vs gt mt me ρ σ) : ∀ (k i n : Nat) (s₀ s : Shared) (H : Hp) (G : Gh) (h : LH) (us : List Value) (xs : List V) (pre : List D), ds.length - i = k → i ≤ ds.length → G1.le G → RH X'.K T G h H →
    Inv X' (pinsAt hs s₀.heap) (L2.wipe σ vs) H s → (∀ b ∈ fp, H b = none) → (∀ b ∈ hs, ∃ o, s₀.heap.get? b = some o) → tn i s.heap → (gxTr vs gt mt me ρ (ds.drop i) h).ok1 → tr0.at n = gxTr vs gt mt me ρ (ds.drop i) h → n = (gxTr vs gt mt me ρ (ds.drop i) h).len → n ≤ tr0.len → Hi us s₀.heap → Vals xs us → RDs X'.K G pre xs → pre ++ (gxTr vs gt mt me ρ (ds.drop i) h).all = tr0.all →
    Seg (model X'.prog X'.w) A0 (fun n s₀ r s₁ => r = .ok .next ∧ GxE X' T G1 hs Hi tr0 n s₀ s₁) (GxY X' T G1 hs Hi tr0) n s₀
      (.compLoop (.GeneratorExp elt [⟨tg, iter, ifs, 0⟩] scope gpos) 0 (.ref it) .none X'.env)
      ((model X'.prog X'.w).den (.compLoop (.GeneratorExp elt [⟨tg, iter, ifs, 0⟩] scope gpos) 0 (.ref it) .none X'.env)) [] s := by
  have stat : ∀ {σ' : L2.St} {H' : Hp} {s₀ s' : Shared}, Inv X' (pinsAt hs s₀.heap) σ' H' s' → (∀ b ∈ fp, H' b = none) → (∀ b ∈ fp, ∀ p ∈ X'.pn ++ pinsAt hs s₀.heap, p.1 ≠ b) → ∀ b ∈ fp, FpOk X' (pinsAt hs s₀.heap) H' b := fun {σ' H' s₀ s'} I' hn hp b hb =>
    ⟨hn b hb, (I'.ok.exf b (by rw [P.ex]; exact hb)).1, I'.ok.exfs b (by rw [P.ex]; exact hb), .inl (by rw [P.ex]; exact hb), fun x c e => (I'.ok.exf b (by rw [P.ex]; exact hb)).2 x c e, hp b hb⟩
  have nfp : ∀ (s₀ : Shared), ∀ b ∈ fp, ∀ p ∈ X'.pn ++ pinsAt hs s₀.heap, p.1 ≠ b := fun s₀ b hb p hp => by
    rcases List.mem_append.mp hp with z | z
    · exact P.fpn b hb p z
    · intro e
      exact P.hs.nx p.1 (of_pinsAt z).1 (by rw [P.ex, e]; exact hb)
  intro k
  induction k with
  | zero =>
    intro i n s₀ s H G h us xs pre hk hi l1 rh I nf ho st ok1 ea en hn hU hV hR hP
    have ei : i = ds.length := by omega
    subst ei
    rw [List.drop_length] at ea en ok1 hP
    have en : n = 0 := en
    subst en
    show Seg _ A0 _ _ _ s₀ _ ((compTurn (.GeneratorExp elt [⟨tg, iter, ifs, 0⟩] scope gpos) 0 (.ref it) .none X'.env).onRaise (leaving X'.env)) [] s
    rw [compTurn_gen, Sem.onRaise_eq_wrap]
    refine seg_bind_wrap (wpAny_standAt ?_)
    refine seg_bind_wrap ?_
    rw [(over_comp (A := A0) rfl).1, ← P.A]
    obtain ⟨_, j2⟩ := P.jk G h H l1.w rh (fun n e => nomatch e) ds.length
    refine thnF (P.tu.done X' rfl rfl rfl P.calm ds.length _ s _ H (fun _ _ => False) I (stat I nf (nfp s₀)) st (j2 (Nat.le_refl _))) fun r s1 ⟨hr, I1⟩ => ?_
    subst hr
    exact seg_end (.ok .next) ⟨rfl, rfl, h, G, _, H, ea, l1, rh, I1, us, xs, hU, hV, by rw [← hP]; show RDs _ _ (pre ++ []) _; rw [List.append_nil]; exact hR⟩
  | succ k ih =>
    intro i n s₀ s H G h us xs pre hk hi l1 rh I nf ho st ok1 ea en hn hU hV hR hP
    have hlt : i < ds.length := by omega
    rw [List.drop_eq_getElem_cons hlt] at ea en ok1 hP
    unfold gxTr at ea en ok1 hP
    obtain ⟨j1, _⟩ := P.jk G h H l1.w rh (fun n e => nomatch e) i
    obtain ⟨go, yl⟩ := j1 ds[i] (List.getElem?_eq_getElem hlt)
    show Seg _ A0 _ _ _ s₀ _ ((compTurn (.GeneratorExp elt [⟨tg, iter, ifs, 0⟩] scope gpos) 0 (.ref it) .none X'.env).onRaise (leaving X'.env)) [] s
    rw [compTurn_gen, Sem.onRaise_eq_wrap]
    refine seg_bind_wrap (wpAny_standAt ?_)
    refine seg_bind_wrap ?_
    rw [(over_comp (A := A0) rfl).1, ← P.A]
    refine thnF (P.tu.item X' rfl rfl rfl P.calm i _ s _ H (fun _ _ => False) I (stat I nf (nfp s₀)) st go) fun r s1 ⟨u, hr, h1⟩ => ?_
    subst hr
    refine seg_bind_wrap ?_
    rw [(over_comp (A := A0) rfl).1, ← P.A]
    refine thnF h1 fun _ s2 ⟨x, H2, I2, r2, y2, st2, n2⟩ => ?_
    obtain ⟨G2, l2, rh2, rd2⟩ := yl x H2 y2
    have I2' := I2.pinned (stat I2 n2 (nfp s₀)) (P.tu.obj _ _ st2)
    -- the turn's end
    have fin : ∀ {s' : Shared} {σ' : L2.St} {H' : Hp}, Inv X' (pinsAt hs s₀.heap ++ pinsAt fp s2.heap) σ' H' s' → L2.wipe σ' vs = L2.wipe σ vs → Inv X' (pinsAt hs s₀.heap) (L2.wipe σ vs) H' s' ∧ tn (i + 1) s'.heap ∧ ∀ b ∈ fp, H' b = none := fun {s' σ' H'} I' hw => by
      have pin' : ∀ b ∈ fp, ∀ o, s2.heap.get? b = some o → s'.heap.get? b = some o ∧ H' b = none := fun b hb o e =>
        let z := I'.pin (b, o) (List.mem_append_right _ (List.mem_append_right _ (mem_pinsAt hb e)))
        ⟨z.1, z.2.1⟩
      have hl : (L2.wipe σ vs).length = σ'.length := by rw [← hw, L2.wipe_length]
      refine ⟨(I'.unpinned).weak hl (fun j v e => ?_), P.tu.keep _ _ _ st2 fun b hb o e => (pin' b hb o e).1, fun b hb => ?_⟩
      · rw [← hw] at e
        exact (wipe_some e).1
      · obtain ⟨o, e, _⟩ := P.tu.obj _ _ st2 b hb
        exact (pin' b hb o e).2
    cases e1 : gt ds[i] (wipeD ρ vs) h with
    | none => rw [e1] at ok1; exact ok1.elim
    | some q =>
      obtain ⟨ρ3, h3⟩ := q
      rw [e1] at ea en ok1 hP
      refine seg_bind_wrap ?_
      rw [(over_comp (A := A0) rfl).1, ← P.A]
      refine thnX P.xe (P.g.p.run _ s2 _ H2 x u (fun σ3 H3 => L2.wipe σ3 vs = L2.wipe σ vs ∧ ∃ G3, G2.le G3 ∧ RE X'.K G3 ρ3 σ3 ∧ RH X'.K T G3 h3 H3) I2' r2 ⟨G2, wipeD ρ vs, h, ds[i], ((P.re.mono l1).wipe vs).monow l2.w, rh2, rd2, ?_⟩) fun _ s3 ⟨σ3, H3, I3, hw3, G3, l3, re3, rh3⟩ => ?_
      · rw [e1]
        exact fun G' H' σ' l re rh ew => ⟨ew.trans wipe_idem, G', l, re, rh⟩
      refine seg_bind_wrap ?_
      rw [(over_comp (A := A0) rfl).1, ← P.A]
      cases e2 : mt ρ3 h3 with
      | exc c h4 => simp only [e2] at ok1; exact ok1.elim
      | err => simp only [e2] at ok1; exact ok1.elim
      | ok b h4 =>
        simp only [e2] at ea en ok1 hP
        refine thnX P.xe (P.t.p.run _ s3 σ3 H3 (fun b' H4 => b' = b ∧ ∃ G4, G3.le G4 ∧ RH X'.K T G4 h4 H4) I3 ⟨G3, ρ3, h3, re3, rh3, ?_⟩) fun b' s4 ⟨H4, I4, eb, G4, l4, rh4⟩ => ?_
        · rw [e2]
          exact fun G' H' l rh => ⟨rfl, G', l, rh⟩
        subst eb
        have l14 : G1.le G4 := ((l1.trans l2).trans l3).trans l4
        cases b' with
        | false =>
          simp only [Bool.false_eq_true, if_false]
          obtain ⟨J1, J2, J3⟩ := fin I4 hw3
          exact seg_again rfl (ih (i + 1) n s₀ s4 H4 G4 h4 us xs pre (by omega) hlt l14 rh4 J1 J3 ho J2 ok1 ea en hn hU hV (hR.mono ((l2.trans l3).trans l4)) hP)
        | true =>
          simp only [if_true]
          cases e3 : me ρ3 h4 with
          | exc c h5 => simp only [e3] at ok1; exact ok1.elim
          | err => simp only [e3] at ok1; exact ok1.elim
          | ok y h5 =>
            simp only [e3] at ea en ok1 hP
            have en : n = (gxTr vs gt mt me ρ (ds.drop (i + 1)) h5).len + 1 := en
            obtain ⟨m, em⟩ : ∃ m, m = (gxTr vs gt mt me ρ (ds.drop (i + 1)) h5).len := ⟨_, rfl⟩
            rw [← em] at en
            subst en
            have hy : ∀ v, yieldOut X'.env v = yieldValue v := fun v => by simp only [yieldOut, P.co, Bool.false_eq_true, if_false]
            simp only [hy]
            rw [Sem.bind_eq_wrap', Sem.bind_eq_wrap', Sem.wrap_wrap, Sem.wrap_wrap]
            refine seg_wrap ?_
            rw [(over_comp (A := A0) rfl).1, ← P.A]
            refine thnX P.xe (P.e.p.run _ s4 σ3 H4 (fun z H5 => ∃ G5, G4.le G5 ∧ RH X'.K T G5 h5 H5 ∧ RD X'.K G5 y z) I4 ⟨G4, ρ3, h4, re3.mono l4, rh4, ?_⟩) fun v s5 ⟨z, H5, I5, r5, G5, l5, rh5, rd5⟩ => ?_
            · rw [e3]
              exact fun G' H' v l rh rd => ⟨G', l, rh, rd⟩
            have l15 := l14.trans l5
            obtain ⟨J1, J2, J3⟩ := fin I5 hw3
            refine seg_at (seg_yield rfl rfl rfl ⟨y, h5, _, G5, _, H5, z, ea, em.symm, l15, rh5, rd5, r5, J1, us, xs, pre, hU, hV, hR.mono (((l2.trans l3).trans l4).trans l5), hP, fun s'' zz hU2 ok2 => ?_⟩)
            have nhs : ∀ b ∈ hs, H5 b = none := fun b hb => by
              obtain ⟨o, e⟩ := ho b hb
              exact (J1.pin (b, o) (List.mem_append_right _ (mem_pinsAt hb e))).2.1
            have J4 : Inv X' (pinsAt hs s''.heap) (L2.wipe σ vs) H5 s'' := inv_slp P.hs (Inv.unpinned (pins := []) (pl := pinsAt hs s₀.heap) J1) nhs zz
            have ea2 : tr0.at ((gxTr vs gt mt me ρ (ds.drop (i + 1)) h5).len + 1) = .yld y h5 (gxTr vs gt mt me ρ (ds.drop (i + 1)) h5) := by rw [← em]; exact ea
            refine seg_again rfl (ih (i + 1) m s'' s'' H5 G5 h5 (us ++ [v]) (xs ++ [z]) (pre ++ [y]) (by omega) hlt l15 rh5 J4 J3 (fun b hb => let ⟨o, e, _⟩ := zz.own b hb; ⟨o, e⟩) ?_ ok2 ?_ em (by omega) hU2 (hV.append (.cons r5 .nil)) ((hR.mono (((l2.trans l3).trans l4).trans l5)).append (.cons rd5 .nil)) (by rw [List.append_assoc]; exact hP))
            · refine P.tu.keep _ _ _ J2 fun b hb o e => zz.keep b o (fun hm => P.hs.nx b hm (by rw [P.ex]; exact hb)) e
            · rw [em]; exact Tr.at_next ea2 (by omega)
end
end Sh

set_option Elab.async false
set_option linter.all false
set_option maxRecDepth 100000
set_option maxHeartbeats 4000000
/-! Sh9: a generator expression's consumers. -/
namespace Sh
open PySem PySem.Spec PyProof.Rows L2 GenW

theorem inv_gens {X : Cx} {pins : List (Addr × Obj)} {σ : L2.St} {H : Hp} {s : Shared} {gn : Array GenState} (I : Inv X pins σ H s) (h : AllBare gn) : Inv X pins σ H { s with gens := gn } :=
  ⟨I.ok, I.os, h, I.base, I.loc, I.cell, I.free, I.freeC, I.pin, I.hok, I.len⟩
/-- the consumer's own steps -/
structure Own (hs : List Addr) (s s' : Shared) : Prop where
  os : s'.os = s.os
  gens : s'.gens = s.gens
  keep : ∀ b o, b ∉ hs → s.heap.get? b = some o → s'.heap.get? b = some o
  own : ∀ b ∈ hs, ∃ o, s'.heap.get? b = some o ∧ ∀ v, o.data ≠ .cell v
structure GxAt (X : Cx) (pins : List (Addr × Obj)) (σ : L2.St) (T : Tb) (A : Around) (a : Addr) (hs : List Addr) (Hi : List Value → Heap → Prop) (G0 : Gh) (all : List D) (h : LH) (tr : Tr) (s : Shared) : Prop where
  ex : ∃ (scope : Scope) (s0 : Shared) (H0 : Hp) (C : Addr) (code : Value) (fp : List Addr) (go : Obj) (G1 G : Gh) (tr0 : Tr) (g n : Nat) (gs : GenState) (H : Hp) (σ' : L2.St) (us : List Value),
    HsOk (Cx.gx X scope A.in1 s0 H0 C code fp [(a, go)]) hs ∧ G0.le G1 ∧ G1.le G ∧ RH X.K T G h H ∧ Inv (Cx.gx X scope A.in1 s0 H0 C code fp [(a, go)]) [] σ' H s ∧ (∀ b ∈ hs, H b = none ∧ ∃ o, s.heap.get? b = some o ∧ ∀ v, o.data ≠ .cell v) ∧ tr0.all = all ∧
    tr0.at n = tr ∧ n = tr.len ∧ n ≤ tr0.len ∧ (∀ h : Heap, h.get? a = some go → h.IsGen a g) ∧ s.gens[g]? = some gs ∧ Hi us s.heap ∧
    (∀ s'', Slp hs s s'' → Hi us s''.heap → tr.ok1 → gs.Goes (model X.prog X.w) A.in1 (fun n s₀ r s₁ => r = .ok .next ∧ GxE (Cx.gx X scope A.in1 s0 H0 C code fp [(a, go)]) T G1 hs Hi tr0 n s₀ s₁) (GxY (Cx.gx X scope A.in1 s0 H0 C code fp [(a, go)]) T G1 hs Hi tr0) n (.send .none) s'') ∧
    ∀ σ' H' s', Inv (Cx.gx X scope A.in1 s0 H0 C code fp [(a, go)]) [] σ' H' s' → Inv X pins σ H' s'
/-- what a consumer's tale of the results must stand -/
structure HiOk (hs : List Addr) (Hi : List Value → Heap → Prop) : Prop where
  st : ∀ us (h h' : Heap), (∀ b ∈ hs, ∀ o, h.get? b = some o → h'.get? b = some o) → Hi us h → Hi us h'
  ex : ∀ us v (s : Shared), AllBare s.gens → (∀ b ∈ hs, ∃ o, s.heap.get? b = some o ∧ ∀ v, o.data ≠ .cell v) → Hi us s.heap → ∃ s'', Slp hs s s'' ∧ Hi (us ++ [v]) s''.heap
/-- where the consumer stops -/
def GxFin (X : Cx) (pins : List (Addr × Obj)) (σ : L2.St) (T : Tb) (G : Gh) (h : LH) (s : Shared) : Prop := ∃ H, RH X.K T G h H ∧ Inv X pins σ H s
section
variable {X : Cx} {pins : List (Addr × Obj)} {σ : L2.St} {T : Tb} {A : Around} {a : Addr} {hs : List Addr} {Hi : List Value → Heap → Prop} {G0 : Gh} {all : List D} {h h' : LH} {tr r : Tr} {d : D} {s : Shared} {E : Value → Shared → Prop}
theorem GxAt.isGen (q : GxAt X pins σ T A a hs Hi G0 all h tr s) : s.TypeIs (.ref a) "generator" ∧ ∃ g, s.heap.IsGen a g := by
  obtain ⟨scope, s0, H0, C, code, fp, go, G1, G, tr0, g, n, gs, H, σ', us, _, _, _, _, I, _, _, _, _, _, hg, _⟩ := q.ex
  have e := (I.pin (a, go) (List.mem_append_left _ (List.mem_singleton.mpr rfl))).1
  exact ⟨(hg _ e).typeIs, g, hg _ e⟩
theorem GxAt.fin (q : GxAt X pins σ T A a hs Hi G0 all h tr s) : ∃ G, G0.le G ∧ GxFin X pins σ T G h s := by
  obtain ⟨scope, s0, H0, C, code, fp, go, G1, G, tr0, g, n, gs, H, σ', us, _, l1, l2, rh, I, _, _, _, _, _, hg, _, _, _, bk⟩ := q.ex
  exact ⟨G, l1.trans l2, H, rh, bk _ _ _ I⟩
theorem slp_run {hs : List Addr} {s : Shared} {g : Nat} (hb : AllBare s.gens) (ho : ∀ b ∈ hs, ∃ o, s.heap.get? b = some o ∧ ∀ v, o.data ≠ .cell v) : Slp hs s (s.setGen g .running) :=
  ⟨rfl, allBare_setGen hb rfl, fun _ _ _ e => e, ho⟩
theorem GxAt.own (q : GxAt X pins σ T A a hs Hi G0 all h tr s) (hHi : ∀ us, Hi us s.heap → ∀ s2, Own hs s s2 → Hi us s2.heap) {s2 : Shared} (z : Own hs s s2) : GxAt X pins σ T A a hs Hi G0 all h tr s2 := by
  obtain ⟨scope, s0, H0, C, code, fp, go, G1, G, tr0, g, n, gs, H, σ', us, hok, l1, l2, rh, I, ho, ea, e1, e2, e3, hg, hgs, hU, wake, bk⟩ := q.ex
  have zs : Slp hs s s2 := ⟨z.os, by rw [z.gens]; exact I.bare, z.keep, z.own⟩
  refine ⟨scope, s0, H0, C, code, fp, go, G1, G, tr0, g, n, gs, H, σ', us, hok, l1, l2, rh, Inv.unpinned (pins := []) (inv_slp hok I (fun b hb => (ho b hb).1) zs), fun b hb => ⟨(ho b hb).1, z.own b hb⟩, ea, e1, e2, e3, hg, by rw [z.gens]; exact hgs, hHi us hU s2 z, fun s'' z2 => wake s'' (zs.trans z2), bk⟩
/-- the next result -/
theorem GxAt.yield (q : GxAt X pins σ T A a hs Hi G0 all h tr s) (etr : tr = .yld d h' r) (hA : A.handled = none) (hroom : A.depth < recursionLimit) {Q : Option Value → Shared → Prop}
    (k : ∀ v x s1 G us, G0.le G → RelV x v → RD X.K G d x → (∀ b ∈ hs, ∀ o, s.heap.get? b = some o → s1.heap.get? b = some o) → GxFin X pins σ T G h' s1 → Hi us s.heap → AllBare s1.gens →
      (∀ s2, Own hs s1 s2 → Hi (us ++ [v]) s2.heap → GxAt X pins σ T A a hs Hi G0 all h' r s2) → Q (some v) s1) : wpAny (model X.prog X.w) A (pyNext (.ref a)) Q E s := by
  obtain ⟨scope, s0, H0, C, code, fp, go, G1, G, tr0, g, n, gs, H, σ', us, hok, l1, l2, rh, I, ho, ea, e1, e2, e3, hg, hgs, hU, wake, bk⟩ := q.ex
  subst etr
  have eg := (I.pin (a, go) (List.mem_append_left _ (List.mem_singleton.mpr rfl))).1
  have hgl : g < s.gens.size := (Array.getElem?_eq_some_iff.mp hgs).1
  have e2 : n = r.len + 1 := e2
  subst e2
  refine wpAny_gsz (n := g + 1) hgl (wpAny_pyNext_genexpQ (Y := GxY (Cx.gx X scope A.in1 s0 H0 C code fp [(a, go)]) T G1 hs Hi tr0) (P := GxE (Cx.gx X scope A.in1 s0 H0 C code fp [(a, go)]) T G1 hs Hi tr0) hA I.nolimit hroom (hg _ eg) hgs (wake _ (slp_run I.bare fun b hb => (ho b hb).2) hU trivial) (fun v s₁ gs' hb hv => ?_) (fun s₁ hp h'' hk => ?_))
  · intro hsz
    obtain ⟨d2, h2, r2, G2, σ2, H2, x, y1, y2, y3, y4, y5, y6, I2, us2, xs2, pre2, u1, u2, u3, u4, kap⟩ := hv
    have y1 : tr0.at (r.len + 1) = .yld d2 h2 r2 := y1
    rw [e1] at y1
    cases y1
    have hsz' : (s₁.setGen g gs').gens.size = s₁.gens.size := GenW.setGen_size _ _ _
    have hg1 : g < s₁.gens.size := by
      have : g + 1 ≤ (s₁.setGen g gs').gens.size := hsz
      omega
    have hp2 : ∀ b ∈ hs, ∀ o, s.heap.get? b = some o → s₁.heap.get? b = some o ∧ H2 b = none ∧ ∀ v, o.data ≠ .cell v := fun b hb o e => by
      obtain ⟨p1, p2, _, _, p5⟩ := I2.pin (b, o) (List.mem_append_right _ (mem_pinsAt hb e))
      exact ⟨p1, p2, p5⟩
    have I3 : Inv (Cx.gx X scope A.in1 s0 H0 C code fp [(a, go)]) [] σ2 H2 (s₁.setGen g gs') := inv_gens (Inv.unpinned (pins := []) (pl := pinsAt hs (s.setGen g .running).heap) I2) (allBare_setGen I2.bare hb)
    have hn2 : ∀ b ∈ hs, H2 b = none := fun b hb => by
      obtain ⟨o, e, _⟩ := (ho b hb).2
      exact (hp2 b hb o e).2.1
    refine k v x _ G2 us2 (l1.trans y3) y6 y5 (fun b hb o e => (hp2 b hb o e).1) ⟨H2, y4, bk _ _ _ I3⟩ u1 I3.bare fun s2 z hU2 => ?_
    have zs : Slp hs (s₁.setGen g gs') s2 := ⟨z.os, by rw [z.gens]; exact I3.bare, z.keep, z.own⟩
    refine ⟨scope, s0, H0, C, code, fp, go, G1, G2, tr0, g, r.len, gs', H2, σ2, us2 ++ [v], hok, l1, y3, y4, Inv.unpinned (pins := []) (inv_slp hok I3 hn2 zs), fun b hb => ⟨hn2 b hb, z.own b hb⟩, ea, Tr.at_next e1 e3, rfl, by omega, hg, ?_, hU2, fun s'' z2 hU3 ok1 => ?_, bk⟩
    · rw [z.gens]; exact setGen_at hg1
    · exact kap s'' ⟨z2.os.trans z.os, z2.bare, fun b o hb e => z2.keep b o hb (z.keep b o hb e), z2.own⟩ hU3 ok1
  · exact absurd hp.1 (Nat.succ_ne_zero _)
/-- it is at its end -/
theorem GxAt.done (q : GxAt X pins σ T A a hs Hi G0 all h tr s) (hk : HiOk hs Hi) (etr : tr = .done h') (hA : A.handled = none) (hroom : A.depth < recursionLimit) {Q : Option Value → Shared → Prop}
    (k : ∀ s1 G us xs, G0.le G → GxFin X pins σ T G h' s1 → (∀ b ∈ hs, ∀ o, s.heap.get? b = some o → s1.heap.get? b = some o) → Hi us s.heap → Vals xs us → RDs X.K G all xs → AllBare s1.gens → Q none s1) : wpAny (model X.prog X.w) A (pyNext (.ref a)) Q E s := by
  obtain ⟨scope, s0, H0, C, code, fp, go, G1, G, tr0, g, n, gs, H, σ', us, hok, l1, l2, rh, I, ho, ea, e1, e2, e3, hg, hgs, hU, wake, bk⟩ := q.ex
  subst etr
  have eg := (I.pin (a, go) (List.mem_append_left _ (List.mem_singleton.mpr rfl))).1
  have e2 : n = 0 := e2
  subst e2
  refine wpAny_pyNext_genexpQ (Y := GxY (Cx.gx X scope A.in1 s0 H0 C code fp [(a, go)]) T G1 hs Hi tr0) (P := GxE (Cx.gx X scope A.in1 s0 H0 C code fp [(a, go)]) T G1 hs Hi tr0) hA I.nolimit hroom (hg _ eg) hgs (wake _ (slp_run I.bare fun b hb => (ho b hb).2) hU trivial) (fun v s₁ gs' hb hv => ?_) (fun s₁ hp h'' hk => ?_)
  · obtain ⟨d2, h2, r2, G2, σ2, H2, x, y1, y2, y3, y4, y5, y6, I2, us2, xs2, pre2, u1, u2, u3, u4, kap⟩ := hv
    exfalso
    have y1 : tr0.at 1 = .yld d2 h2 r2 := y1
    have y2 : r2.len = 0 := y2
    have hlen : r2.len + 1 ≤ tr0.len := by
      rw [y2]
      cases tr0 with
      | yld _ _ r0 => show 0 + 1 ≤ r0.len + 1; omega
      | done _ => cases y1
      | err => cases y1
    have y1' : tr0.at (r2.len + 1) = .yld d2 h2 r2 := by rw [y2]; exact y1
    have er := Tr.at_next y1' hlen
    rw [y2, e1] at er
    have hp2 : ∀ b ∈ hs, ∀ o, (s.setGen g .running).heap.get? b = some o → s₁.heap.get? b = some o := fun b hb o e => (I2.pin (b, o) (List.mem_append_right _ (mem_pinsAt hb e))).1
    obtain ⟨s'', z1, z2⟩ := hk.ex us2 v s₁ I2.bare (fun b hb => let ⟨o, e, d⟩ := (ho b hb).2; ⟨o, hp2 b hb o e, d⟩) (hk.st us2 _ _ hp2 u1)
    exact kap s'' z1 z2 (by rw [← er]; trivial)
  · obtain ⟨_, h2, G2, σ2, H2, q1, q2, q3, I2, us2, xs2, u1, u2, u3⟩ := hp
    rw [e1] at q1
    cases q1
    have I3 : Inv (Cx.gx X scope A.in1 s0 H0 C code fp [(a, go)]) [] σ2 H2 { s₁.setGen g .finished with heap := h'' } := by
      have J := inv_gens (Inv.unpinned (pins := []) (pl := pinsAt hs (s.setGen g .running).heap) I2) (allBare_setGen (g := g) (x := .finished) I2.bare rfl)
      exact J.kept (t' := s₁.toks) (h' := h'') fun b o e => hk b o e
    refine k _ G2 us2 xs2 (l1.trans q2) ⟨H2, q3, bk _ _ _ I3⟩ (fun b hb o e => hk b o ((I2.pin (b, o) (List.mem_append_right _ (mem_pinsAt hb e))).1)) u1 u2 (by rw [← ea]; exact u3) I3.bare
end
end Sh

set_option Elab.async false
set_option linter.all false
set_option maxRecDepth 100000
set_option maxHeartbeats 4000000
/-! Sh10: a generator expression is made; any, all. -/
namespace Sh
open PySem PySem.Spec PyProof.Rows L2 GenW

theorem n_le2 {x y : Nat} (h : x + 1 + 1 ≤ y) : x ≤ y := by omega
theorem n_ne2 {x y : Nat} (h : x + 1 + 1 ≤ y) : y ≠ x := by omega
theorem n_ne1 {x y z : Nat} (e : z = x + 1) (h : x + 1 + 1 ≤ y) : z ≠ y := by omega
theorem n_lt2 {x y : Nat} (h : x + 1 + 1 ≤ y) (l : y < x) : False := by omega
theorem n_ne3 {x y z : Nat} (e : z = x + 1) (l : y < x) : z ≠ y := by omega
structure GxB (X : Cx) (T : Tb) (scope : Scope) (vs : List Nat) (tg : Expr) (ifs : List Expr) (elt : Expr) (g : Gv) (mt : Bv) (me : Ev) (j : Nat) : Prop where
  g : ∀ (A : Around) (s : Shared) (H : Hp) (C : Addr) (code : Value) (fp : List Addr) (pn : List (Addr × Obj)), Room j (A.deeper (gxEnv X scope C code)) → DX (Cx.gx X scope A s H C code fp pn) T vs tg g
  t : ∀ (A : Around) (s : Shared) (H : Hp) (C : Addr) (code : Value) (fp : List Addr) (pn : List (Addr × Obj)), Room j (A.deeper (gxEnv X scope C code)) → DTs (Cx.gx X scope A s H C code fp pn) T ifs mt
  e : ∀ (A : Around) (s : Shared) (H : Hp) (C : Addr) (code : Value) (fp : List Addr) (pn : List (Addr × Obj)), Room j (A.deeper (gxEnv X scope C code)) → DE (Cx.gx X scope A s H C code fp pn) T W0 elt me
/-- the generator stands before its turns: whoever consumes it -/
structure GxNew (X : Cx) (pins : List (Addr × Obj)) (σ : L2.St) (T : Tb) (j : Nat) (a : Addr) (G0 : Gh) (h : LH) (tr : Tr) (s5 : Shared) : Prop where
  fin : GxFin X pins σ T G0 h s5
  gen : s5.TypeIs (.ref a) "generator"
  isg : ∃ g, s5.heap.IsGen a g
  lt : a < s5.heap.objs.size
  at_ : ∀ (A : Around) (hs : List Addr) (Hi : List Value → Heap → Prop) (s6 : Shared), Room (j + 2) A → A.frames = some X.stack → (∀ b ∈ hs, s5.heap.objs.size ≤ b) → s6.os = s5.os → s6.gens = s5.gens → (∀ b o, s5.heap.get? b = some o → s6.heap.get? b = some o) →
    (∀ b ∈ hs, ∃ o, s6.heap.get? b = some o ∧ ∀ v, o.data ≠ .cell v) → Hi [] s6.heap → GxAt X pins σ T A a hs Hi G0 tr.all h tr s6
section
variable {X : Cx} {pins : List (Addr × Obj)} {σ : L2.St} {H : Hp} {s : Shared} {T : Tb} {W : WX} {j : Nat} {c P : Addr} {elt tg iter : Expr} {ifs : List Expr} {scope : Scope} {own : List (Str × Nat)} {gpos : Pos} {mi : Iv} {g : Gv} {mt : Bv} {me : Ev} {G : Gh} {ρ : En} {h : LH} {Wi : List D → LH → Prop}
theorem gx_make (hr : Room (j + 4) X.A) (TB : GxR.TabB X.base X.mg c P) (hPT : (P, X.env.qual ++ "<genexpr>") ∈ T) (hTu : ∀ p ∈ T, p.1 = P → p.2 = X.env.qual ++ "<genexpr>") (hcode : X.env.code = .ref c) (ok : GxOk X.N X.env.scope scope own) (hN : X.N.Nodup) (hi : DI X T W tg iter mi) (b : GxB X T scope (own.map (·.2)) tg ifs elt g mt me j)
    (hs : ∀ v, genFold iter X.env v = pure v) (I : Inv X pins σ H s) (re : RE X.K G ρ σ) (hm : tI X.K T W mi σ H fun J H1 => ∃ G1 ds h1, G.le G1 ∧ RH X.K T G1 h1 H1 ∧ JOk X.K T G1 J ⟨ds, none⟩ ∧ Wi ds h1) {Q' : Value → Shared → Prop}
    (hQ : ∀ a s5 G1 ds h1, G.le G1 → Wi ds h1 → GxNew X pins σ T j a G1 h1 (gxTr (own.map (·.2)) g mt me ρ ds h1) s5 → Q' (.ref a) s5) :
    wpAny (model X.prog X.w) X.A (eval (.GeneratorExp elt [⟨tg, iter, ifs, 0⟩] scope gpos) X.env) Q' X.xe s := by
  have hfree : ∀ y ∈ scope.names, y.2 = .free → ∃ c, X.env.cells.lookup y.1 = some c := fun y hy e => by
    rcases ok.free y hy e with k | k
    · exact I.ok.has _ (.inl k)
    · exact I.ok.has _ (.inr k)
  refine wpAny_GeneratorExp_make ok.co (closure_ok hfree) ok.cell ok.dot ok.kind (by have := hr.dp; omega) ?_ hs
  refine thn (hi.p.run pins s σ H _ I hm) fun xv s1 hx => thn hx fun itv s2 h2 => ?_
  obtain ⟨it, fp, tn, J, H2, e, I2, Tu, st2, f2, G1, ds, h1, l1, rh1, jk, wi⟩ := h2
  subst e
  refine ⟨I2.nolimit, ?_⟩
  obtain ⟨⟨ps, hP, htr, hco⟩, _⟩ := rh1.tab _ hPT
  have hP : H2 P = some (.tbl ps) := hP
  have hPs : s2.heap.get? P = some { cls := .none, data := .fields ps } := I2.hok P _ hP
  have cd : PySem.W.CodeHd s2.heap c P := TB.code.keeps I2.bk
  have nP : ∀ b, H2 b = none → b ≠ P := fun b e z => by rw [z, hP] at e; cases e
  have cont : ∀ (code : Value) (h3 : Heap) (tk : Nat) (H3 : Hp) (G3 : Gh), Heap.ExtBut P s2.heap h3 → s2.heap.objs.size ≤ h3.objs.size → Inv X pins σ H3 { s2 with heap := h3, gens := s2.gens, drawn := s2.drawn, toks := tk } → G1.le G3 → RH X.K T G3 h1 H3 → (∀ b, H2 b = none → b < s2.heap.objs.size → H3 b = none) →
      wpAny (model X.prog X.w) X.A (builtinsFor X.env.globals X.env.builtins) (fun bi s₄ =>
        ∀ h', h'.Ns s₄.heap.objs.size (fun y => if y = ".0" then some (.ref it) else none) → Heap.SameBut s₄.heap.objs.size (s₄.heap.push { cls := .type "frame", data := .dict #[] }) h' →
          Q' (.ref h'.objs.size) { s₄ with
            gens := s₄.gens.push (.fresh (.compStart (.GeneratorExp elt [⟨tg, iter, ifs, 0⟩] scope gpos) 0 (.ref it) .none (genEnv scope (cloFrom X.env.cells scope.names []) s₄.heap.objs.size code bi X.env))),
            toks := s₄.toks + 1 + 1 + 1,
            heap := h'.push { cls := .type "generator", data := .fields #[.int s₄.gens.size 0, .str "<genexpr>" (s₄.toks + 1), .str (X.env.qual ++ "<genexpr>") (s₄.toks + 1 + 1)] } }) X.xe { s2 with heap := h3, toks := tk } := by
    intro code h3 tk H3 G3 hx hsz I3 l3 rh3 hn3
    obtain ⟨bm, ob, e1, e2, e3, e4, e5, e6, e7, e8⟩ := TB.bm
    have keep3 : ∀ b u, b ≠ P → s2.heap.get? b = some u → h3.get? b = some u := fun b u hb e => hx b u hb e
    refine wpAny_builtinsFor (m := X.mg) (by rw [I2.ok.glob]; exact ((I2.mod.glob.keeps I2.bk)).extBut hx TB.gP) e1 e2 (keep3 _ _ e4 (I2.bk _ _ e5)) e6 e7 e8 ?_
    have sz : ∀ b ∈ fp, b < s2.heap.objs.size := fun b hb => by
      obtain ⟨o, e, _⟩ := Tu.obj _ _ st2 b hb
      exact Heap.lt_size e
    have f3 : ∀ b ∈ fp, FpOk X pins H3 b ∧ b < h3.objs.size := fun b hb => by
      exact ⟨⟨hn3 b (f2 b hb).1 (sz b hb), (f2 b hb).2⟩, Nat.lt_of_lt_of_le (sz b hb) hsz⟩
    have st3 : tn 0 h3 := Tu.keep _ _ _ st2 fun b hb o e => keep3 b o (nP b (f2 b hb).1) e
    intro h' hn' hs'
    have hsz' : h'.objs.size = h3.objs.size + 1 := by rw [hs'.1, Heap.size_push]
    have keep' : ∀ b o, h3.get? b = some o → h'.get? b = some o := fun b o e => hs'.extBut b o (Nat.ne_of_lt (Heap.lt_size e)) (Heap.get?_push_of_some _ e)
    generalize hgo : ({ cls := .type "generator", data := .fields #[.int s2.gens.size 0, .str "<genexpr>" (tk + 1), .str (X.env.qual ++ "<genexpr>") (tk + 1 + 1)] } : Obj) = go
    have hgen : ∀ h : Heap, h.get? h'.objs.size = some go → h.IsGen h'.objs.size s2.gens.size := fun h e => ⟨go, _, _, e, by rw [← hgo], by rw [← hgo], by rw [← hgo]⟩
    have hgd : ∀ v, go.data ≠ .cell v := fun v q => by rw [← hgo] at q; cases q
    have hpush : (h'.push go).get? h'.objs.size = some go := by rw [← hgo]; exact Heap.get?_push_size _ rfl
    have keep5 : ∀ b o, h3.get? b = some o → (h'.push go).get? b = some o := fun b o e => Heap.get?_push_of_some _ (keep' b o e)
    have hb5 : AllBare (s2.gens.push (.fresh (.compStart (.GeneratorExp elt [⟨tg, iter, ifs, 0⟩] scope gpos) 0 (.ref it) .none (genEnv scope (cloFrom X.env.cells scope.names []) h3.objs.size code builtinsNs X.env)))) := AllBare.push I2.bare rfl
    have I5 : Inv X pins σ H3 { s2 with gens := s2.gens.push (.fresh (.compStart (.GeneratorExp elt [⟨tg, iter, ifs, 0⟩] scope gpos) 0 (.ref it) .none (genEnv scope (cloFrom X.env.cells scope.names []) h3.objs.size code builtinsNs X.env))), toks := tk + 1 + 1 + 1, heap := h'.push go } :=
      inv_gens (I3.kept (t' := tk + 1 + 1 + 1) (h' := h'.push go) keep5) hb5
    refine hQ h'.objs.size _ G3 ds h1 (l1.trans l3) wi ⟨⟨H3, rh3, I5⟩, (hgen _ hpush).typeIs, ⟨_, hgen _ hpush⟩, by show _ < (h'.push go).objs.size; rw [Heap.size_push]; exact Nat.lt_succ_self _, ?_⟩
    intro A hs6 Hi s6 hrA hfr hnew hos hgens hk6 hobj hHi
    have hk6 : ∀ b o, (h'.push go).get? b = some o → s6.heap.get? b = some o := hk6
    have hnew : ∀ b ∈ hs6, (h'.push go).objs.size ≤ b := hnew
    have szp : (h'.push go).objs.size = h3.objs.size + 1 + 1 := by rw [Heap.size_push, hsz']
    have hA : A.in1.handled = none := hrA.hd
    have hfr' : A.in1.frames = some X.stack := hfr
    have hb6 : AllBare s6.gens := by rw [hgens]; exact hb5
    have kp : ∀ b o, h3.get? b = some o → s6.heap.get? b = some o := fun b o e => hk6 b o (keep5 b o e)
    have J0 := gx_start (A := A.in1) (code := code) (h' := s6.heap) (gn := s6.gens) (tk := s6.toks) (dr := s6.drawn) (a := h'.objs.size) (go := go) I3 ok hN f3 hA hfr' kp (hn'.keeps fun b o e => hk6 b o (Heap.get?_push_of_some _ e)) hb6 (by show h3.objs.size < _; rw [hsz']; exact Nat.lt_succ_self _) (hk6 _ _ hpush) hgd
    have eta : ({ s2 with heap := s6.heap, gens := s6.gens, drawn := s6.drawn, toks := s6.toks } : Shared) = s6 := GxR.sh_eta s2 s6 (by rw [hos])
    have J1 : Inv (Cx.gx X scope A.in1 { s2 with heap := h3, gens := s2.gens, drawn := s2.drawn, toks := tk } H3 h3.objs.size code fp [(h'.objs.size, go)]) [] (L2.wipe σ (own.map (·.2))) H3 s6 := by
      have J0' : Inv (Cx.gx X scope A.in1 { s2 with heap := h3, gens := s2.gens, drawn := s2.drawn, toks := tk } H3 h3.objs.size code fp [(h'.objs.size, go)]) [] (L2.wipe σ (own.map (·.2))) H3 ({ s2 with heap := s6.heap, gens := s6.gens, drawn := s6.drawn, toks := s6.toks } : Shared) := J0
      rw [eta] at J0'
      exact J0'
    have hsO : HsOk (Cx.gx X scope A.in1 { s2 with heap := h3, gens := s2.gens, drawn := s2.drawn, toks := tk } H3 h3.objs.size code fp [(h'.objs.size, go)]) hs6 := by
      refine ⟨fun b hb => ?_, fun b hb => ?_, fun b hb z => ?_, fun b hb x c e z => ?_, fun b hb p hp => ?_, fun b hb z => ?_⟩ <;> have hb' := hnew b hb <;> rw [szp] at hb'
      · exact n_le2 hb'
      · exact n_ne2 hb'
      · exact I3.nofs (a := b) (n_le2 hb') (by
          rcases List.mem_cons.mp (I3.stkSub b z) with e | e
          · exfalso
            have q : X.env.locals < h3.objs.size := I3.lt
            rw [← e] at q
            exact n_lt2 hb' q
          · exact e)
      · obtain ⟨v, o, ho, _⟩ := J1.cell x c e
        obtain ⟨y, hy⟩ : ∃ y, X.env.cells.lookup x = some y ∧ y = c := by
          have e : (cloFrom X.env.cells scope.names []).lookup x = some c := e
          rcases cloFrom_mem (PySem.mem_of_lookup e) with hm | ⟨q1, q2⟩
          · cases hm
          · obtain ⟨c1, hc⟩ := hfree _ q1 rfl
            have hc : X.env.cells.lookup x = some c1 := hc
            exact ⟨c1, hc, by rw [q2, hc] <;> rfl⟩
        obtain ⟨w', z'⟩ := I3.cell x y hy.1
        have hl : y < h3.objs.size := z'.lt
        rw [hy.2, z] at hl
        exact n_lt2 hb' hl
      · have ep : p = (h'.objs.size, go) := by simpa using hp
        rw [ep]
        exact n_ne1 hsz' hb'
      · exact n_lt2 hb' (f3 b z).2
    have nhs : ∀ b ∈ hs6, H3 b = none := fun b hb => I3.hok.fresh (by have hb' := hnew b hb; rw [szp] at hb'; exact n_le2 hb')
    have stS : ∀ s'', Slp hs6 s6 s'' → tn 0 s''.heap := fun s'' z => Tu.keep _ _ _ st3 fun b hb o e => z.keep b o (fun hm => hsO.nx b hm hb) (kp b o e)
    refine ⟨scope, { s2 with heap := h3, gens := s2.gens, drawn := s2.drawn, toks := tk }, H3, h3.objs.size, code, fp, go, G3, G3, gxTr (own.map (·.2)) g mt me ρ ds h1, s2.gens.size, (gxTr (own.map (·.2)) g mt me ρ ds h1).len, _, H3, _, [],
      hsO, .refl _, .refl _, rh3, J1, fun b hb => ⟨nhs b hb, hobj b hb⟩, rfl, Tr.at_self _, rfl, Nat.le_refl _, hgen, by rw [hgens]; exact Array.getElem?_push_size .., hHi, ?_, ?_⟩
    · intro s'' z hH3 ok1
      refine ⟨rfl, ?_⟩
      have hrj : Room j (A.in1.deeper (gxEnv X scope h3.objs.size code)) := (hrA.in1).deeper _
      have PP : GxP (Cx.gx X scope A.in1 { s2 with heap := h3, gens := s2.gens, drawn := s2.drawn, toks := tk } H3 h3.objs.size code fp [(h'.objs.size, go)]) T A.in1 G3 hs6 (gxTr (own.map (·.2)) g mt me ρ ds h1) elt tg iter ifs scope gpos it fp tn J ds (own.map (·.2)) g mt me ρ σ :=
        ⟨rfl, hA, rfl, rfl, ok.co, hsO, rfl, fun b hb p hp => by
          have ep : p = (h'.objs.size, go) := by simpa using hp
          rw [ep]
          exact n_ne3 hsz' (f3 b hb).2, Tu, jk.mono l3, (re.mono l1).mono l3, b.g _ _ _ _ _ _ _ hrj, b.t _ _ _ _ _ _ _ hrj, b.e _ _ _ _ _ _ _ hrj⟩
      have J2 := inv_slp hsO J1 nhs z
      have loop := gx_seg PP (Hi := Hi) ds.length 0 (gxTr (own.map (·.2)) g mt me ρ ds h1).len s'' s'' H3 G3 h1 [] [] [] (Nat.sub_zero _) (Nat.zero_le _) (.refl _) rh3 J2 (fun b hb => (f3 b hb).1.1) (fun b hb => let ⟨o, e, _⟩ := z.own b hb; ⟨o, e⟩) (stS s'' z) ok1 (Tr.at_self _) rfl (Nat.le_refl _) hH3 .nil .nil rfl
      show Seg _ A.in1 _ _ _ s'' _ ((compStart (.GeneratorExp elt [⟨tg, iter, ifs, 0⟩] scope gpos) 0 (.ref it) .none (gxEnv X scope h3.objs.size code)).onRaise (leaving (gxEnv X scope h3.objs.size code))) [] s''
      unfold compStart
      rw [Sem.onRaise_eq_wrap]
      show Seg _ A.in1 _ _ _ s'' _ ((ask >>= _).wrap _ _ _ _) [] s''
      refine seg_bind_wrap (wpAny_askSetting ?_)
      split
      · exact seg_again rfl loop
      · first
          | exact seg_bind_wrap (wpAny_rule (seg_bind_wrap (wpAny_standAt (seg_bind_wrap (Tu.self _ 0 s'' _ _ (stS s'' z) (seg_again rfl loop))))))
          | (refine seg_bind_wrap (wpAny_rule ?_); show Seg _ A.in1 _ _ _ s'' _ ((standAt iter.pos >>= _).wrap _ _ _ _) [] s''; exact seg_bind_wrap (wpAny_standAt (seg_bind_wrap (Tu.self _ 0 s'' _ _ (stS s'' z) (seg_again rfl loop)))))
    · intro σ' H' s' I'
      exact I3.call' (ch := fp) I'.os I'.base I'.hok I'.bare fun b hb => ⟨(f3 b hb).1.2.2.2.1, (f3 b hb).1.2.1, (f3 b hb).1.2.2.2.2.1, (f3 b hb).1.2.2.2.2.2⟩
  cases hf : codeAmong gpos ps.toList with
  | none =>
    refine wpAny_genexprCodeX hcode (cd.code hPs htr) (cd.tab hPs) hf fun c' h' tk hx hge hlt hco' hrec htab' _ => ?_
    obtain ⟨c2, oc, vs, t, e2, hoc, hd, hv⟩ := hrec
    cases e2
    have nC : H2 c' = none := I2.hok.fresh hge
    have I3 := LamX.inv_table (q := X.env.qual ++ "<genexpr>") (t' := tk) (more := #[rawInt gpos.line, rawInt gpos.col, .ref c']) (h' := h') I2 hP hx htab'.2 hge ⟨oc, vs, t, hoc, hd, hv⟩
    have hE : LamX.ExtN H2 (upd (upd H2 P (.tbl (ps ++ #[rawInt gpos.line, rawInt gpos.col, .ref c']))) c' (LamX.CodeO c' (X.env.qual ++ "<genexpr>"))) := fun b o e n => by
      rw [upd_ne (ne_of_none e nC), upd_ne (fun z => n ps (Option.some.inj (e.symm.trans (by rw [z]; exact hP))))]
      exact e
    have eL : (ps ++ #[rawInt gpos.line, rawInt gpos.col, .ref c']).toList = ps.toList ++ [rawInt gpos.line, rawInt gpos.col, .ref c'] := by simp
    have hTT : LamX.Tabs T (upd (upd H2 P (.tbl (ps ++ #[rawInt gpos.line, rawInt gpos.col, .ref c']))) c' (LamX.CodeO c' (X.env.qual ++ "<genexpr>"))) := fun p hp => by
      by_cases hb : p.1 = P
      · rw [hTu p hp hb, hb]
        refine ⟨_, by rw [upd_ne (ne_of_none hP nC), upd_same], by rw [eL]; exact PySem.TriplesOk_snoc _ _ _ _ htr, fun p' cv hcv => ?_⟩
        rw [eL] at hcv
        rcases LamX.among_app _ htr hcv with z | z
        · obtain ⟨c0, e1, e2⟩ := hco p' cv z
          exact ⟨c0, e1, hE _ _ (rh1.F _ _ e2) LamX.codeO_ne⟩
        · exact ⟨c', z, upd_same⟩
      · obtain ⟨ps', a1, a2, a3⟩ := rh1.tabs p hp
        refine ⟨ps', by rw [upd_ne (ne_of_none a1 nC), upd_ne hb]; exact a1, a2, fun p' cv hcv => ?_⟩
        obtain ⟨c0, e1, e2⟩ := a3 p' cv hcv
        exact ⟨c0, e1, hE _ _ e2 LamX.codeO_ne⟩
    refine cont _ h' tk _ _ hx (Nat.le_trans hge (Nat.le_of_lt hlt)) I3 Gh.code_le (rh1.code hE hTT) fun b hb hl => ?_
    rw [upd_ne (fun z => absurd (Nat.lt_of_lt_of_le hl (by rw [z]; exact hge)) (Nat.lt_irrefl _)), upd_ne (nP b hb)]
    exact hb
  | some cv =>
    refine wpAny_genexprCode_hit hcode (cd.code hPs htr) hf ?_
    exact cont cv s2.heap s2.toks H2 G1 (Heap.ExtBut.refl _ _) (Nat.le_refl _) I2 (.refl _) rh1 fun b hb _ => hb
end
end Sh

set_option Elab.async false
set_option linter.all false
set_option maxRecDepth 100000
set_option maxHeartbeats 4000000
/-! Sh11: any, all of a generator expression. -/
namespace Sh
open PySem PySem.Spec PyProof.Rows L2 GenW

def tAny : Tr → Res Bool
  | .done h => .ok false h
  | .yld (.bl true) h _ => .ok true h
  | .yld (.bl false) _ r => tAny r
  | _ => .err
def tAll : Tr → Res Bool
  | .done h => .ok true h
  | .yld (.bl false) h _ => .ok false h
  | .yld (.bl true) _ r => tAll r
  | _ => .err
abbrev HiNo : List Value → Heap → Prop := fun _ _ => True
theorem hiNo : HiOk [] HiNo := ⟨fun _ _ _ _ _ => trivial, fun _ _ s hb _ _ => ⟨s, ⟨rfl, hb, fun _ _ _ e => e, fun b hb => absurd hb (by simp)⟩, trivial⟩⟩
theorem ownNo {s : Shared} : Own [] s s := ⟨rfl, rfl, fun _ _ _ e => e, fun b hb => absurd hb (by simp)⟩
section
variable {X : Cx} {pins : List (Addr × Obj)} {σ : L2.St} {T : Tb} {A : Around} {a : Addr} {G0 : Gh} {all : List D} {R : Result → Shared → Prop}
theorem any_loop (hA : A.in1.handled = none) (hroom : A.in1.depth < recursionLimit) : ∀ (tr : Tr) (h : LH) (s : Shared) (b : Bool) (h' : LH), GxAt X pins σ T A.in1 a [] HiNo G0 all h tr s → tAny tr = .ok b h' →
    (∀ s' G, G0.le G → GxFin X pins σ T G h' s' → R (.ok (.ret (.bool b))) s') → codeAny (model X.prog X.w) A (.builtin "any.loop" ⟨[.ref a], []⟩) R s := by
  intro tr
  induction tr with
  | err => intro h s b h' q e; cases e
  | done h0 =>
    intro h s b h' q e hR
    cases e
    refine codeAny_builtin F.entry_any_loop ?_
    rw [Around.under_plainId F.plain_any_loop _]
    show wpAny _ A.in1 (pyNext (.ref a) >>= _) _ _ s
    refine wpAny_bind (q.done hiNo rfl hA hroom fun s1 G us xs l f _ _ _ _ _ => ?_)
    exact wpAny_bind (wpAny_rule (wpAny_pure (hR s1 G l f)))
  | yld d h0 r ih =>
    intro h s b h' q e hR
    refine codeAny_builtin F.entry_any_loop ?_
    rw [Around.under_plainId F.plain_any_loop _]
    show wpAny _ A.in1 (pyNext (.ref a) >>= _) _ _ s
    cases d with
    | bl k =>
      refine wpAny_bind (q.yield rfl hA hroom fun v x s1 G us l rv rd _ f _ _ nx => ?_)
      cases rd
      have ev : v = .bool k := rv
      subst ev
      refine wpAny_bind (wpAny_holding (wpAny_truthy_bool ?_))
      refine wpAny_bind (wpAny_letGo ?_)
      cases k with
      | false =>
        simp only [Bool.false_eq_true, if_false]
        exact wpAny_pure ⟨plainId_quiet F.plain_any_loop _, ih h0 _ b h' (nx _ ownNo trivial) e hR⟩
      | true =>
        cases e
        simp only [if_true]
        exact wpAny_bind (wpAny_rule (wpAny_pure (hR s1 G l f)))
    | _ => cases e
theorem all_loop (hA : A.in1.handled = none) (hroom : A.in1.depth < recursionLimit) : ∀ (tr : Tr) (h : LH) (s : Shared) (b : Bool) (h' : LH), GxAt X pins σ T A.in1 a [] HiNo G0 all h tr s → tAll tr = .ok b h' →
    (∀ s' G, G0.le G → GxFin X pins σ T G h' s' → R (.ok (.ret (.bool b))) s') → codeAny (model X.prog X.w) A (.builtin "all.loop" ⟨[.ref a], []⟩) R s := by
  intro tr
  induction tr with
  | err => intro h s b h' q e; cases e
  | done h0 =>
    intro h s b h' q e hR
    cases e
    refine codeAny_builtin F.entry_all_loop ?_
    rw [Around.under_plainId F.plain_all_loop _]
    show wpAny _ A.in1 (pyNext (.ref a) >>= _) _ _ s
    refine wpAny_bind (q.done hiNo rfl hA hroom fun s1 G us xs l f _ _ _ _ _ => ?_)
    exact wpAny_bind (wpAny_rule (wpAny_pure (hR s1 G l f)))
  | yld d h0 r ih =>
    intro h s b h' q e hR
    refine codeAny_builtin F.entry_all_loop ?_
    rw [Around.under_plainId F.plain_all_loop _]
    show wpAny _ A.in1 (pyNext (.ref a) >>= _) _ _ s
    cases d with
    | bl k =>
      refine wpAny_bind (q.yield rfl hA hroom fun v x s1 G us l rv rd _ f _ _ nx => ?_)
      cases rd
      have ev : v = .bool k := rv
      subst ev
      refine wpAny_bind (wpAny_holding (wpAny_truthy_bool ?_))
      refine wpAny_bind (wpAny_letGo ?_)
      cases k with
      | true =>
        simp only [if_true]
        exact wpAny_pure ⟨plainId_quiet F.plain_all_loop _, ih h0 _ b h' (nx _ ownNo trivial) e hR⟩
      | false =>
        cases e
        simp only [Bool.false_eq_true, if_false]
        exact wpAny_bind (wpAny_rule (wpAny_pure (hR s1 G l f)))
    | _ => cases e
end
/-- a generator expression given to f -/
def eGx (f : Tr → Res D) (mi : Iv) (vs : List Nat) (g : Gv) (mt : Bv) (me : Ev) : Ev := fun ρ h => (mi ρ h).bind fun t h1 => match t.g with
  | none => f (gxTr vs g mt me ρ t.ds h1)
  | some _ => .err
def tBl (f : Tr → Res Bool) (t : Tr) : Res D := (f t).bind fun b h => .ok (.bl b) h
theorem tBl_ok {f : Tr → Res Bool} {t : Tr} {d : D} {h : LH} (e : tBl f t = .ok d h) : ∃ b, d = .bl b ∧ f t = .ok b h := by
  unfold tBl at e
  cases q : f t with
  | ok b h1 => rw [q] at e; cases e; exact ⟨b, rfl, rfl⟩
  | exc c h1 => rw [q] at e; cases e
  | err => rw [q] at e; cases e
section
variable {X : Cx} {T : Tb} {W : WX} {j : Nat} {c P : Addr} {elt tg iter : Expr} {ifs : List Expr} {scope : Scope} {own : List (Str × Nat)} {p gpos pos : Pos} {mi : Iv} {g : Gv} {mt : Bv} {me : Ev} {x : Str}
/-- a call of f with a generator expression alone -/
theorem de_gx {f : Tr → Res D} (hf : ∀ t c h, f t ≠ .exc c h) (hr : Room (j + 4) X.A) (TB : GxR.TabB X.base X.mg c P) (hPT : (P, X.env.qual ++ "<genexpr>") ∈ T) (hTu : ∀ p ∈ T, p.1 = P → p.2 = X.env.qual ++ "<genexpr>") (hcode : X.env.code = .ref c) (ok : GxOk X.N X.env.scope scope own) (hN : X.N.Nodup) (hi : DI X T W tg iter mi) (b : GxB X T scope (own.map (·.2)) tg ifs elt g mt me j)
    (hfo : ∀ v, genFold iter X.env v = pure v) {callF : Value → Sem Value}
    (hcons : ∀ (pins : List (Addr × Obj)) (σ : L2.St) (s5 : Shared) (G1 : Gh) (h1 : LH) (tr : Tr) (a : Addr) (d : D) (h' : LH) (Q : Value → Shared → Prop), GxNew X pins σ T j a G1 h1 tr s5 → f tr = .ok d h' →
      (∀ v s', (∃ G2 x, G1.le G2 ∧ GxFin X pins σ T G2 h' s' ∧ RD X.K G2 d x ∧ RelV x v) → Q v s') → wpAny (model X.prog X.w) X.A (callF (.ref a)) Q X.xe s5)
    (hcall : ∀ (pins : List (Addr × Obj)) (σ : L2.St) (H : Hp) (s : Shared) (Q : Value → Shared → Prop), Inv X pins σ H s → wpAny (model X.prog X.w) X.A (eval (.GeneratorExp elt [⟨tg, iter, ifs, 0⟩] scope gpos) X.env) (fun u s5 => wpAny (model X.prog X.w) X.A (callF u) Q X.xe s5) X.xe s → wpAny (model X.prog X.w) X.A (eval (.Call (.Name x p) [.GeneratorExp elt [⟨tg, iter, ifs, 0⟩] scope gpos] [] pos) X.env) Q X.xe s) :
    DE X T W (.Call (.Name x p) [.GeneratorExp elt [⟨tg, iter, ifs, 0⟩] scope gpos] [] pos) (eGx f mi (own.map (·.2)) g mt me) := by
  refine ⟨⟨fun pins s σ H Q I ⟨G, ρ, h, re, rh, p⟩ => ?_⟩⟩
  unfold eGx at p
  refine hcall pins σ H s _ I (gx_make (Wi := fun ds h1 => Post X.K T W σ G (f (gxTr (own.map (·.2)) g mt me ρ ds h1)) Q) hr TB hPT hTu hcode ok hN hi b hfo I re ⟨G, ρ, h, re, rh, ?_⟩ fun a s5 G1 ds h1 l1 p q => ?_)
  · cases e0 : mi ρ h with
    | err => rw [e0] at p; exact p
    | exc c h1 => rw [e0] at p; exact p
    | ok t h1 =>
      rw [e0] at p
      obtain ⟨ds, gg⟩ := t
      cases gg with
      | some n => exact p.elim
      | none => exact fun G1 H1 J l1 r1 jk => ⟨G1, ds, h1, l1, r1, jk, p⟩
  · have p : Post X.K T W σ G (f (gxTr (own.map (·.2)) g mt me ρ ds h1)) Q := p
    cases ef : f (gxTr (own.map (·.2)) g mt me ρ ds h1) with
    | err => rw [ef] at p; exact p.elim
    | exc c h2 => exact absurd ef (hf _ _ _)
    | ok d h2 =>
      rw [ef] at p
      exact hcons pins σ s5 G1 h1 _ a d h2 _ q ef fun v s' ⟨G2, x, l2, ⟨H2, rh2, I2⟩, rd, rv⟩ => ⟨x, H2, I2, rv, p G2 H2 x (l1.trans l2) rh2 rd⟩
def tAnyR : Tr → Res D := tBl tAny
def tAllR : Tr → Res D := tBl tAll
theorem tBl_exc {f : Tr → Res Bool} (hf : ∀ t c h, f t ≠ .exc c h) : ∀ t c h, tBl f t ≠ .exc c h := fun t c h e => by
  unfold tBl at e
  cases q : f t with
  | ok b h1 => rw [q] at e; cases e
  | exc c h1 => exact hf _ _ _ q
  | err => rw [q] at e; cases e
theorem tAny_exc : ∀ t c h, tAny t ≠ .exc c h
  | .done _, _, _, e => by cases e
  | .err, _, _, e => by cases e
  | .yld d h r, c, h', e => by
    cases d with
    | bl k => cases k with
      | true => cases e
      | false => exact tAny_exc r c h' e
    | _ => cases e
theorem tAll_exc : ∀ t c h, tAll t ≠ .exc c h
  | .done _, _, _, e => by cases e
  | .err, _, _, e => by cases e
  | .yld d h r, c, h', e => by
    cases d with
    | bl k => cases k with
      | false => cases e
      | true => exact tAll_exc r c h' e
    | _ => cases e
theorem cons_any (hr : Room (j + 4) X.A) (pins : List (Addr × Obj)) (σ : L2.St) (s5 : Shared) (G1 : Gh) (h1 : LH) (tr : Tr) (a : Addr) (d : D) (h' : LH) (Q : Value → Shared → Prop) (q : GxNew X pins σ T j a G1 h1 tr s5) (e : tAnyR tr = .ok d h')
    (hQ : ∀ v s', (∃ G2 x, G1.le G2 ∧ GxFin X pins σ T G2 h' s' ∧ RD X.K G2 d x ∧ RelV x v) → Q v s') : wpAny (model X.prog X.w) X.A (call (.builtin "any") [.ref a]) Q X.xe s5 := by
  obtain ⟨b, rfl, e2⟩ := tBl_ok e
  obtain ⟨g, isg⟩ := q.isg
  obtain ⟨H5, rh5, I5⟩ := q.fin
  refine call_function_tree F.kind_any F.plain_any F.entry_any (F.args_any1 _) ?_
  unfold Builtin.«any»
  refine wpAny_bind (m := oneArg "any" _) (wpAny_pure ?_)
  refine wpAny_bind (wpAny_pyIter_gen isg ?_)
  have hr1 : Room (j + 2) X.A.in1 := (hr.mono (by omega : j + 3 ≤ j + 4)).in1
  have q6 := q.at_ X.A.in1 [] HiNo s5 hr1 I5.ok.frames (fun b hb => absurd hb (by simp)) rfl rfl (fun _ _ e => e) (fun b hb => absurd hb (by simp)) trivial
  exact wpAny_pure ⟨plainId_quiet F.plain_any_loop _, any_loop hr1.hd (by have := hr1.dp; omega) tr h1 s5 b h' q6 e2 fun s' G l f => hQ _ _ ⟨G, .bl b, l, f, .bl b, rfl⟩⟩
theorem cons_all (hr : Room (j + 4) X.A) (pins : List (Addr × Obj)) (σ : L2.St) (s5 : Shared) (G1 : Gh) (h1 : LH) (tr : Tr) (a : Addr) (d : D) (h' : LH) (Q : Value → Shared → Prop) (q : GxNew X pins σ T j a G1 h1 tr s5) (e : tAllR tr = .ok d h')
    (hQ : ∀ v s', (∃ G2 x, G1.le G2 ∧ GxFin X pins σ T G2 h' s' ∧ RD X.K G2 d x ∧ RelV x v) → Q v s') : wpAny (model X.prog X.w) X.A (call (.builtin "all") [.ref a]) Q X.xe s5 := by
  obtain ⟨b, rfl, e2⟩ := tBl_ok e
  obtain ⟨g, isg⟩ := q.isg
  obtain ⟨H5, rh5, I5⟩ := q.fin
  refine call_function_tree F.kind_all F.plain_all F.entry_all (F.args_all1 _) ?_
  unfold Builtin.«all»
  refine wpAny_bind (m := oneArg "all" _) (wpAny_pure ?_)
  refine wpAny_bind (wpAny_pyIter_gen isg ?_)
  have hr1 : Room (j + 2) X.A.in1 := (hr.mono (by omega : j + 3 ≤ j + 4)).in1
  have q6 := q.at_ X.A.in1 [] HiNo s5 hr1 I5.ok.frames (fun b hb => absurd hb (by simp)) rfl rfl (fun _ _ e => e) (fun b hb => absurd hb (by simp)) trivial
  exact wpAny_pure ⟨plainId_quiet F.plain_all_loop _, all_loop hr1.hd (by have := hr1.dp; omega) tr h1 s5 b h' q6 e2 fun s' G l f => hQ _ _ ⟨G, .bl b, l, f, .bl b, rfl⟩⟩
theorem hcall_b {id : String} {A : Expr} (hg : Gl X x) (hm : X.mg x = none) (hv : bootBuiltins x = some (.builtin id)) (hn : x ≠ "__name__" := by decide) (hdb : (x == ("__debug__" : Str)) = false := by decide)
    (he : starEach [A] X.env = (false, eval A X.env) :: starEach [] X.env := by rfl) (pins : List (Addr × Obj)) (σ : L2.St) (H : Hp) (s : Shared) (Q : Value → Shared → Prop) (I : Inv X pins σ H s)
    (h : wpAny (model X.prog X.w) X.A (eval A X.env) (fun u s5 => wpAny (model X.prog X.w) X.A (call (.builtin id) [u]) Q X.xe s5) X.xe s) : wpAny (model X.prog X.w) X.A (eval (.Call (.Name x p) [A] [] pos) X.env) Q X.xe s := by
  refine wpAny_Call_Name_kw (ld_blt I hg hm hv ?_ hn hdb)
  refine PyProof.Rows.callWith_builtin1 ?_ he (by rfl)
  rw [he]
  show wpAny _ _ (spliced ((false, eval A X.env) :: backTo pos (starEach [] X.env))) _ _ s
  exact Calls.spliced_cons (wpAny_mono h (fun u s5 h5 => Calls.spliced_nil h5) fun _ _ z => z)
theorem hcall_t {id : String} {A : Expr} (hg : Gl X x) (hm : X.mg x = none) (hv : bootBuiltins x = some (.type id)) (hn : x ≠ "__name__" := by decide) (hdb : (x == ("__debug__" : Str)) = false := by decide)
    (he : starEach [A] X.env = (false, eval A X.env) :: starEach [] X.env := by rfl) (pins : List (Addr × Obj)) (σ : L2.St) (H : Hp) (s : Shared) (Q : Value → Shared → Prop) (I : Inv X pins σ H s)
    (h : wpAny (model X.prog X.w) X.A (eval A X.env) (fun u s5 => wpAny (model X.prog X.w) X.A (call (.type id) [u]) Q X.xe s5) X.xe s) : wpAny (model X.prog X.w) X.A (eval (.Call (.Name x p) [A] [] pos) X.env) Q X.xe s := by
  refine wpAny_Call_Name_kw (ld_blt I hg hm hv ?_ hn hdb)
  refine PyProof.Rows.callWith_type1 ?_ he (by rfl)
  rw [he]
  show wpAny _ _ (spliced ((false, eval A X.env) :: backTo pos (starEach [] X.env))) _ _ s
  exact Calls.spliced_cons (wpAny_mono h (fun u s5 h5 => Calls.spliced_nil h5) fun _ _ z => z)
/-- any(elt for tg in iter if ..) -/
theorem de_any (hr : Room (j + 4) X.A) (TB : GxR.TabB X.base X.mg c P) (hPT : (P, X.env.qual ++ "<genexpr>") ∈ T) (hTu : ∀ p ∈ T, p.1 = P → p.2 = X.env.qual ++ "<genexpr>") (hcode : X.env.code = .ref c) (hg : Gl X "any") (hm : X.mg "any" = none) (ok : GxOk X.N X.env.scope scope own) (hN : X.N.Nodup) (hi : DI X T W tg iter mi) (b : GxB X T scope (own.map (·.2)) tg ifs elt g mt me j)
    (hfo : ∀ v, genFold iter X.env v = pure v := by intro _; rfl) (he : starEach [.GeneratorExp elt [⟨tg, iter, ifs, 0⟩] scope gpos] X.env = (false, eval (.GeneratorExp elt [⟨tg, iter, ifs, 0⟩] scope gpos) X.env) :: starEach [] X.env := by rfl) :
    DE X T W (.Call (.Name "any" p) [.GeneratorExp elt [⟨tg, iter, ifs, 0⟩] scope gpos] [] pos) (eGx tAnyR mi (own.map (·.2)) g mt me) :=
  de_gx (tBl_exc tAny_exc) hr TB hPT hTu hcode ok hN hi b hfo (cons_any hr) (hcall_b hg hm (by rfl) (by decide) (by decide) he)
theorem de_all (hr : Room (j + 4) X.A) (TB : GxR.TabB X.base X.mg c P) (hPT : (P, X.env.qual ++ "<genexpr>") ∈ T) (hTu : ∀ p ∈ T, p.1 = P → p.2 = X.env.qual ++ "<genexpr>") (hcode : X.env.code = .ref c) (hg : Gl X "all") (hm : X.mg "all" = none) (ok : GxOk X.N X.env.scope scope own) (hN : X.N.Nodup) (hi : DI X T W tg iter mi) (b : GxB X T scope (own.map (·.2)) tg ifs elt g mt me j)
    (hfo : ∀ v, genFold iter X.env v = pure v := by intro _; rfl) (he : starEach [.GeneratorExp elt [⟨tg, iter, ifs, 0⟩] scope gpos] X.env = (false, eval (.GeneratorExp elt [⟨tg, iter, ifs, 0⟩] scope gpos) X.env) :: starEach [] X.env := by rfl) :
    DE X T W (.Call (.Name "all" p) [.GeneratorExp elt [⟨tg, iter, ifs, 0⟩] scope gpos] [] pos) (eGx tAllR mi (own.map (·.2)) g mt me) :=
  de_gx (tBl_exc tAll_exc) hr TB hPT hTu hcode ok hN hi b hfo (cons_all hr) (hcall_b hg hm (by rfl) (by decide) (by decide) he)
end
end Sh

set_option Elab.async false
set_option linter.all false
set_option maxRecDepth 100000
set_option maxHeartbeats 4000000
/-! Sh12: tuple of a generator expression. -/
namespace Sh
open PySem PySem.Spec PyProof.Rows L2 GenW

def tLst : Tr → Res (List D)
  | .done h => .ok [] h
  | .yld d _ r => (tLst r).bind fun ds h => .ok (d :: ds) h
  | .err => .err
theorem tLst_ok : ∀ {t : Tr} {ds : List D} {h : LH}, tLst t = .ok ds h → t.all = ds ∧ t.len = ds.length
  | .done _, _, _, e => by cases e; exact ⟨rfl, rfl⟩
  | .err, _, _, e => by cases e
  | .yld d h0 r, ds, h, e => by
    unfold tLst at e
    cases q : tLst r with
    | ok ds1 h1 =>
      rw [q] at e; cases e
      obtain ⟨a, b⟩ := tLst_ok q
      exact ⟨by show d :: r.all = _; rw [a], by show r.len + 1 = _; rw [b]; rfl⟩
    | exc c h1 => rw [q] at e; cases e
    | err => rw [q] at e; cases e
theorem tLst_exc : ∀ t c h, tLst t ≠ .exc c h
  | .done _, _, _, e => by cases e
  | .err, _, _, e => by cases e
  | .yld d h0 r, c, h, e => by
    unfold tLst at e
    cases q : tLst r with
    | ok ds1 h1 => rw [q] at e; cases e
    | exc c h1 => exact tLst_exc _ _ _ q
    | err => rw [q] at e; cases e
/-- the list at S tells the results -/
abbrev HiS (S : Addr) : List Value → Heap → Prop := fun us h => ∃ acc c, acc.toList = us ∧ h.get? S = some (lstObj acc c)
theorem lst_ncell {us : Array Value} {c : Nat} : ∀ v, (lstObj us c).data ≠ .cell v := fun v q => by cases q
theorem hiS_push {S : Addr} {acc : Array Value} {c : Nat} {v : Value} {h : Heap} (e : h.get? S = some (lstObj acc c)) : ∃ c', (h.update S (Obj.mapSeq (·.push v))).get? S = some (lstObj (acc.push v) c') := ⟨_, Heap.get?_update_self _ e rfl⟩
theorem hiS (S : Addr) : HiOk [S] (HiS S) := by
  refine ⟨fun us h h' k ⟨acc, c, e0, e⟩ => ⟨acc, c, e0, k S (by simp) _ e⟩, fun us v s hb _ ⟨acc, c, e0, e⟩ => ?_⟩
  obtain ⟨c', e3⟩ := hiS_push (v := v) e
  refine ⟨{ s with heap := s.heap.update S (Obj.mapSeq (·.push v)) }, ⟨rfl, hb, fun b o hn e => ?_, fun b hb => ?_⟩, _, c', by rw [Array.toList_push, e0], e3⟩
  · exact (Heap.get?_update_other _ _ (fun z => hn (by rw [z]; simp))).trans e
  · rw [List.mem_singleton.mp hb]
    exact ⟨_, e3, lst_ncell⟩
theorem hiS_inj {S : Addr} {us us' : List Value} {h : Heap} (a : HiS S us h) (b : HiS S us' h) : us = us' := by
  obtain ⟨acc, c, e0, e⟩ := a
  obtain ⟨acc', c', e0', e'⟩ := b
  rw [e] at e'
  have q := Option.some.inj e'
  injection q with _ _ q3 _
  injection q3 with q4 _
  rw [← e0, ← e0', q4]
section
variable {X : Cx} {pins : List (Addr × Obj)} {σ : L2.St} {T : Tb} {A : Around} {a S : Addr} {G0 : Gh} {all : List D} {R : Result → Shared → Prop} {res : Value}
theorem ext_loop (hA : A.in1.handled = none) (hroom : A.in1.depth < recursionLimit) : ∀ (tr : Tr) (h : LH) (s : Shared) (us : List Value) (ds : List D) (h' : LH), GxAt X pins σ T A.in1 a [S] (HiS S) G0 all h tr s → HiS S us s.heap → tLst tr = .ok ds h' → us.length + ds.length ≤ sizeLine →
    (∀ s' G us' xs, G0.le G → GxFin X pins σ T G h' s' → HiS S us' s'.heap → Vals xs us' → RDs X.K G all xs → R (.ok (.ret res)) s') → codeAny (model X.prog X.w) A (.builtin "list.extend.loop" ⟨[.ref S, .ref a, res], []⟩) R s := by
  intro tr
  induction tr with
  | err => intro h s us ds h' q hu e; cases e
  | done h0 =>
    intro h s us ds h' q hu e hl hR
    cases e
    refine codeAny_builtin F.entry_extend_loop ?_
    rw [Around.under_plainId F.plain_extend_loop _]
    show wpAny _ A.in1 (pyNext (.ref a) >>= _) _ _ s
    refine wpAny_bind (q.done (hiS S) rfl hA hroom fun s1 G us2 xs l f k hu2 hv hrd _ => ?_)
    exact wpAny_pure (hR s1 G us2 xs l f ((hiS S).st _ _ _ k hu2) hv hrd)
  | yld d h0 r ih =>
    intro h s us ds h' q hu e hl hR
    unfold tLst at e
    cases e1 : tLst r with
    | exc c h1 => rw [e1] at e; cases e
    | err => rw [e1] at e; cases e
    | ok ds1 h1 =>
      rw [e1] at e
      cases e
      have hl : us.length + (ds1.length + 1) ≤ sizeLine := hl
      refine codeAny_builtin F.entry_extend_loop ?_
      rw [Around.under_plainId F.plain_extend_loop _]
      show wpAny _ A.in1 (pyNext (.ref a) >>= _) _ _ s
      refine wpAny_bind (q.yield rfl hA hroom fun v x s1 G us2 l rv rd k f hu2 hb nx => ?_)
      have eu := hiS_inj hu hu2
      subst eu
      obtain ⟨acc, c, e0, eS⟩ := (hiS S).st _ _ _ k hu2
      have ez : acc.size = us.length := by rw [← e0]; simp
      show wpAny _ A.in1 (updateSeq S (·.push v) >>= _) _ _ _
      refine wpAny_bind ?_
      refine wpAny_updateSeq eS rfl (wpAny_pure ⟨plainId_quiet F.plain_extend_loop _, ?_⟩) (by omega) (by show (acc.push v).size ≤ sizeLine + 1; rw [Array.size_push]; omega)
      obtain ⟨c', e3⟩ := hiS_push (v := v) eS
      have e4 : HiS S (us ++ [v]) (s1.heap.update S (Obj.mapSeq (·.push v))) := ⟨_, c', by rw [Array.toList_push, e0], e3⟩
      refine ih h0 _ (us ++ [v]) ds1 _ (nx _ ⟨rfl, rfl, fun b o hn e => ?_, fun b hb => ?_⟩ e4) e4 e1 (by rw [List.length_append, List.length_singleton]; omega) hR
      · exact (Heap.get?_update_other _ _ (fun z => hn (by rw [z]; simp))).trans e
      · rw [List.mem_singleton.mp hb]
        exact ⟨_, e3, lst_ncell⟩
end
section
variable {X : Cx} {pins : List (Addr × Obj)} {σ : L2.St} {T : Tb} {A : Around} {a : Addr} {G1 : Gh} {j : Nat} {h1 h' : LH} {tr : Tr} {ds : List D} {E : Value → Shared → Prop} {s : Shared}
/-- all results, put together -/
theorem gx_collect {Q : List Value → Shared → Prop} (q : GxNew X pins σ T j a G1 h1 tr s) (hr : Room (j + 3) A) (hfr : A.frames = some X.stack) (e : tLst tr = .ok ds h') (hl : ds.length ≤ sizeLine)
    (hQ : ∀ s' G us xs, G1.le G → GxFin X pins σ T G h' s' → Vals xs us → RDs X.K G ds xs → Q us s') : wpAny (model X.prog X.w) A (collect (.ref a)) Q E s := by
  obtain ⟨g, isg⟩ := q.isg
  have hSa : s.heap.objs.size ≠ a := Nat.ne_of_gt q.lt
  have hr1 : Room (j + 2) A.in1 := hr.in1
  unfold collect
  refine wpAny_bind (wpAny_runValue (codeAny_builtin F.entry_proto_collect ?_))
  rw [Around.under_plainId F.plain_proto_collect _]
  show wpAny _ A.in1 (newList [] >>= fun l => again (.builtin "list.__iadd__" ⟨[l, .ref a], []⟩)) _ _ s
  refine wpAny_bind (wpAny_newObj_type ?_)
  refine wpAny_pure ⟨plainId_quiet F.plain_list_iadd _, codeAny_builtin F.entry_list_iadd ?_⟩
  rw [Around.under_plainId F.plain_list_iadd _]
  have isg1 : (s.heap.push { cls := .type "list", data := .seq ([] : List Value).toArray }).IsGen a g := isg.push _
  have hT : ({ s with heap := s.heap.push { cls := .type "list", data := .seq ([] : List Value).toArray } } : Shared).TypeIs (.ref a) "generator" := isg1.typeIs
  show wpAny _ A.in1 (Builtin.List.listExtendWith (.ref s.heap.objs.size) (.ref a) (.ref s.heap.objs.size)) _ _ _
  unfold Builtin.List.listExtendWith
  refine wpAny_bind (wpAny_typeOf hT ?_)
  have h1 : Builtin.List.listSameRef (.ref s.heap.objs.size) (.ref a) = false := by simp [Builtin.List.listSameRef, hSa]
  have h2 : (Value.type "generator" == Value.type "list") = false := by decide
  have h3 : (Value.type "generator" == Value.type "tuple") = false := by decide
  simp only [h1, h2, h3, Bool.or_false, Bool.false_eq_true, if_false]
  refine wpAny_bind (wpAny_pyIter_gen isg1 ?_)
  refine wpAny_bind (wpAny_holding ?_)
  unfold Builtin.List.listLengthHint
  refine wpAny_bind (wpAny_specialOf hT F.gen_no_len ?_)
  show wpAny _ A.in1 (specialOf (Value.ref a) (Str.ofString "__length_hint__") >>= _) _ _ _
  refine wpAny_bind (wpAny_specialOf hT F.gen_no_hint ?_)
  refine wpAny_pure ?_
  show wpAny _ A.in1 (rule "list.extend.makes-room" >>= fun _ => Builtin.List.listTouch (.ref s.heap.objs.size) >>= fun _ =>
    again (.builtin "list.extend.loop" ⟨[.ref s.heap.objs.size, .ref a, .ref s.heap.objs.size], []⟩)) _ _ _
  refine wpAny_bind (wpAny_rule ?_)
  have hS₁ : (s.heap.push { cls := .type "list", data := .seq ([] : List Value).toArray }).get? s.heap.objs.size = some { cls := .type "list", data := .seq ([] : List Value).toArray } := Heap.get?_push_size _ rfl
  refine wpAny_bind ?_
  show wpAny _ A.in1 (updateSeq s.heap.objs.size (·.push .none) >>= fun _ => updateSeq s.heap.objs.size (·.pop)) _ _ _
  refine wpAny_bind (wpAny_updateSeq hS₁ rfl ?_)
  have hS₂ := Heap.get?_update_self (Obj.mapSeq (·.push Value.none)) hS₁ rfl
  refine wpAny_updateSeq hS₂ rfl ?_
  have hS₃ := Heap.get?_update_self (Obj.mapSeq (·.pop)) hS₂ rfl
  have oth : ∀ b o, s.heap.get? b = some o →
      (((s.heap.push { cls := .type "list", data := .seq ([] : List Value).toArray }).update s.heap.objs.size (Obj.mapSeq (·.push Value.none))).update s.heap.objs.size (Obj.mapSeq (·.pop))).get? b = some o :=
    fun b o e => by
      have hb : s.heap.objs.size ≠ b := Nat.ne_of_gt (Heap.lt_size e)
      exact (Heap.get?_update_other _ _ hb).trans ((Heap.get?_update_other _ _ hb).trans (Heap.get?_push_of_some _ e))
  have hi0 : HiS s.heap.objs.size [] (((s.heap.push { cls := .type "list", data := .seq ([] : List Value).toArray }).update s.heap.objs.size (Obj.mapSeq (·.push Value.none))).update s.heap.objs.size (Obj.mapSeq (·.pop))) := ⟨_, _, rfl, hS₃⟩
  refine wpAny_pure ⟨plainId_quiet F.plain_extend_loop _, ext_loop hr1.hd (by have := hr1.dp; omega) tr _ _ [] ds h' (q.at_ A.in1 [s.heap.objs.size] (HiS s.heap.objs.size) _ hr1 hfr (fun b hb => Nat.le_of_eq (List.mem_singleton.mp hb).symm) rfl rfl oth (fun b hb => ?_) hi0) hi0 e (by simpa using hl) fun s' G us' xs l f ⟨acc, c, e0, eS⟩ hv hrd => ?_⟩
  · rw [List.mem_singleton.mp hb]
    exact ⟨_, hS₃, fun v q => by cases q⟩
  · show wpAny _ A (load s.heap.objs.size >>= _) _ _ s'
    refine wpAny_bind (wpAny_load eS ?_)
    rw [(tLst_ok e).1] at hrd
    exact wpAny_pure (by
      have z := hQ s' G us' xs l f hv hrd
      rw [← e0] at z
      exact z)
def tTup : Tr → Res D := fun t => (tLst t).bind fun ds h => if fits ds.length then .ok (.tup ds) h else .err
theorem tTup_exc : ∀ t c h, tTup t ≠ .exc c h := fun t c h e => by
  unfold tTup at e
  cases q : tLst t with
  | ok ds h1 =>
    rw [q] at e
    simp only [Res.bind] at e
    split at e <;> cases e
  | exc c h1 => exact tLst_exc _ _ _ q
  | err => rw [q] at e; cases e
theorem cons_tup (hr : Room (j + 6) X.A) (pins : List (Addr × Obj)) (σ : L2.St) (s5 : Shared) (G1 : Gh) (h1 : LH) (tr : Tr) (a : Addr) (d : D) (h' : LH) (Q : Value → Shared → Prop) (q : GxNew X pins σ T j a G1 h1 tr s5) (e : tTup tr = .ok d h')
    (hQ : ∀ v s', (∃ G2 x, G1.le G2 ∧ GxFin X pins σ T G2 h' s' ∧ RD X.K G2 d x ∧ RelV x v) → Q v s') : wpAny (model X.prog X.w) X.A (call (.type "tuple") [.ref a]) Q X.xe s5 := by
  obtain ⟨H5, rh5, I5⟩ := q.fin
  unfold tTup at e
  cases el : tLst tr with
  | exc c h1 => exact absurd el (tLst_exc _ _ _)
  | err => rw [el] at e; cases e
  | ok ds h2 =>
    rw [el] at e
    simp only [Res.bind] at e
    split at e
    · rename_i hf
      cases e
      have hT := q.gen
      refine callType_codes (Q₁ := fun obj s₁ => s₁.TypeIs obj "tuple" ∧ Q obj s₁) F.called_tuple (F.typeCall_tuple_1 _) F.entry_object_init ?_ fun obj s₁ h₁ => ⟨h₁.1, F.args_object_init_2 obj _, object_init_meets F.called_tuple.init.lookup F.called_tuple.made (by decide) X.prog X.w X.A.in1 _ s₁ ⟨h₁.1, rfl, h₁.2⟩⟩
      refine codeAny_of_tree ?_
      show wpAny _ X.A.in1.in1 (do checkBuiltinCall "tuple.__new__" ⟨[.type "tuple", .ref a], []⟩; again (.builtin "tuple.__new__" ⟨[.type "tuple", .ref a], []⟩)) _ _ s5
      refine wpAny_bind (wpAny_of_eq (F.newCall_tuple_1 _) (wpAny_pure ⟨plainId_quiet F.plain_tuple_new _, codeAny_builtin F.entry_tuple_new ?_⟩))
      rw [Around.under_plainId F.plain_tuple_new _]
      have hsub := sub_tuple_self
      have hinit := init_tuple_lookup
      have hmh := madeHere_tuple
      have hr2 : Room (j + 3) X.A.in1.in1 := ((hr.mono (by omega : j + 5 ≤ j + 6)).in1).in1
      wp_walk using wpAny_typeOf hT, gx_collect q hr2 I5.ok.frames el (fits_ok hf)
      intro s' G us xs l f hv hrd
      obtain ⟨H', rh', I'⟩ := f
      have hlen : us.length ≤ sizeLine := by rw [← hv.length, ← hrd.length]; exact fits_ok hf
      show wpAny _ _ (Builtin.Tuple.tupleExact us.toArray >>= fun v => ret v) _ _ _
      unfold Builtin.Tuple.tupleExact
      refine wpAny_bind (wpAny_newObj_type ?_ (by show us.toArray.size ≤ sizeLine; rw [List.size_toArray]; exact hlen))
      refine wpAny_pure ⟨⟨_, Heap.get?_push_size _ rfl, rfl⟩, ?_⟩
      have hp : H' s'.heap.objs.size = none := I'.hok.fresh (Nat.le_refl _)
      have I2 := I'.laid (a := s'.heap.objs.size) (o := .tup xs) (t' := s'.toks) (h' := s'.heap.push { cls := .type "tuple", data := .seq us.toArray }) (fun b o e => Heap.get?_push_of_some _ e) (Nat.le_refl _) ⟨by rw [hv.length]; exact hlen, us, hv, ⟨_, Heap.get?_push_size _ rfl, rfl, ⟨_, rfl⟩⟩⟩
      have lp := Gh.put_le (o := .tup xs) (rh'.notF hp)
      exact hQ _ _ ⟨G.put s'.heap.objs.size (.tup xs), .ref _, l.trans lp, ⟨_, rh'.new hp _, I2⟩, .tup (SqT.of (by show upd G.F _ _ _ = _; rw [upd_same])) (hrd.mono lp), rfl⟩
    · cases e
end
section
variable {X : Cx} {T : Tb} {W : WX} {j : Nat} {c P : Addr} {elt tg iter : Expr} {ifs : List Expr} {scope : Scope} {own : List (Str × Nat)} {p gpos pos : Pos} {mi : Iv} {g : Gv} {mt : Bv} {me : Ev} {x : Str}
/-- tuple(elt for tg in iter if ..) -/
theorem de_tupGx (hr : Room (j + 6) X.A) (TB : GxR.TabB X.base X.mg c P) (hPT : (P, X.env.qual ++ "<genexpr>") ∈ T) (hTu : ∀ p ∈ T, p.1 = P → p.2 = X.env.qual ++ "<genexpr>") (hcode : X.env.code = .ref c) (hg : Gl X "tuple") (hm : X.mg "tuple" = none) (ok : GxOk X.N X.env.scope scope own) (hN : X.N.Nodup) (hi : DI X T W tg iter mi) (b : GxB X T scope (own.map (·.2)) tg ifs elt g mt me j)
    (hfo : ∀ v, genFold iter X.env v = pure v := by intro _; rfl) (he : starEach [.GeneratorExp elt [⟨tg, iter, ifs, 0⟩] scope gpos] X.env = (false, eval (.GeneratorExp elt [⟨tg, iter, ifs, 0⟩] scope gpos) X.env) :: starEach [] X.env := by rfl) :
    DE X T W (.Call (.Name "tuple" p) [.GeneratorExp elt [⟨tg, iter, ifs, 0⟩] scope gpos] [] pos) (eGx tTup mi (own.map (·.2)) g mt me) :=
  de_gx tTup_exc (hr.mono (by omega)) TB hPT hTu hcode ok hN hi b hfo (cons_tup hr) (hcall_t hg hm (by rfl) (by decide) (by decide) he)
end
end Sh

set_option Elab.async false
set_option linter.all false
set_option maxRecDepth 100000
set_option maxHeartbeats 4000000
/-! Sh13: what is walked; calls of built-ins. -/
namespace Sh
open PySem PySem.Spec PyProof.Rows L2

section
variable {X : Cx} {T : Tb} {W : WX} {tg e e2 a b c : Expr} {me : Ev} {ma : Av} {p pos tpos : Pos} {elts : List Expr} {kk : Nat}
/-- a list, a tuple, a text -/
def iSeq (me : Ev) : Iv := fun ρ h => (me ρ h).bind fun d h1 => match d with
  | .lst ds => .ok ⟨ds, none⟩ h1
  | .fls ds => .ok ⟨ds, none⟩ h1
  | .tup ds => .ok ⟨ds, none⟩ h1
  | .str x => .ok ⟨x.map fun c => .str [c], none⟩ h1
  | .obj n => (match h1[n]? with
    | some (.lst ds) => .ok ⟨ds, some n⟩ h1
    | _ => .err)
  | _ => .err
theorem jok_l {K : PySem.W.Frag} {G0 : Gh} {a : Addr} {ds : List D} {vs : List V} (q : ∀ G h H, G0.lw G → RH K T G h H → SqL K H a vs) (r : RDs K G0 ds vs) : JOk K T G0 (Itl K a) ⟨ds, none⟩ := by
  intro G h H l rh _ i
  have hs := q G h H l rh
  refine ⟨fun d e => ?_, fun hl => ⟨vs, hs, by rw [← r.length]; exact hl⟩⟩
  obtain ⟨v, e1, e2⟩ := r.get e
  refine ⟨⟨vs, v, hs, e1⟩, fun x H' ⟨eH, y⟩ => ?_⟩
  have e3 := y vs hs
  rw [e1] at e3; cases e3
  subst eH
  exact ⟨G, .refl G, rh, e2.monow l⟩
theorem jok_t {K : PySem.W.Frag} {G0 : Gh} {a : Addr} {ds : List D} {vs : List V} (q : ∀ G h H, G0.lw G → RH K T G h H → SqT K H a vs) (r : RDs K G0 ds vs) : JOk K T G0 (Itt K a) ⟨ds, none⟩ := by
  intro G h H l rh _ i
  have hs := q G h H l rh
  refine ⟨fun d e => ?_, fun hl => ⟨vs, hs, by rw [← r.length]; exact hl⟩⟩
  obtain ⟨v, e1, e2⟩ := r.get e
  refine ⟨⟨vs, v, hs, e1⟩, fun x H' ⟨eH, y⟩ => ?_⟩
  have e3 := y vs hs
  rw [e1] at e3; cases e3
  subst eH
  exact ⟨G, .refl G, rh, e2.monow l⟩
theorem jok_s {K : PySem.W.Frag} {G0 : Gh} (x : List Nat) : JOk K T G0 (Its (S x)) ⟨x.map fun c => .str [c], none⟩ := by
  intro G h H l rh _ i
  have el : (S x).cps.size = x.length := by simp
  refine ⟨fun d e => ?_, fun hl => ?_⟩
  · have hi : i < x.length := by
      have := (List.getElem?_eq_some_iff.mp e).1
      simpa using this
    refine ⟨by show i < (S x).cps.size; rw [el]; exact hi, fun v H' ⟨eH, c, ec, ev⟩ => ?_⟩
    subst eH ev
    have e : (x.map fun c => D.str [c])[i]? = some d := e
    rw [List.getElem?_map] at e
    have ec : x.toArray[i]? = some c := ec
    rw [List.getElem?_toArray] at ec
    rw [ec] at e
    cases e
    exact ⟨G, .refl G, rh, .str [c]⟩
  · have hl : (x.map fun c => D.str [c]).length ≤ i := hl
    rw [List.length_map] at hl
    show (S x).cps.size ≤ i
    rw [el]; exact hl
theorem di_seq (he : DE X T W e me) : DI X T W tg e (iSeq me) := ⟨PI.imp (PI.or (PI.or (pi_list he.p) (pi_tup he.p)) (pi_str he.p)) fun σ H R ⟨G, ρ, h, re, rh, p⟩ => by
  unfold iSeq at p
  cases e1 : me ρ h with
  | exc c h1 => rw [e1] at p; exact .inr ⟨G, ρ, h, re, rh, by rw [e1]; exact p⟩
  | err => rw [e1] at p; exact p.elim
  | ok d h1 =>
    rw [e1] at p
    cases d with
    | lst ds =>
      refine .inl (.inl ⟨G, ρ, h, re, rh, ?_⟩)
      rw [e1]
      intro G1 H1 v l1 rh1 rd1
      cases rd1 with
      | @lst _ vs a q r =>
        exact ⟨a, rfl, ⟨vs, SqL.of (rh1.F _ _ q)⟩, p G1 H1 _ l1 rh1 (jok_l (fun G h H l rh => SqL.of (rh.F _ _ (l.F _ _ q))) r)⟩
    | fls ds =>
      refine .inl (.inl ⟨G, ρ, h, re, rh, ?_⟩)
      rw [e1]
      intro G1 H1 v l1 rh1 rd1
      cases rd1 with
      | @fls _ vs a q r =>
        exact ⟨a, rfl, ⟨vs, SqL.mono q rh1.F⟩, p G1 H1 _ l1 rh1 (jok_l (fun G h H l rh => SqL.mono (SqL.mono q l.F) rh.F) r)⟩
    | tup ds =>
      refine .inl (.inr ⟨G, ρ, h, re, rh, ?_⟩)
      rw [e1]
      intro G1 H1 v l1 rh1 rd1
      cases rd1 with
      | @tup _ vs a q r =>
        exact ⟨a, rfl, ⟨vs, SqT.mono q rh1.F⟩, p G1 H1 _ l1 rh1 (jok_t (fun G h H l rh => SqT.mono (SqT.mono q l.F) rh.F) r)⟩
    | str x =>
      refine .inr ⟨G, ρ, h, re, rh, ?_⟩
      rw [e1]
      intro G1 H1 v l1 rh1 rd1
      cases rd1
      exact ⟨S x, rfl, p G1 H1 _ l1 rh1 (jok_s x)⟩
    | obj n =>
      simp only [Res.bind] at p
      split at p
      · rename_i ds eo
        refine .inl (.inl ⟨G, ρ, h, re, rh, ?_⟩)
        rw [e1]
        intro G1 H1 v l1 rh1 rd1
        cases rd1 with
        | @obj _ a ea =>
          obtain ⟨u, q1, q2⟩ := rh1.at eo ea (fun z => by cases z)
          cases q2 with
          | @lst _ vs r =>
            refine ⟨a, rfl, ⟨vs, SqL.of q1⟩, p G1 H1 _ l1 rh1 ?_⟩
            intro G h H l rh st i
            have es := st n rfl
            obtain ⟨u2, z1, z2⟩ := rh.at es (l.α _ _ ea) (fun z => by cases z)
            cases z2 with
            | @lst _ ws r2 =>
              refine ⟨fun d e => ?_, fun hl => ⟨ws, SqL.of z1, by rw [← r2.length]; exact hl⟩⟩
              obtain ⟨v, e1, e2⟩ := r2.get e
              refine ⟨⟨ws, v, SqL.of z1, e1⟩, fun x H' ⟨eH, y⟩ => ?_⟩
              have e3 := y ws (SqL.of z1)
              rw [e1] at e3; cases e3
              subst eH
              exact ⟨G, .refl G, rh, e2⟩
      · exact p.elim
    | _ => exact p.elim⟩
/-- range -/
def inR (i : Int) : Bool := decide (-4611686018427387904 ≤ i) && decide (i < 4611686018427387904)
theorem inR_ok {i : Int} (h : inR i = true) : -(2 ^ 62) ≤ i ∧ i < 2 ^ 62 := by
  unfold inR at h
  simp only [Bool.and_eq_true, decide_eq_true_eq] at h
  constructor <;> omega
def rngD (lo : Int) (n : Nat) : List D := (List.range n).map fun i => .int (lo + (i : Nat))
def iRng1 (ma : Av) : Iv := fun ρ h => (ma ρ h).bind fun ds h1 => match ds with
  | [.int j] => if inR j then .ok ⟨rngD 0 j.toNat, none⟩ h1 else .err
  | _ => .err
def iRng2 (ma : Av) : Iv := fun ρ h => (ma ρ h).bind fun ds h1 => match ds with
  | [.int i, .int j] => if inR i && inR j then .ok ⟨rngD i (j - i).toNat, none⟩ h1 else .err
  | _ => .err
def rngC (lo c : Int) (n : Nat) : List D := (List.range n).map fun i => .int (lo + (i : Nat) * c)
def iRng3 (ma : Av) : Iv := fun ρ h => (ma ρ h).bind fun ds h1 => match ds with
  | [.int i, .int j, .int c] => if decide (c ≠ 0) && decide (c.natAbs < 1073741824) && Builtin.Range.small i j c && decide (0 ≤ Builtin.Range.rangeSize i j c) then .ok ⟨rngC i c (Builtin.Range.rangeSize i j c).toNat, none⟩ h1 else .err
  | _ => .err
theorem jok_r {K : PySem.W.Frag} {G0 : Gh} (lo : Int) (n : Nat) : JOk K T G0 (Itr lo n) ⟨rngD lo n, none⟩ := by
  intro G h H l rh _ i
  refine ⟨fun d e => ?_, fun hl => ?_⟩
  · have e : (rngD lo n)[i]? = some d := e
    unfold rngD at e
    rw [List.getElem?_map] at e
    by_cases hi : i < n
    · rw [List.getElem?_range hi] at e
      cases e
      refine ⟨hi, fun x H' ⟨eH, ex⟩ => ?_⟩
      subst eH ex
      exact ⟨G, .refl G, rh, .int _⟩
    · rw [List.getElem?_eq_none (by simpa using hi)] at e; cases e
  · have hl : (rngD lo n).length ≤ i := hl
    unfold rngD at hl
    show n ≤ i
    simpa using hl
theorem jok_c {K : PySem.W.Frag} {G0 : Gh} (lo c : Int) (n : Nat) : JOk K T G0 (Itc lo c n) ⟨rngC lo c n, none⟩ := by
  intro G h H l rh _ i
  refine ⟨fun d e => ?_, fun hl => ?_⟩
  · have e : (rngC lo c n)[i]? = some d := e
    unfold rngC at e
    rw [List.getElem?_map] at e
    by_cases hi : i < n
    · rw [List.getElem?_range hi] at e
      cases e
      refine ⟨hi, fun x H' ⟨eH, ex⟩ => ?_⟩
      subst eH ex
      exact ⟨G, .refl G, rh, .int _⟩
    · rw [List.getElem?_eq_none (by simpa using hi)] at e; cases e
  · have hl : (rngC lo c n).length ≤ i := hl
    unfold rngC at hl
    show n ≤ i
    simpa using hl
theorem di_range1 (hg : Gl X "range") (hm : X.mg "range" = none) (ha : DA X T W [a] ma) (hs : starEach [a] X.env = [(false, eval a X.env)] := by rfl) : DI X T W tg (.Call (.Name "range" p) [a] [] pos) (iRng1 ma) := ⟨PI.imp (pi_range1 hg hm ha.p hs) fun σ H R ⟨G, ρ, h, re, rh, p⟩ => by
  refine ⟨G, ρ, h, re, rh, ?_⟩
  unfold iRng1 at p
  cases e1 : ma ρ h with
  | exc c h1 => rw [e1] at p; exact p
  | err => rw [e1] at p; exact p
  | ok ds h1 =>
    rw [e1] at p
    intro G1 H1 vs l1 rh1 rd1
    simp only [Res.bind] at p
    split at p
    · cases rd1 with
      | cons r1 r2 =>
        cases r1; cases r2
        split at p
        · rename_i hj
          exact ⟨_, rfl, (inR_ok hj).1, (inR_ok hj).2, p G1 H1 _ l1 rh1 (jok_r _ _)⟩
        · exact p.elim
    · exact p.elim⟩
theorem di_range2 (hg : Gl X "range") (hm : X.mg "range" = none) (ha : DA X T W [a, b] ma) (hs : starEach [a, b] X.env = [(false, eval a X.env), (false, eval b X.env)] := by rfl) (hs2 : starEach [b] X.env = [(false, eval b X.env)] := by rfl) : DI X T W tg (.Call (.Name "range" p) [a, b] [] pos) (iRng2 ma) := ⟨PI.imp (pi_range2 hg hm ha.p hs hs2) fun σ H R ⟨G, ρ, h, re, rh, p⟩ => by
  refine ⟨G, ρ, h, re, rh, ?_⟩
  unfold iRng2 at p
  cases e1 : ma ρ h with
  | exc c h1 => rw [e1] at p; exact p
  | err => rw [e1] at p; exact p
  | ok ds h1 =>
    rw [e1] at p
    intro G1 H1 vs l1 rh1 rd1
    simp only [Res.bind] at p
    split at p
    · cases rd1 with
      | cons r1 r2 =>
        cases r1
        cases r2 with
        | cons r3 r4 =>
          cases r3; cases r4
          split at p
          · rename_i hj
            simp only [Bool.and_eq_true] at hj
            exact ⟨_, _, rfl, ⟨(inR_ok hj.1).1, (inR_ok hj.1).2, (inR_ok hj.2).1, (inR_ok hj.2).2⟩, p G1 H1 _ l1 rh1 (jok_r _ _)⟩
          · exact p.elim
    · exact p.elim⟩
theorem di_range3 (hg : Gl X "range") (hm : X.mg "range" = none) (ha : DA X T W [a, b, c] ma) (hs : starEach [a, b, c] X.env = (false, eval a X.env) :: starEach [b, c] X.env := by rfl) (hpl : (backTo pos (starEach [b, c] X.env)).any (·.1) = false := by rfl) : DI X T W tg (.Call (.Name "range" p) [a, b, c] [] pos) (iRng3 ma) := ⟨PI.imp (pi_range3 hg hm ha.p hs hpl) fun σ H R ⟨G, ρ, h, re, rh, p⟩ => by
  refine ⟨G, ρ, h, re, rh, ?_⟩
  unfold iRng3 at p
  cases e1 : ma ρ h with
  | exc c h1 => rw [e1] at p; exact p
  | err => rw [e1] at p; exact p
  | ok ds h1 =>
    rw [e1] at p
    intro G1 H1 vs l1 rh1 rd1
    simp only [Res.bind] at p
    split at p
    · cases rd1 with
      | cons r1 r2 =>
        cases r1
        cases r2 with
        | cons r3 r4 =>
          cases r3
          cases r4 with
          | cons r5 r6 =>
            cases r5; cases r6
            split at p
            · rename_i hj
              simp only [Bool.and_eq_true, decide_eq_true_eq] at hj
              exact ⟨_, _, _, _, rfl, ⟨hj.1.1.1, hj.1.1.2, hj.1.2, (Int.toNat_of_nonneg hj.2).symm⟩, p G1 H1 _ l1 rh1 (jok_c _ _ _)⟩
            · exact p.elim
    · exact p.elim⟩
/-! ### zip, enumerate -/
def seqOf : D → Option (Bool × List D)
  | .lst ds => some (false, ds)
  | .fls ds => some (false, ds)
  | .tup ds => some (true, ds)
  | _ => none
def pairD (a b : D) : D := .tup [a, b]
def iZipD (ma : Av) : Iv := fun ρ h => (ma ρ h).bind fun ds h1 => match ds with
  | [x, y] => (match seqOf x, seqOf y with
    | some (false, xs), some (false, ys) => .ok ⟨List.zipWith pairD xs ys, none⟩ h1
    | some (true, xs), some (true, ys) => .ok ⟨List.zipWith pairD xs ys, none⟩ h1
    | _, _ => .err)
  | _ => .err
theorem seq_l {K : PySem.W.Frag} {G : Gh} {x : D} {v : V} {xs : List D} (r : RD K G x v) (e : seqOf x = some (false, xs)) : ∃ a vs, v = .ref a ∧ RDs K G xs vs ∧ ∀ G2 h H, G.lw G2 → RH K T G2 h H → SqL K H a vs := by
  cases r with
  | @lst _ vs a q r => cases e; exact ⟨a, vs, rfl, r, fun G2 h H l rh => SqL.of (rh.F _ _ (l.F _ _ q))⟩
  | @fls _ vs a q r => cases e; exact ⟨a, vs, rfl, r, fun G2 h H l rh => SqL.mono (SqL.mono q l.F) rh.F⟩
  | _ => cases e
theorem seq_t {K : PySem.W.Frag} {G : Gh} {x : D} {v : V} {xs : List D} (r : RD K G x v) (e : seqOf x = some (true, xs)) : ∃ a vs, v = .ref a ∧ RDs K G xs vs ∧ ∀ G2 h H, G.lw G2 → RH K T G2 h H → SqT K H a vs := by
  cases r with
  | @tup _ vs a q r => cases e; exact ⟨a, vs, rfl, r, fun G2 h H l rh => SqT.mono (SqT.mono q l.F) rh.F⟩
  | _ => cases e
theorem zip_get {xs ys : List D} {i : Nat} {d : D} (e : (List.zipWith pairD xs ys)[i]? = some d) : ∃ x y, xs[i]? = some x ∧ ys[i]? = some y ∧ d = pairD x y := by
  rw [List.getElem?_zipWith] at e
  cases ex : xs[i]? with
  | none => rw [ex] at e; cases e
  | some x =>
    cases ey : ys[i]? with
    | none => rw [ex, ey] at e; cases e
    | some y => rw [ex, ey] at e; cases e; exact ⟨x, y, rfl, rfl, rfl⟩
theorem di_zip {elt2 : List Expr} (hg : Gl X "zip") (hm : X.mg "zip" = none) (ha : DA X T W [e, e2] ma) (hs : starEach [e, e2] X.env = (false, eval e X.env) :: starEach [e2] X.env := by rfl) (hpl : (backTo pos (starEach [e2] X.env)).any (·.1) = false := by rfl) :
    DI X T W (.Tuple elt2 kk tpos) (.Call (.Name "zip" p) [e, e2] [] pos) (iZipD ma) := ⟨PI.imp (RZ.pi_zipA hg hm ha.p hs hpl) fun σ H R ⟨G, ρ, h, re, rh, p⟩ => by
  refine ⟨G, ρ, h, re, rh, ?_⟩
  unfold iZipD at p
  cases e1 : ma ρ h with
  | exc c h1 => rw [e1] at p; exact p
  | err => rw [e1] at p; exact p
  | ok ds h1 =>
    rw [e1] at p
    intro G1 H1 vs l1 rh1 rd1
    simp only [Res.bind] at p
    split at p
    · rename_i x y
      cases rd1 with
      | cons r1 r2 =>
        cases r2 with
        | cons r3 r4 =>
          cases r4
          split at p
          · rename_i xs ys ex ey
            obtain ⟨aa, va, rfl, ra, qa⟩ := seq_l (T := T) r1 ex
            obtain ⟨ab, vb, rfl, rb, qb⟩ := seq_l (T := T) r3 ey
            refine ⟨aa, ab, va, vb, rfl, .inl ⟨qa G1 h1 H1 (.refl _) rh1, qb G1 h1 H1 (.refl _) rh1, p G1 H1 _ l1 rh1 ?_⟩⟩
            intro G h H l rh _ i
            have sa := qa G h H l rh
            have sb := qb G h H l rh
            refine ⟨fun d e => ?_, fun hl => ⟨va, vb, sa, sb, ?_⟩⟩
            · obtain ⟨dx, dy, ix, iy, rfl⟩ := zip_get e
              obtain ⟨vx, f1, f2⟩ := ra.get ix
              obtain ⟨vy, g1, g2⟩ := rb.get iy
              refine ⟨⟨va, vb, vx, vy, sa, sb, f1, g1⟩, fun v H' ⟨TT, x, y, ev, hT, eH, yx, yy⟩ => ?_⟩
              have e3 := yx va sa
              have e4 := yy vb sb
              rw [f1] at e3; rw [g1] at e4
              cases e3; cases e4
              subst ev eH
              have lp := Gh.put_le (o := .tup [vx, vy]) (rh.notF hT)
              exact ⟨G.put TT (.tup [vx, vy]), lp, rh.new hT _, .tup (SqT.of (by show upd G.F _ _ _ = _; rw [upd_same])) (.cons (f2.monow (l.trans lp.w)) (.cons (g2.monow (l.trans lp.w)) .nil))⟩
            · have hl : (List.zipWith pairD xs ys).length ≤ i := hl
              rw [List.length_zipWith] at hl
              rw [← ra.length, ← rb.length]
              omega
          · rename_i xs ys ex ey
            obtain ⟨aa, va, rfl, ra, qa⟩ := seq_t (T := T) r1 ex
            obtain ⟨ab, vb, rfl, rb, qb⟩ := seq_t (T := T) r3 ey
            refine ⟨aa, ab, va, vb, rfl, .inr ⟨qa G1 h1 H1 (.refl _) rh1, qb G1 h1 H1 (.refl _) rh1, p G1 H1 _ l1 rh1 ?_⟩⟩
            intro G h H l rh _ i
            have sa := qa G h H l rh
            have sb := qb G h H l rh
            refine ⟨fun d e => ?_, fun hl => ⟨va, vb, sa, sb, ?_⟩⟩
            · obtain ⟨dx, dy, ix, iy, rfl⟩ := zip_get e
              obtain ⟨vx, f1, f2⟩ := ra.get ix
              obtain ⟨vy, g1, g2⟩ := rb.get iy
              refine ⟨⟨va, vb, vx, vy, sa, sb, f1, g1⟩, fun v H' ⟨TT, x, y, ev, hT, eH, yx, yy⟩ => ?_⟩
              have e3 := yx va sa
              have e4 := yy vb sb
              rw [f1] at e3; rw [g1] at e4
              cases e3; cases e4
              subst ev eH
              have lp := Gh.put_le (o := .tup [vx, vy]) (rh.notF hT)
              exact ⟨G.put TT (.tup [vx, vy]), lp, rh.new hT _, .tup (SqT.of (by show upd G.F _ _ _ = _; rw [upd_same])) (.cons (f2.monow (l.trans lp.w)) (.cons (g2.monow (l.trans lp.w)) .nil))⟩
            · have hl : (List.zipWith pairD xs ys).length ≤ i := hl
              rw [List.length_zipWith] at hl
              rw [← ra.length, ← rb.length]
              omega
          · exact p.elim
    · exact p.elim⟩
def enumD (ds : List D) : List D := ds.mapIdx fun i d => pairD (.int (i : Nat)) d
def iEnumD (ma : Av) : Iv := fun ρ h => (ma ρ h).bind fun ds h1 => match ds with
  | [x] => (match seqOf x with
    | some (false, xs) => .ok ⟨enumD xs, none⟩ h1
    | _ => .err)
  | _ => .err
theorem di_enum {elt2 : List Expr} (hg : Gl X "enumerate") (hm : X.mg "enumerate" = none) (ha : DA X T W [e] ma) (hs : starEach [e] X.env = [(false, eval e X.env)] := by rfl) :
    DI X T W (.Tuple elt2 kk tpos) (.Call (.Name "enumerate" p) [e] [] pos) (iEnumD ma) := ⟨PI.imp (pi_enum hg hm ha.p hs) fun σ H R ⟨G, ρ, h, re, rh, p⟩ => by
  refine ⟨G, ρ, h, re, rh, ?_⟩
  unfold iEnumD at p
  cases e1 : ma ρ h with
  | exc c h1 => rw [e1] at p; exact p
  | err => rw [e1] at p; exact p
  | ok ds h1 =>
    rw [e1] at p
    intro G1 H1 vs l1 rh1 rd1
    simp only [Res.bind] at p
    split at p
    · rename_i x
      cases rd1 with
      | cons r1 r2 =>
        cases r2
        split at p
        · rename_i xs ex
          obtain ⟨aa, va, rfl, ra, qa⟩ := seq_l (T := T) r1 ex
          refine ⟨aa, va, rfl, qa G1 h1 H1 (.refl _) rh1, p G1 H1 _ l1 rh1 ?_⟩
          intro G h H l rh _ i
          have sa := qa G h H l rh
          refine ⟨fun d e => ?_, fun hl => ⟨va, sa, ?_⟩⟩
          · have e : (enumD xs)[i]? = some d := e
            unfold enumD at e
            rw [List.getElem?_mapIdx] at e
            cases ix : xs[i]? with
            | none => rw [ix] at e; cases e
            | some dx =>
              rw [ix] at e
              cases e
              obtain ⟨vx, f1, f2⟩ := ra.get ix
              refine ⟨⟨va, vx, sa, f1⟩, fun v H' ⟨TT, x, ev, hT, eH, yx⟩ => ?_⟩
              have e3 := yx va sa
              rw [f1] at e3
              cases e3
              subst ev eH
              have lp := Gh.put_le (o := .tup [.int (i : Nat), vx]) (rh.notF hT)
              exact ⟨G.put TT (.tup [.int (i : Nat), vx]), lp, rh.new hT _, .tup (SqT.of (by show upd G.F _ _ _ = _; rw [upd_same])) (.cons (.int _) (.cons (f2.monow (l.trans lp.w)) .nil))⟩
          · have hl : (enumD xs).length ≤ i := hl
            unfold enumD at hl
            rw [List.length_mapIdx] at hl
            rw [← ra.length]
            exact hl
        · exact p.elim
    · exact p.elim⟩
end
end Sh

set_option Elab.async false
set_option linter.all false
set_option maxRecDepth 100000
set_option maxHeartbeats 4000000
/-! Sh14: calls of built-ins, slices, methods of texts and lists. -/
namespace Sh
open PySem PySem.Spec PyProof.Rows L2

theorem S_cps (a : Str) : S a.cps.toList = a := by cases a; rfl
abbrev cp (a : Str) : List Nat := a.cps.toList
theorem rd_cp {K : PySem.W.Frag} {G : Gh} (a : Str) : RD K G (.str (cp a)) (.str a) := by
  have r : RD K G (.str (cp a)) (.str (S (cp a))) := .str (cp a)
  rw [S_cps] at r
  exact r
/-- the items of a list or a tuple (false: a list) -/
def seqH (h : LH) : D → Option (Bool × List D)
  | .lst ds => some (false, ds)
  | .fls ds => some (false, ds)
  | .tup ds => some (true, ds)
  | .obj n => (match h[n]? with
    | some (.lst ds) => some (false, ds)
    | _ => none)
  | _ => none
section
variable {X : Cx} {T : Tb} {W : WX}
theorem seqH_l {K : PySem.W.Frag} {G : Gh} {h : LH} {H : Hp} {x : D} {v : V} {xs : List D} (rh : RH K T G h H) (r : RD K G x v) (e : seqH h x = some (false, xs)) : ∃ a vs, v = .ref a ∧ RDs K G xs vs ∧ SqL K H a vs := by
  cases r with
  | @lst _ vs a q r => cases e; exact ⟨a, vs, rfl, r, SqL.of (rh.F _ _ q)⟩
  | @fls _ vs a q r => cases e; exact ⟨a, vs, rfl, r, SqL.mono q rh.F⟩
  | @obj n a ea =>
    have e : (match h[n]? with
      | some (.lst ds) => some (false, ds)
      | _ => none) = some (false, xs) := e
    split at e
    · rename_i eo
      cases e
      obtain ⟨u, q1, q2⟩ := rh.at eo ea (fun z => by cases z)
      cases q2 with
      | @lst _ vs r => exact ⟨a, vs, rfl, r, SqL.of q1⟩
    · cases e
  | _ => cases e
theorem seqH_t {K : PySem.W.Frag} {G : Gh} {h : LH} {H : Hp} {x : D} {v : V} {xs : List D} (rh : RH K T G h H) (r : RD K G x v) (e : seqH h x = some (true, xs)) : ∃ a vs, v = .ref a ∧ RDs K G xs vs ∧ SqT K H a vs := by
  cases r with
  | @tup _ vs a q r => cases e; exact ⟨a, vs, rfl, r, SqT.mono q rh.F⟩
  | @obj n a ea =>
    have e : (match h[n]? with
      | some (.lst ds) => some (false, ds)
      | _ => none) = some (true, xs) := e
    split at e <;> cases e
  | _ => cases e
def bLen : List D → LH → Option (D × LH)
  | [.str x], h => if fits x.length then some (.int x.length, h) else none
  | [x], h => (seqH h x).map fun q => (.int q.2.length, h)
  | _, _ => none
theorem cd_len : CallD X T (.builtin "len") bLen := by
  intro pins s σ H xs us Q I r ⟨G, h, ds, d, h', rh, rd, e, k⟩
  unfold bLen at e
  split at e
  · rename_i x
    cases rd with
    | cons r1 r2 =>
      cases r1; cases r2
      split at e
      · rename_i hf
        cases e
        exact call_len pins s σ H _ us Q I r ⟨_, x.length, rfl, ⟨by rw [S_len]; exact fits_ok hf, by rw [S_len]⟩, k G H _ (.refl G) rh (.int _)⟩
      · cases e
  · rename_i x hx
    cases rd with
    | cons r1 r2 =>
      cases r2
      cases e1 : seqH h x with
      | none => rw [e1] at e; cases e
      | some q =>
        rw [e1] at e
        cases e
        obtain ⟨b, ds⟩ := q
        cases b with
        | false =>
          obtain ⟨a, vs, rfl, rr, hs⟩ := seqH_l rh r1 e1
          exact call_len pins s σ H _ us Q I r ⟨_, vs.length, rfl, .inl ⟨vs, hs, rfl⟩, by rw [← rr.length]; exact k G H _ (.refl G) rh (.int _)⟩
        | true =>
          obtain ⟨a, vs, rfl, rr, hs⟩ := seqH_t rh r1 e1
          exact call_len pins s σ H _ us Q I r ⟨_, vs.length, rfl, .inr ⟨vs, hs, rfl⟩, by rw [← rr.length]; exact k G H _ (.refl G) rh (.int _)⟩
  · cases e
def bMax : List D → LH → Option (D × LH)
  | [.int i, .int j], h => some (.int (if j > i then j else i), h)
  | _, _ => none
theorem cd_max (hc : X.calm = true) : CallD X T (.builtin "max") bMax := by
  intro pins s σ H xs us Q I r ⟨G, h, ds, d, h', rh, rd, e, k⟩
  unfold bMax at e
  split at e
  · cases e
    cases rd with
    | cons r1 r2 => cases r2 with
      | cons r3 r4 =>
        cases r1; cases r3; cases r4
        exact call_max2 hc pins s σ H _ us Q I r ⟨_, _, rfl, k G H _ (.refl G) rh (.int _)⟩
  · cases e
def bMin : List D → LH → Option (D × LH)
  | [.int i, .int j], h => some (.int (if j < i then j else i), h)
  | _, _ => none
theorem cd_min (hc : X.calm = true) : CallD X T (.builtin "min") bMin := by
  intro pins s σ H xs us Q I r ⟨G, h, ds, d, h', rh, rd, e, k⟩
  unfold bMin at e
  split at e
  · cases e
    cases rd with
    | cons r1 r2 => cases r2 with
      | cons r3 r4 =>
        cases r1; cases r3; cases r4
        exact call_min2 hc pins s σ H _ us Q I r ⟨_, _, rfl, k G H _ (.refl G) rh (.int _)⟩
  · cases e
def bAbs : List D → LH → Option (D × LH)
  | [.int i], h => some (.int (if i < 0 then -i else i), h)
  | _, _ => none
theorem cd_abs : CallD X T (.builtin "abs") bAbs := by
  intro pins s σ H xs us Q I r ⟨G, h, ds, d, h', rh, rd, e, k⟩
  unfold bAbs at e
  split at e
  · cases e
    cases rd with
    | cons r1 r2 =>
      cases r1; cases r2
      exact call_abs pins s σ H _ us Q I r ⟨_, rfl, k G H _ (.refl G) rh (.int _)⟩
  · cases e
def bInt : List D → LH → Option (D × LH)
  | [.int i], h => some (.int i, h)
  | [.bl k], h => some (.int (if k then 1 else 0), h)
  | [.str x], h => if decide (x.length ≤ 640) then (PySem.intText? (S x)).map fun n => (.int n, h) else none
  | _, _ => none
theorem cd_int : CallD X T (.type "int") bInt := by
  intro pins s σ H xs us Q I r ⟨G, h, ds, d, h', rh, rd, e, k⟩
  unfold bInt at e
  split at e
  · cases e
    cases rd with
    | cons r1 r2 =>
      cases r1; cases r2
      exact call_int1 pins s σ H _ us Q I r (.inl ⟨_, rfl, k G H _ (.refl G) rh (.int _)⟩)
  · cases e
    cases rd with
    | cons r1 r2 =>
      cases r1; cases r2
      exact call_int1 pins s σ H _ us Q I r (.inr ⟨_, rfl, k G H _ (.refl G) rh (.int _)⟩)
  · rename_i x
    cases rd with
    | cons r1 r2 =>
      cases r1; cases r2
      split at e
      · rename_i hl
        cases e1 : PySem.intText? (S x) with
        | none => rw [e1] at e; cases e
        | some n =>
          rw [e1] at e
          cases e
          exact call_int_str pins s σ H _ us Q I r ⟨_, n, rfl, e1, by rw [S_len]; exact of_decide_eq_true hl, k G H _ (.refl G) rh (.int _)⟩
      · cases e
  · cases e
def bBool : List D → LH → Option (D × LH)
  | [.int i], h => some (.bl (i != 0), h)
  | [.bl k], h => some (.bl k, h)
  | _, _ => none
theorem cd_bool : CallD X T (.type "bool") bBool := by
  intro pins s σ H xs us Q I r ⟨G, h, ds, d, h', rh, rd, e, k⟩
  unfold bBool at e
  split at e
  · cases e
    cases rd with
    | cons r1 r2 =>
      cases r1; cases r2
      exact call_bool1 pins s σ H _ us Q I r (.inl ⟨_, rfl, k G H _ (.refl G) rh (.bl _)⟩)
  · cases e
    cases rd with
    | cons r1 r2 =>
      cases r1; cases r2
      exact call_bool1 pins s σ H _ us Q I r (.inr ⟨_, rfl, k G H _ (.refl G) rh (.bl _)⟩)
  · cases e
def bStr : List D → LH → Option (D × LH)
  | [.int i], h => if decide (i.natAbs.log2 < 1920) then some (.str (cp (toString i : Str)), h) else none
  | [.str x], h => some (.str x, h)
  | _, _ => none
theorem cd_str : CallD X T (.type "str") bStr := by
  intro pins s σ H xs us Q I r ⟨G, h, ds, d, h', rh, rd, e, k⟩
  unfold bStr at e
  split at e
  · cases rd with
    | cons r1 r2 =>
      cases r1; cases r2
      split at e
      · rename_i hl
        cases e
        exact call_str_int pins s σ H _ us Q I r ⟨_, rfl, of_decide_eq_true hl, k G H _ (.refl G) rh (rd_cp _)⟩
      · cases e
  · cases e
    cases rd with
    | cons r1 r2 =>
      cases r1; cases r2
      exact SkE.call_str_str pins s σ H _ us Q I r ⟨_, rfl, k G H _ (.refl G) rh (.str _)⟩
  · cases e
/-- list(x): a list that never changes -/
def bList : List D → LH → Option (D × LH)
  | [x], h => (seqH h x).map fun q => (.lst q.2, h)
  | _, _ => none
theorem cd_list : CallD X T (.type "list") bList := by
  intro pins s σ H xs us Q I r ⟨G, h, ds, d, h', rh, rd, e, k⟩
  unfold bList at e
  split at e
  · rename_i x
    cases rd with
    | cons r1 r2 =>
      cases r2
      cases e1 : seqH h x with
      | none => rw [e1] at e; cases e
      | some q =>
        rw [e1] at e
        cases e
        obtain ⟨b, ds⟩ := q
        cases b with
        | false =>
          obtain ⟨a, vs, rfl, rr, hs⟩ := seqH_l rh r1 e1
          exact call_list_of pins s σ H _ us Q I r ⟨_, vs, rfl, .inl hs, fin_lst k rh rr⟩
        | true =>
          obtain ⟨a, vs, rfl, rr, hs⟩ := seqH_t rh r1 e1
          exact call_list_of pins s σ H _ us Q I r ⟨_, vs, rfl, .inr hs, fin_lst k rh rr⟩
  · cases e
/-- .. that will be changed -/
def bListN : List D → LH → Option (D × LH)
  | [x], h => (seqH h x).map fun q => (.obj h.length, h ++ [.lst q.2])
  | _, _ => none
theorem cd_listN : CallD X T (.type "list") bListN := by
  intro pins s σ H xs us Q I r ⟨G, h, ds, d, h', rh, rd, e, k⟩
  unfold bListN at e
  split at e
  · rename_i x
    cases rd with
    | cons r1 r2 =>
      cases r2
      cases e1 : seqH h x with
      | none => rw [e1] at e; cases e
      | some q =>
        rw [e1] at e
        cases e
        obtain ⟨b, ds⟩ := q
        cases b with
        | false =>
          obtain ⟨a, vs, rfl, rr, hs⟩ := seqH_l rh r1 e1
          exact call_list_of pins s σ H _ us Q I r ⟨_, vs, rfl, .inl hs, fun q hq => fin_new k rh q hq (.lst (rr.mono Gh.add_le))⟩
        | true =>
          obtain ⟨a, vs, rfl, rr, hs⟩ := seqH_t rh r1 e1
          exact call_list_of pins s σ H _ us Q I r ⟨_, vs, rfl, .inr hs, fun q hq => fin_new k rh q hq (.lst (rr.mono Gh.add_le))⟩
  · cases e
def bTuple : List D → LH → Option (D × LH)
  | [x], h => (seqH h x).map fun q => (.tup q.2, h)
  | _, _ => none
theorem cd_tuple : CallD X T (.type "tuple") bTuple := by
  intro pins s σ H xs us Q I r ⟨G, h, ds, d, h', rh, rd, e, k⟩
  unfold bTuple at e
  split at e
  · rename_i x
    cases rd with
    | cons r1 r2 =>
      cases r2
      cases e1 : seqH h x with
      | none => rw [e1] at e; cases e
      | some q =>
        rw [e1] at e
        cases e
        obtain ⟨b, ds⟩ := q
        cases b with
        | false =>
          obtain ⟨a, vs, rfl, rr, hs⟩ := seqH_l rh r1 e1
          exact call_tuple_of pins s σ H _ us Q I r ⟨_, vs, rfl, .inl ⟨hs, fin_tup k rh rr⟩⟩
        | true =>
          cases r1 with
          | @tup _ vs a q r =>
            cases e1
            exact call_tuple_of pins s σ H _ us Q I ‹_› ⟨_, vs, rfl, .inr ⟨SqT.mono q rh.F, fin_at k rh (.tup q r)⟩⟩
          | @obj n a ea =>
            have e1 : (match h[n]? with
              | some (.lst ds) => some (false, ds)
              | _ => none) = some (true, ds) := e1
            split at e1 <;> cases e1
          | _ => cases e1
  · cases e
end
end Sh

set_option Elab.async false
set_option linter.all false
set_option maxRecDepth 100000
set_option maxHeartbeats 4000000
/-! Sh15: slices, methods of texts and lists. -/
namespace Sh
open PySem PySem.Spec PyProof.Rows L2

abbrev Ov := En → LH → Res (Option Int)
def PostO (K : PySem.W.Frag) (T : Tb) (W : WX) (σ : L2.St) (G : Gh) (r : Res (Option Int)) (Q : Option Int → Hp → Prop) : Prop := match r with
  | .ok d h' => ∀ G' H', G.le G' → RH K T G' h' H' → Q d H'
  | .exc c h' => ∀ G' H', G.le G' → RH K T G' h' H' → W (.ref (He.ga K c)) none σ H'
  | .err => False
def tO (K : PySem.W.Frag) (T : Tb) (W : WX) (m : Ov) : L2.TO := fun σ H Q => ∃ G ρ h, RE K G ρ σ ∧ RH K T G h H ∧ PostO K T W σ G (m ρ h) Q
structure DO (X : Cx) (T : Tb) (W : WX) (o : Option Expr) (m : Ov) : Prop where
  p : PO X o (tO X.K T W m)
theorem PO.imp {X : Cx} {e : Option Expr} {t t' : L2.TO} (h : PO X e t) (i : ∀ σ H Q, t' σ H Q → t σ H Q) : PO X e t' := ⟨fun pins s σ H Q I q => h.run pins s σ H Q I (i _ _ _ q)⟩
def oNo : Ov := fun _ h => .ok none h
def oYes (m : Ev) : Ov := fun ρ h => (m ρ h).bind fun d h1 => match d with
  | .int i => .ok (some i) h1
  | _ => .err
def cutD {α : Type} (xs : List α) (lo hi : Option Int) : List α := (xs.drop (HT.sIx xs.length 0 lo)).take (HT.sIx xs.length xs.length hi - HT.sIx xs.length 0 lo)
def dSl (h : LH) (d : D) (lo hi : Option Int) : Option D := match d with
  | .str x => if fits x.length then some (.str (cutD x lo hi)) else none
  | d => match seqH h d with
    | some (false, xs) => some (.lst (cutD xs lo hi))
    | some (true, xs) => some (.tup (cutD xs lo hi))
    | none => none
theorem RDs.cut {K : PySem.W.Frag} {G : Gh} {xs : List D} {vs : List V} (r : RDs K G xs vs) (lo hi : Option Int) : RDs K G (cutD xs lo hi) (L2.cutV vs lo hi) := by
  unfold cutD L2.cutV
  rw [r.length]
  exact (r.drop _).take _
def rSlD (K : PySem.W.Frag) (T : Tb) : V → Option Int → Option Int → Hp → VK → Prop := fun x lo hi H Q => ∃ G h dx d, RH K T G h H ∧ RD K G dx x ∧ dSl h dx lo hi = some d ∧ ∀ G' H' z, G.le G' → RH K T G' h H' → RD K G' d z → Q z H'
section
variable {X : Cx} {T : Tb} {W : WX} {pos p2 : Pos} {e : Expr} {me : Ev} {lo hi : Option Expr} {ml mh : Ov}
theorem do_no : DO X T W none oNo := ⟨PO.imp po_none fun σ H Q ⟨G, ρ, h, re, rh, p⟩ => p G H (.refl G) rh⟩
theorem do_yes (he : DE X T W e me) : DO X T W (some e) (oYes me) := ⟨PO.imp (po_some he.p) fun σ H Q ⟨G, ρ, h, re, rh, p⟩ => by
  refine ⟨G, ρ, h, re, rh, ?_⟩
  unfold oYes at p
  cases e1 : me ρ h with
  | exc c h1 => rw [e1] at p; exact p
  | err => rw [e1] at p; exact p
  | ok d h1 =>
    rw [e1] at p
    intro G1 H1 v l1 rh1 rd1
    cases rd1 with
    | int i => exact ⟨i, rfl, p G1 H1 l1 rh1⟩
    | _ => exact p.elim⟩
theorem sl_red : SlR X (rSlD X.K T) := by
  intro pins s σ H x v vl vu lo hi sl Q I rx hs pl pu ⟨G, h, dx, d, rh, rd, ed, k⟩
  unfold dSl at ed
  split at ed
  · rename_i x
    cases rd
    split at ed
    · rename_i hf
      cases ed
      refine L2.sl_str pins s σ H _ v vl vu lo hi sl Q I rx hs pl pu ⟨_, rfl, by rw [S_len]; exact fits_ok hf, ?_⟩
      have ec : L2.cutS (S x) lo hi = S (cutD x lo hi) := by
        unfold L2.cutS cutD
        have el : (S x).length = x.length := S_len x
        rw [el]
      rw [ec]
      exact k G H _ (.refl G) rh (.str _)
    · cases ed
  · split at ed
    · rename_i xs es
      cases ed
      obtain ⟨a, vs, rfl, r, q⟩ := seqH_l rh rd es
      exact L2.sl_list pins s σ H _ v vl vu lo hi sl Q I rx hs pl pu ⟨a, vs, rfl, q, fin_lst k rh (r.cut lo hi)⟩
    · rename_i xs es
      cases ed
      cases rd with
      | @tup _ vs a q r =>
        cases es
        refine L2.sl_tupA pins s σ H _ v vl vu lo hi sl Q I rx hs pl pu ⟨a, vs, rfl, SqT.mono q rh.F, fun ⟨w1, w2⟩ => ?_, fun _ => fin_tup k rh (r.cut lo hi)⟩
        have ec : cutD xs lo hi = xs := by
          unfold cutD
          rw [← r.length] at w1 w2
          rw [w1, w2, List.drop_zero, Nat.sub_zero, List.take_length]
        rw [ec] at k
        exact fin_at k rh (.tup q r)
      | @obj n a ea =>
        have es : (match h[n]? with
          | some (.lst ds) => some (false, ds)
          | _ => none) = some (true, xs) := es
        split at es <;> cases es
      | _ => cases es
    · cases ed
def eSl (m : Ev) (l u : Ov) : Ev := fun ρ h => (m ρ h).bind fun x h1 => (l ρ h1).bind fun lo h2 => (u ρ h2).bind fun hi h3 => liftO h3 (dSl h3 x lo hi)
theorem de_sl (he : DE X T W e me) (hl : DO X T W lo ml) (hu : DO X T W hi mh) : DE X T W (.Subscript e (.Slice lo hi none p2) pos) (eSl me ml mh) := ⟨PE.imp (pe_slice (sl_red (T := T)) he.p hl.p hu.p) fun σ H Q ⟨G, ρ, h, re, rh, p⟩ => by
  refine ⟨G, ρ, h, re, rh, ?_⟩
  unfold eSl at p
  cases e1 : me ρ h with
  | exc c h1 => rw [e1] at p; exact p
  | err => rw [e1] at p; exact p.elim
  | ok x h1 =>
    rw [e1] at p
    intro G1 H1 v1 l1 rh1 rd1
    refine ⟨G1, ρ, h1, re.mono l1, rh1, ?_⟩
    simp only [Res.bind] at p
    cases e2 : ml ρ h1 with
    | exc c h2 => rw [e2] at p; exact fun G2 H2 l2 rh2 => p G2 H2 (l1.trans l2) rh2
    | err => rw [e2] at p; exact p.elim
    | ok o h2 =>
      rw [e2] at p
      simp only [Res.bind] at p
      intro G2 H2 l2 rh2
      refine ⟨G2, ρ, h2, (re.mono l1).mono l2, rh2, ?_⟩
      cases e3 : mh ρ h2 with
      | exc c h3 => rw [e3] at p; exact fun G3 H3 l3 rh3 => p G3 H3 ((l1.trans l2).trans l3) rh3
      | err => rw [e3] at p; exact p.elim
      | ok u h3 =>
        rw [e3] at p
        simp only [Res.bind] at p
        intro G3 H3 l3 rh3
        cases e4 : dSl h3 x o u with
        | none => rw [e4] at p; exact p.elim
        | some d => rw [e4] at p; exact ⟨G3, h3, x, d, rh3, (rd1.mono l2).mono l3, e4, fun G4 H4 z l4 r4 d4 => p G4 H4 z (((l1.trans l2).trans l3).trans l4) r4 d4⟩⟩
/-- xs[::-1] of a list -/
def eRev (m : Ev) : Ev := fun ρ h => (m ρ h).bind fun x h1 => match seqH h1 x with
  | some (false, xs) => .ok (.lst xs.reverse) h1
  | _ => .err
theorem de_revL {k : Nat} {p1 p2 p3 : Pos} (he : DE X T W e me) : DE X T W (.Subscript e (.Slice none none (some (.UnaryOp .USub (.Constant (.int 1) k p1) p2)) p3) pos) (eRev me) := ⟨PE.imp (pe_revL he.p) fun σ H Q ⟨G, ρ, h, re, rh, p⟩ => by
  refine ⟨G, ρ, h, re, rh, ?_⟩
  unfold eRev at p
  cases e1 : me ρ h with
  | exc c h1 => rw [e1] at p; exact p
  | err => rw [e1] at p; exact p.elim
  | ok x h1 =>
    rw [e1] at p
    intro G1 H1 v1 l1 rh1 rd1
    simp only [Res.bind] at p
    split at p
    · rename_i xs es
      obtain ⟨a, vs, rfl, r, q⟩ := seqH_l rh1 rd1 es
      exact ⟨a, vs, rfl, q, fin_lst (fun G' H' z l rh rd => p G' H' z (l1.trans l) rh rd) rh1 r.reverse⟩
    · exact p.elim⟩
/-! ### methods -/
abbrev Mf := D → List D → LH → Option (D × LH)
def rMt (K : PySem.W.Frag) (T : Tb) (f : Mf) : V → List V → Hp → VK → Prop := fun x xs H Q => ∃ G h dx ds d h', RH K T G h H ∧ RD K G dx x ∧ RDs K G ds xs ∧ f dx ds h = some (d, h') ∧ ∀ G' H' z, G.le G' → RH K T G' h' H' → RD K G' d z → Q z H'
abbrev MtD (X : Cx) (T : Tb) (id : String) (f : Mf) : Prop := MtR X id (rMt X.K T f)
def tyD (ty : String) (x : D) (h : LH) : Bool := match x with
  | .str _ => decide (ty = "str")
  | .int _ => decide (ty = "int")
  | .lst _ => decide (ty = "list")
  | .fls _ => decide (ty = "list")
  | .dic _ => decide (ty = "dict")
  | .obj n => (match h[n]? with
    | some (.lst _) => decide (ty = "list")
    | some (.dic _) => decide (ty = "dict")
    | some (.dt _) => decide (ty = "dict")
    | _ => false)
  | _ => false
theorem tyD_ok {K : PySem.W.Frag} {G : Gh} {h : LH} {H : Hp} {x : D} {v : V} {ty : String} (rh : RH K T G h H) (r : RD K G x v) (e : tyD ty x h = true) : tyV K ty v H := by
  cases r with
  | str x => exact of_decide_eq_true (p := ty = "str") e
  | int x => exact of_decide_eq_true (p := ty = "int") e
  | lst q _ => exact .inl ⟨of_decide_eq_true e, _, SqL.of (rh.F _ _ q)⟩
  | fls q _ => exact .inl ⟨of_decide_eq_true e, _, SqL.mono q rh.F⟩
  | dic q _ => exact .inr (.inr (.inl ⟨of_decide_eq_true e, .inl ⟨_, rh.F _ _ q⟩⟩))
  | @obj n a ea =>
    have e : (match h[n]? with
      | some (.lst _) => decide (ty = "list")
      | some (.dic _) => decide (ty = "dict")
      | some (.dt _) => decide (ty = "dict")
      | _ => false) = true := e
    split at e
    · rename_i eo
      obtain ⟨u, q1, q2⟩ := rh.at eo ea (fun z => by cases z)
      cases q2
      exact .inl ⟨of_decide_eq_true e, _, SqL.of q1⟩
    · rename_i eo
      obtain ⟨u, q1, q2⟩ := rh.at eo ea (fun z => by cases z)
      cases q2
      exact .inr (.inr (.inl ⟨of_decide_eq_true e, .inl ⟨_, q1⟩⟩))
    · rename_i eo
      obtain ⟨u, q1, q2⟩ := rh.at eo ea (fun z => by cases z)
      cases q2
      exact .inr (.inr (.inl ⟨of_decide_eq_true e, .inr ⟨_, q1⟩⟩))
    · cases e
  | _ => cases e
def eMt (ty : String) (f : Mf) (mo : Ev) (ma : Av) : Ev := fun ρ h => (mo ρ h).bind fun x h1 => if tyD ty x h1 then (ma ρ h1).bind fun ds h2 => (match f x ds h2 with
  | some (d, h3) => .ok d h3
  | none => .err) else .err
variable {o : Expr} {es : List Expr} {mo : Ev} {ma : Av} {name : Str} {apos cpos : Pos} {id ty : String} {f : Mf}
theorem de_m0 (pa : PlainAttrs ty) (slot : Slot ty name id) (hty : typeOf (.builtin id) = pure (.type "method_descriptor")) (hm : MtD X T id f) (ho : DE X T W o mo)
    (hbase : attributeBase o name X.env (eval o X.env) = eval o X.env := by rfl) (hline : (apos.endLine == cpos.line) = true := by rfl) : DE X T W (.Call (.Attribute o name apos) [] [] cpos) (eMt ty f mo aNil) := ⟨PE.imp (pe_bm0 pa slot hty hm ho.p hbase hline) fun σ H Q ⟨G, ρ, h, re, rh, p⟩ => by
  refine ⟨G, ρ, h, re, rh, ?_⟩
  unfold eMt at p
  cases e1 : mo ρ h with
  | exc c h1 => rw [e1] at p; exact p
  | err => rw [e1] at p; exact p.elim
  | ok x h1 =>
    rw [e1] at p
    intro G1 H1 v1 l1 rh1 rd1
    simp only [Res.bind] at p
    split at p
    · rename_i ht
      refine ⟨tyD_ok rh1 rd1 ht, ?_⟩
      have p : Post X.K T W σ G (match f x [] h1 with
        | some (d, h3) => .ok d h3
        | none => .err) Q := p
      cases e2 : f x [] h1 with
      | none => rw [e2] at p; exact p.elim
      | some q => rw [e2] at p; exact ⟨G1, h1, x, [], q.1, q.2, rh1, rd1, .nil, e2, fun G' H' z l r d => p G' H' z (l1.trans l) r d⟩
    · exact p.elim⟩
theorem de_m (pa : PlainAttrs ty) (slot : Slot ty name id) (hty : typeOf (.builtin id) = pure (.type "method_descriptor")) (hm : MtD X T id f) (ho : DE X T W o mo) (ha : DA X T W (e :: es) ma)
    (hbase : attributeBase o name X.env (eval o X.env) = eval o X.env := by rfl)
    (hfew : ((backTo cpos (starEach (e :: es) X.env)).all (fun x => !x.1) && (backToKw cpos (keywordEach [] X.env)).all (fun x => x.1.isSome)
      && decide ((e :: es).length + ([] : List Keyword).length + (if ([] : List Keyword).isEmpty then 0 else 1) < 30)) = true := by rfl)
    (hline : (apos.endLine == cpos.line) = true := by rfl) (hs : starEach (e :: es) X.env = (false, eval e X.env) :: starEach es X.env := by rfl) (hplain : (backTo cpos (starEach es X.env)).any (·.1) = false := by rfl) :
    DE X T W (.Call (.Attribute o name apos) (e :: es) [] cpos) (eMt ty f mo ma) := ⟨PE.imp (pe_bm pa slot hty hm ho.p ha.p hbase hfew hline hs hplain) fun σ H Q ⟨G, ρ, h, re, rh, p⟩ => by
  refine ⟨G, ρ, h, re, rh, ?_⟩
  unfold eMt at p
  cases e1 : mo ρ h with
  | exc c h1 => rw [e1] at p; exact p
  | err => rw [e1] at p; exact p.elim
  | ok x h1 =>
    rw [e1] at p
    intro G1 H1 v1 l1 rh1 rd1
    simp only [Res.bind] at p
    split at p
    · rename_i ht
      refine ⟨tyD_ok rh1 rd1 ht, G1, ρ, h1, re.mono l1, rh1, ?_⟩
      cases e2 : ma ρ h1 with
      | exc c h2 => rw [e2] at p; exact fun G2 H2 l2 rh2 => p G2 H2 (l1.trans l2) rh2
      | err => rw [e2] at p; exact p.elim
      | ok ds h2 =>
        rw [e2] at p
        intro G2 H2 vs l2 rh2 rd2
        have p : Post X.K T W σ G (match f x ds h2 with
          | some (d, h3) => .ok d h3
          | none => .err) Q := p
        cases e3 : f x ds h2 with
        | none => rw [e3] at p; exact p.elim
        | some q => rw [e3] at p; exact ⟨G2, h2, x, ds, q.1, q.2, rh2, rd1.mono l2, rd2, e3, fun G' H' z l r d => p G' H' z ((l1.trans l2).trans l) r d⟩
    · exact p.elim⟩
/-! of texts -/
def mS0 (g : List Nat → Option D) : Mf := fun x ds h => match x, ds with
  | .str a, [] => (g a).map fun d => (d, h)
  | _, _ => none
def mS1 (g : List Nat → List Nat → Option D) : Mf := fun x ds h => match x, ds with
  | .str a, [.str b] => (g a b).map fun d => (d, h)
  | _, _ => none
theorem md_s0 {id : String} {g : List Nat → Option D} {r : V → List V → Hp → VK → Prop} (hr : MtR X id r) (hg : ∀ a d H Q, g a = some d → (∀ v, (∀ G : Gh, RD X.K G d v) → Q v H) → r (.str (S a)) [] H Q) : MtD X T id (mS0 g) := by
  intro pins s σ H x xs v us Q I rx rs ⟨G, h, dx, ds, d, h', rh, rd, rds, e, k⟩
  unfold mS0 at e
  split at e
  · rename_i a
    cases rd; cases rds
    cases e1 : g a with
    | none => rw [e1] at e; cases e
    | some d1 =>
      rw [e1] at e; cases e
      exact hr pins s σ H _ _ v us Q I rx rs (hg a _ H Q e1 fun v hv => k G H v (.refl G) rh (hv G))
  · cases e
theorem md_s1 {id : String} {g : List Nat → List Nat → Option D} {r : V → List V → Hp → VK → Prop} (hr : MtR X id r) (hg : ∀ a b d H Q, g a b = some d → (∀ v, (∀ G : Gh, RD X.K G d v) → Q v H) → r (.str (S a)) [.str (S b)] H Q) : MtD X T id (mS1 g) := by
  intro pins s σ H x xs v us Q I rx rs ⟨G, h, dx, ds, d, h', rh, rd, rds, e, k⟩
  unfold mS1 at e
  split at e
  · rename_i a b
    cases rd
    cases rds with
    | cons r1 r2 =>
      cases r1; cases r2
      cases e1 : g a b with
      | none => rw [e1] at e; cases e
      | some d1 =>
        rw [e1] at e; cases e
        exact hr pins s σ H _ _ v us Q I rx rs (hg a b _ H Q e1 fun v hv => k G H v (.refl G) rh (hv G))
  · cases e
def gLower (a : List Nat) : Option D := if decide (a.length ≤ 5592405) then some (.str (cp (Txt.lower (S a)))) else none
def gUpper (a : List Nat) : Option D := if decide (a.length ≤ 5592405) then some (.str (cp (Txt.upper (S a)))) else none
def gStrip (a : List Nat) : Option D := if fits a.length then some (.str (cp (Txt.strip (S a)))) else none
def gCount (a b : List Nat) : Option D := some (.int (Txt.count (S a) (S b)))
def gFind (a b : List Nat) : Option D := some (.int (Txt.find (S a) (S b)))
def gStarts (a b : List Nat) : Option D := some (.bl (Txt.startswith (S a) (S b)))
def gEnds (a b : List Nat) : Option D := some (.bl (Txt.endswith (S a) (S b)))
def gDigit (a : List Nat) : Option D := some (.bl (Txt.isdigit (S a)))
theorem md_lower : MtD X T "str.lower" (mS0 gLower) := md_s0 mt_lower fun a d H Q e k => by
  unfold gLower at e
  split at e
  · rename_i hl
    cases e
    exact ⟨_, rfl, rfl, by rw [S_len]; exact of_decide_eq_true hl, k _ fun G => rd_cp _⟩
  · cases e
theorem md_upper : MtD X T "str.upper" (mS0 gUpper) := md_s0 mt_upper fun a d H Q e k => by
  unfold gUpper at e
  split at e
  · rename_i hl
    cases e
    exact ⟨_, rfl, rfl, by rw [S_len]; exact of_decide_eq_true hl, k _ fun G => rd_cp _⟩
  · cases e
theorem md_strip : MtD X T "str.strip" (mS0 gStrip) := md_s0 mt_strip fun a d H Q e k => by
  unfold gStrip at e
  split at e
  · rename_i hl
    cases e
    exact ⟨_, rfl, rfl, by rw [S_len]; exact fits_ok hl, k _ fun G => rd_cp _⟩
  · cases e
theorem md_isdigit : MtD X T "str.isdigit" (mS0 gDigit) := md_s0 mt_isdigit fun a d H Q e k => by
  cases e
  exact ⟨_, rfl, rfl, trivial, k _ fun G => .bl _⟩
theorem md_count : MtD X T "str.count" (mS1 gCount) := md_s1 mt_count fun a b d H Q e k => by
  cases e
  exact ⟨_, _, rfl, rfl, k _ fun G => .int _⟩
theorem md_find : MtD X T "str.find" (mS1 gFind) := md_s1 mt_find fun a b d H Q e k => by
  cases e
  exact ⟨_, _, rfl, rfl, k _ fun G => .int _⟩
theorem md_startswith : MtD X T "str.startswith" (mS1 gStarts) := md_s1 mt_startswith fun a b d H Q e k => by
  cases e
  exact ⟨_, _, rfl, rfl, k _ fun G => .bl _⟩
theorem md_endswith : MtD X T "str.endswith" (mS1 gEnds) := md_s1 mt_endswith fun a b d H Q e k => by
  cases e
  exact ⟨_, _, rfl, rfl, k _ fun G => .bl _⟩
/-! join -/
def strsOf : List D → Option (List (List Nat))
  | [] => some []
  | .str x :: r => (strsOf r).map fun ys => x :: ys
  | _ => none
theorem strs_rd {K : PySem.W.Frag} {G : Gh} : ∀ {ds : List D} {vs : List V} {ys : List (List Nat)}, RDs K G ds vs → strsOf ds = some ys → vs = (ys.map S).map V.str
  | _, _, _, .nil, e => by cases e; rfl
  | x :: ds, _, ys, .cons r t, e => by
    cases r with
    | str x =>
      have e : (strsOf ds).map (fun ys => x :: ys) = some ys := e
      cases e1 : strsOf ds with
      | none => rw [e1] at e; cases e
      | some zs =>
        rw [e1] at e; cases e
        rw [strs_rd t e1]
        rfl
    | _ => cases e
/-- sep.join(parts) -/
def joinN (a : List Nat) : List (List Nat) → List Nat
  | [] => []
  | [p] => p
  | p :: q :: r => p ++ (a ++ joinN a (q :: r))
theorem join_eq (a : List Nat) (ys : List (List Nat)) : Txt.join (S a) (ys.map S) = S (joinN a ys) := by
  have h := TL.tl_join (S a) (ys.map S)
  have e : ∀ zs : List (List Nat), TL.joinL a zs = joinN a zs := by
    intro zs
    induction zs with
    | nil => rfl
    | cons p r ih =>
      cases r with
      | nil => rfl
      | cons q r =>
        show p ++ (a ++ TL.joinL a (q :: r)) = p ++ (a ++ joinN a (q :: r))
        rw [ih]
  have h2 : TL.tl (Txt.join (S a) (ys.map S)) = joinN a ys := by
    have h' : TL.tl (Txt.join (S a) (ys.map S)) = TL.joinL (TL.tl (S a)) ((ys.map S).map TL.tl) := by
      rw [show Txt.join (S a) (ys.map S) = PySem.Str.join (S a) (ys.map S) from PySem.StrLaws.glued_eq_join _ _]
      exact h
    rw [h', List.map_map]
    have e2 : ys.map (TL.tl ∘ S) = ys := by
      have : (TL.tl ∘ S) = id := by funext l; rfl
      rw [this, List.map_id]
    rw [e2]
    exact e ys
  have h3 : (Txt.join (S a) (ys.map S)).cps.toList = joinN a ys := h2
  rw [← h3, S_cps]
def mJoin : Mf := fun x ds h => match x, ds with
  | .str a, [y] => (match seqH h y with
    | some (_, zs) => (match strsOf zs with
      | some ys => if decide ((ys.map List.length).sum + ys.length * a.length ≤ 16777216) then some (.str (joinN a ys), h) else none
      | none => none)
    | none => none)
  | _, _ => none
theorem md_join : MtD X T "str.join" mJoin := by
  intro pins s σ H x xs v us Q I rx rs ⟨G, h, dx, ds, d, h', rh, rd, rds, e, k⟩
  unfold mJoin at e
  split at e
  · rename_i a y
    cases rd
    cases rds with
    | cons r1 r2 =>
      cases r2
      split at e
      · rename_i b zs es
        split at e
        · rename_i ys ey
          split at e
          · rename_i hl
            cases e
            have hl2 : (((ys.map S).map (·.length)).sum + (ys.map S).length * (S a).length ≤ 16777216) := by
              have q := of_decide_eq_true hl
              have e1 : (ys.map S).map (·.length) = ys.map List.length := by
                rw [List.map_map]
                exact List.map_congr_left fun y _ => S_len y
              rw [e1, List.length_map, S_len]
              exact q
            cases b with
            | false =>
              obtain ⟨p, vs, rfl, r, q⟩ := seqH_l rh r1 es
              have ev := strs_rd r ey
              subst ev
              exact mt_join pins s σ H _ _ v us Q I rx rs ⟨_, p, ys.map S, rfl, rfl, .inl q, hl2, by rw [join_eq]; exact k G H _ (.refl G) rh (.str _)⟩
            | true =>
              obtain ⟨p, vs, rfl, r, q⟩ := seqH_t rh r1 es
              have ev := strs_rd r ey
              subst ev
              exact mt_join pins s σ H _ _ v us Q I rx rs ⟨_, p, ys.map S, rfl, rfl, .inr q, hl2, by rw [join_eq]; exact k G H _ (.refl G) rh (.str _)⟩
          · cases e
        · cases e
      · cases e
  · cases e
end
end Sh

set_option Elab.async false
set_option linter.all false
set_option maxRecDepth 100000
set_option maxHeartbeats 4000000
/-! Sh16: tuples backwards, stores, dicts of the module, displays of dicts, get; replace behind lower. -/
namespace Sh
open PySem PySem.Spec PyProof.Rows L2

/-! ### t[::-1] -/
section
variable {prog : Program} {w : World} {A : Around} {E : Value → Shared → Prop} {s : Shared}
theorem rev_adj (n : Nat) : Builtin.Slice.sliceAdjust none none (-1) (n : Int) = ((n : Int) - 1, -1) := by
  unfold Builtin.Slice.sliceAdjust
  simp only [show ((-1 : Int) < 0) from by decide, if_true]
theorem rev_pl (n : Nat) : Builtin.Slice.slicePlaces ((n : Int) - 1) (-1) (-1) = n := by
  unfold Builtin.Slice.slicePlaces
  simp only [show ¬ ((-1 : Int) > 0) from by decide, if_false, Int.neg_neg, Int.ediv_one]
  split <;> omega
theorem fm_map {α β : Type} {f : α → Option β} {g : α → β} : ∀ {l : List α}, (∀ k ∈ l, f k = some (g k)) → l.filterMap f = l.map g
  | [], _ => rfl
  | a :: r, h => by rw [List.filterMap_cons, h a List.mem_cons_self, List.map_cons, fm_map fun k hk => h k (List.mem_cons_of_mem _ hk)]
theorem rev_pick (xs : Array Value) : ((List.range xs.size).filterMap fun (k : Nat) => xs[(((xs.size : Int) - 1) + (k : Int) * (-1)).toNat]?).toArray = xs.toList.reverse.toArray := by
  congr 1
  refine List.ext_getElem? fun i => ?_
  have e : (List.range xs.size).filterMap (fun (k : Nat) => xs[(((xs.size : Int) - 1) + (k : Int) * (-1)).toNat]?) = (List.range xs.size).map fun k => xs.toList.reverse[k]?.getD .none := by
    refine fm_map fun k hk => ?_
    have hk : k < xs.size := List.mem_range.mp hk
    have e1 : (((xs.size : Int) - 1) + (k : Int) * (-1)).toNat = xs.size - 1 - k := by omega
    rw [e1]
    have h2 : xs.size - 1 - k < xs.size := by omega
    show xs[xs.size - 1 - k]? = some (xs.toList.reverse[k]?.getD .none)
    rw [List.getElem?_reverse (by simpa using hk)]
    rw [Array.length_toList, Array.getElem?_toList, Array.getElem?_eq_getElem h2]
    rfl
  rw [e, List.getElem?_map]
  by_cases hi : i < xs.size
  · rw [List.getElem?_range hi]
    have hr : i < xs.toList.reverse.length := by simpa using hi
    rw [List.getElem?_eq_getElem hr]
    show some (xs.toList.reverse[i]?.getD .none) = _
    rw [List.getElem?_eq_getElem hr]
    rfl
  · rw [List.getElem?_eq_none (by simpa using hi), List.getElem?_eq_none (by simpa using hi)]
    rfl
theorem tup_rev {t sl : Addr} {items : Array Value} {vl vu vs : Value} {Q : Value → Shared → Prop} (ht : IsTup s.heap t items) (hs : s.heap.IsSliceOf sl vl vu vs) (pl : IsPart vl none) (pu : IsPart vu none) (ps : IsPart vs (some (-1)))
    (h : Q (.ref s.heap.objs.size) { s with heap := s.heap.push { cls := .type "tuple", data := .seq items.toList.reverse.toArray } }) (hsz : items.size ≤ sizeLine) : wpAny (model prog w) A (getItem (.ref t) (.ref sl)) Q E s := by
  have hok : sizeOk (.seq items.toList.reverse.toArray) := by
    show items.toList.reverse.toArray.size ≤ sizeLine
    simpa using hsz
  obtain ⟨os, hos, hcs, hds⟩ := id hs
  unfold getItem
  try with_reducible refine wpAny_holding ?_
  first | refine wpAny_bind (wpAny_pure ?_) | skip
  refine wpAny_bind (wpAny_sequenceKey ht.typeIs (by decide) ?_)
  refine wpAny_bind (wpAny_callSpecial?_slot (name := Str.ofString "__getitem__") ht.typeIs PyProof.Rows.slot_tuple_getitem
    (wpAny_call_entry PyProof.Rows.slot_tuple_getitem ht.typeIs entry_tuple_getitem ?_ (args_tuple_getitem _ _)))
  refine wpAny_bind (m := Builtin.Tuple.tupleItemsOf (.ref t)) (tupleItemsOf_ ht ?_)
  refine wpAny_bind (wpAny_typeOf (T := "slice") ⟨os, hos, hcs⟩ ?_)
  rw [if_pos (by decide)]
  have ap : ∀ {Q2 : Int × Int × Nat → Shared → Prop} {E2 : Value → Shared → Prop} {A2 : Around}, Q2 ((items.size : Int) - 1, -1, items.size) s → wpAny (model prog w) A2 (Builtin.Slice.sliceApplied (.ref sl) (pure (items.size : Int))) Q2 E2 s := by
    intro Q2 E2 A2 hq
    unfold Builtin.Slice.sliceApplied Builtin.Slice.sliceFields
    refine wpAny_bind (wpAny_bind (wpAny_field hos hds (x := vl) rfl (wpAny_bind (wpAny_field hos hds (x := vu) rfl (wpAny_bind (wpAny_field hos hds (x := vs) rfl (wpAny_pure ?_)))))))
    refine wpAny_bind (HT.slicePart_ ps ?_)
    refine (if_neg (show ¬ (((-1 : Int) == 0) = true) by decide)) ▸ ?_
    refine wpAny_bind (HT.slicePart_ pl (wpAny_bind (HT.slicePart_ pu (wpAny_bind (wpAny_pure ?_)))))
    show wpAny _ _ (match Builtin.Slice.sliceAdjust none none (-1) (items.size : Int) with | (lo, hi) => pure (lo, (-1 : Int), Builtin.Slice.slicePlaces lo hi (-1))) _ _ s
    rw [rev_adj items.size]
    show wpAny _ _ (pure ((items.size : Int) - 1, (-1 : Int), Builtin.Slice.slicePlaces ((items.size : Int) - 1) (-1) (-1))) _ _ s
    rw [rev_pl]
    exact wpAny_pure hq
  refine wpAny_bind (ap ?_)
  show wpAny _ _ (if ((items.size : Int) - 1 == 0 && (-1 : Int) == 1 && items.size == items.size) = true then _ else _) _ _ s
  rw [if_neg (by simp), rev_pick]
  first
    | exact wpAny_bind (m := Builtin.Tuple.tupleExact _) (wpAny_newObj_type (wpAny_pure ⟨_, rfl, wpAny_pure h⟩) hok)
    | exact wpAny_bind (m := Builtin.Tuple.tupleExact _) (wpAny_newObj_type (wpAny_bind (wpAny_pure (wpAny_pure ⟨_, rfl, wpAny_pure h⟩))) hok)
    | exact wpAny_bind (wpAny_bind (m := Builtin.Tuple.tupleExact _) (wpAny_newObj_type (wpAny_pure (wpAny_pure ⟨_, rfl, wpAny_pure h⟩)) hok))
    | exact wpAny_bind (wpAny_bind (m := Builtin.Tuple.tupleExact _) (wpAny_newObj_type (wpAny_pure ⟨_, rfl, wpAny_pure h⟩) hok))
end
section
variable {X : Cx} {T : Tb} {W : WX} {pos : Pos} {e : Expr} {me : Ev}
/-- xs[::-1] of a list or a tuple -/
def eRevA (m : Ev) : Ev := fun ρ h => (m ρ h).bind fun x h1 => match seqH h1 x with
  | some (false, xs) => .ok (.lst xs.reverse) h1
  | some (true, xs) => .ok (.tup xs.reverse) h1
  | _ => .err
theorem de_rev {k : Nat} {p1 p2 p3 : Pos} (he : DE X T W e me) : DE X T W (.Subscript e (.Slice none none (some (.UnaryOp .USub (.Constant (.int 1) k p1) p2)) p3) pos) (eRevA me) := ⟨⟨fun pins s σ H Q I ⟨G, ρ, h, re, rh, p⟩ => by
  unfold eRevA at p
  refine Subscript_ (thn (he.p.run pins s σ H (fun v H1 => ∃ G1 x h1, G.le G1 ∧ RH X.K T G1 h1 H1 ∧ RD X.K G1 x v ∧ Post X.K T W σ G (match seqH h1 x with
    | some (false, xs) => .ok (.lst xs.reverse) h1
    | some (true, xs) => .ok (.tup xs.reverse) h1
    | _ => .err) Q) I ⟨G, ρ, h, re, rh, ?_⟩) fun v s1 ⟨x, H1, I1, r1, G1, dx, h1, l1, rh1, rd1, p⟩ => ?_)
  · cases e1 : me ρ h with
    | exc c h1 => rw [e1] at p; exact p
    | err => rw [e1] at p; exact p.elim
    | ok x h1 => rw [e1] at p; exact fun G1 H1 v l1 rh1 rd1 => ⟨G1, x, h1, l1, rh1, rd1, p⟩
  · have hst : PO X (some (.UnaryOp .USub (.Constant (.int 1) k p1) p2)) (tPart (tUn (rU fun i => .int (-i)) (tC (.int 1)))) := po_some (pe_un un_neg pe_int)
    refine wpAny_Slice (thn (po_none.run pins s1 σ H1 (fun o H2 => o = none ∧ H2 = H1) I1 ⟨rfl, rfl⟩) fun vl s2 ⟨l, H2, I2, pl, el, e2⟩ => ?_)
    subst el e2
    refine thn (po_none.run pins s2 σ H2 (fun o H3 => o = none ∧ H3 = H2) I2 ⟨rfl, rfl⟩) fun vu s3 ⟨u, H3, I3, pu, eu, e3⟩ => ?_
    subst eu e3
    refine thn (hst.run pins s3 σ H3 (fun o H4 => o = some (-1) ∧ H4 = H3) I3 ⟨1, rfl, -1, rfl, rfl, rfl⟩) fun vs s4 ⟨o, H4, I4, ps, eo, e4⟩ => ?_
    subst eo e4
    have I5 : Inv X pins σ H4 { s4 with heap := s4.heap.push { cls := .type "slice", data := .fields #[vl, vu, vs] } } := I4.kept (t' := s4.toks) fun b ob q => Heap.get?_push_of_some _ q
    show wpAny (model X.prog X.w) X.A (subscriptTail e (.Slice none none (some (.UnaryOp .USub (.Constant (.int 1) k p1) p2)) p3) v (.ref s4.heap.objs.size)) (EP X pins σ Q) X.xe { s4 with heap := s4.heap.push { cls := .type "slice", data := .fields #[vl, vu, vs] } }
    split at p
    · rename_i xs es
      obtain ⟨a, ws, rfl, r, q⟩ := seqH_l rh1 rd1 es
      cases r1
      obtain ⟨its, rv, ht, hz⟩ := I5.list q
      have hlen := rv.length
      refine tail_any (ops := [.ref a, .ref s4.heap.objs.size]) ht.isList.typeIs (PySem.slot_list_getitem.lookup) ?_ (by with_unfolding_all rfl)
      refine wpAny_getItem_list_slice ht.isList (Heap.IsSliceOf.new _ vl vu vs) pl pu ps (by decide) ?_ (by rw [List.size_toArray]; omega)
      rw [PySem.W.krv_pick]
      refine ⟨.ref _, _, I5.laid (t' := s4.toks) (o := .lst ws.reverse) (fun b ob q => Heap.get?_push_of_some _ q) (Nat.le_refl _) ?_, rfl, fin_lst (fun G' H' z l rh rd => p G' H' z (l1.trans l) rh rd) rh1 r.reverse _ (I5.hok.fresh (Nat.le_refl _))⟩
      exact ⟨by rw [List.length_reverse]; exact hz, _, 0, rv.reverse, Heap.get?_push_size _ rfl⟩
    · rename_i xs es
      obtain ⟨a, ws, rfl, r, q⟩ := seqH_t rh1 rd1 es
      cases r1
      obtain ⟨its, rv, ht, hz⟩ := I5.tuple q
      have hlen := rv.length
      refine tail_any (ops := [.ref a, .ref s4.heap.objs.size]) ht.typeIs (PyProof.Rows.slot_tuple_getitem.lookup) ?_ (by with_unfolding_all rfl)
      refine tup_rev ht (Heap.IsSliceOf.new _ vl vu vs) pl pu ps ?_ (by rw [List.size_toArray]; omega)
      refine ⟨.ref _, _, I5.laid (t' := s4.toks) (o := .tup ws.reverse) (fun b ob q => Heap.get?_push_of_some _ q) (Nat.le_refl _) ?_, rfl, fin_tup (fun G' H' z l rh rd => p G' H' z (l1.trans l) rh rd) rh1 r.reverse _ (I5.hok.fresh (Nat.le_refl _))⟩
      exact ⟨by rw [List.length_reverse]; exact hz, its.reverse, rv.reverse, ⟨_, Heap.get?_push_size _ rfl, rfl, _, rfl⟩⟩
    · exact p.elim⟩⟩
/-! ### o[i] = v -/
def putD (kvs : List (Key × D)) (k : Key) (v : D) : List (Key × D) :=
  if (kvs.any fun kv => decide (kv.1 = k)) = true then kvs.map (fun kv => if kv.1 = k then (kv.1, v) else kv) else kvs ++ [(k, v)]
theorem RKs.any {K : PySem.W.Frag} {G : Gh} {k : Key} : ∀ {kvs : List (Key × D)} {vs : List (Key × V)}, RKs K G kvs vs → (kvs.any fun kv => decide (kv.1 = k)) = vs.any fun kv => decide (kv.1 = k)
  | _, _, .nil => rfl
  | _, _, .cons _ t => by rw [List.any_cons, List.any_cons, RKs.any t]
theorem RKs.app {K : PySem.W.Frag} {G : Gh} {k : Key} {d : D} {v : V} (r : RD K G d v) : ∀ {kvs : List (Key × D)} {vs : List (Key × V)}, RKs K G kvs vs → RKs K G (kvs ++ [(k, d)]) (vs ++ [(k, v)])
  | _, _, .nil => .cons r .nil
  | _, _, .cons q t => .cons q (RKs.app r t)
theorem RKs.upd {K : PySem.W.Frag} {G : Gh} {k : Key} {d : D} {v : V} (r : RD K G d v) : ∀ {kvs : List (Key × D)} {vs : List (Key × V)}, RKs K G kvs vs → RKs K G (kvs.map fun kv => if kv.1 = k then (kv.1, d) else kv) (vs.map fun kv => if kv.1 = k then (kv.1, v) else kv)
  | _, _, .nil => .nil
  | _, _, .cons (k := j) q t => by
    rw [List.map_cons, List.map_cons]
    by_cases h : j = k
    · rw [if_pos h, if_pos h]; exact .cons r (RKs.upd r t)
    · rw [if_neg h, if_neg h]; exact .cons q (RKs.upd r t)
theorem RKs.put {K : PySem.W.Frag} {G : Gh} {k : Key} {d : D} {v : V} {kvs : List (Key × D)} {vs : List (Key × V)} (r : RD K G d v) (t : RKs K G kvs vs) : RKs K G (putD kvs k d) (putK vs k v) := by
  unfold putD putK
  rw [t.any (k := k)]
  split
  · exact t.upd r
  · exact t.app r
theorem RKs.length {K : PySem.W.Frag} {G : Gh} : ∀ {kvs : List (Key × D)} {vs : List (Key × V)}, RKs K G kvs vs → kvs.length = vs.length
  | _, _, .nil => rfl
  | _, _, .cons _ t => congrArg (· + 1) (RKs.length t)
def setH (n : Nat) (k d : D) (h : LH) : Option LH := match h[n]? with
  | some (.lst xs) => (match k with
    | .int i => (ixN xs.length i).map fun j => h.set n (.lst (xs.set j d))
    | _ => none)
  | some (.dic kvs) => (keyD k).bind fun k => if fits (kvs.length + 1) then some (h.set n (.dic (putD kvs k d))) else none
  | _ => none
def gSubH (mo mi : Ev) : Gv := fun d ρ h => match mo ρ h with
  | .ok (.obj n) h1 => (match mi ρ h1 with
    | .ok k h2 => (setH n k d h2).map fun h3 => (ρ, h3)
    | _ => none)
  | _ => none
theorem fits_one {n : Nat} (h : fits (n + 1) = true) : n < sizeLine := by have := fits_ok h; omega
def rSetH (K : PySem.W.Frag) (T : Tb) : TSet := fun o i v H Q => ∃ G h n k d h', RH K T G h H ∧ RD K G (.obj n) o ∧ RD K G k i ∧ RD K G d v ∧ setH n k d h = some h' ∧ ∀ H', RH K T G h' H' → Q H'
theorem set_red (hu : X.A.units + 1 < cLine) : PSet X (rSetH X.K T) := by
  intro pins s σ H o i v ov iv u Q I ro ri rv ⟨G, h, n, k, d, h', rh, r1, r2, r3, e, kk⟩
  cases r1 with
  | obj ea =>
    unfold setH at e
    split at e
    · rename_i xs eo
      split at e
      case h_2 => cases e
      rename_i j
      cases r2
      obtain ⟨w, q1, q2⟩ := rh.at eo ea (fun z => by cases z)
      cases q2 with
      | @lst _ vs r =>
        cases e1 : ixN xs.length j with
        | none => rw [e1] at e; cases e
        | some m =>
          rw [e1] at e; cases e
          exact set_list pins s σ H _ _ v ov iv u Q I ro ri rv ⟨_, vs, j, m, rfl, rfl, q1, by rw [← r.length]; exact e1, kk _ (rh.set eo ea (fun z => by cases z) (.lst (r.set m r3)))⟩
    · rename_i kvs eo
      obtain ⟨w, q1, q2⟩ := rh.at eo ea (fun z => by cases z)
      cases q2 with
      | @dic _ vs r =>
        cases e1 : keyD k with
        | none => rw [e1] at e; cases e
        | some key =>
          rw [e1] at e
          have e : (if fits (kvs.length + 1) then some (h.set n (.dic (putD kvs key d))) else none) = some h' := e
          split at e
          · rename_i hf
            cases e
            have ei := keyD_rd r2 e1
            subst ei
            refine set_dict hu pins s σ H _ _ v ov iv u Q I ro ri rv ⟨_, _, rfl, DPut.k q1 (by rw [← r.length]; exact fits_one hf), kk _ (rh.set eo ea (fun z => by cases z) (.dic (r.put r3)))⟩
          · cases e
    · cases e
theorem dg_sub {o i : Expr} {mo mi : Ev} (hu : X.A.units + 1 < cLine) (ho : DE X T W0 o mo) (hi : DE X T W0 i mi)
    (ha : ∀ v, assign (.Subscript o i pos) X.env v = (do
      let ov ← holding [v] (eval o X.env)
      let iv ← holding [v, ov] (eval i X.env)
      standAt pos
      holding [v, ov, iv] (setItem ov iv v)
      release [v, ov, iv] []) := by intro _; rfl) : DG X T (.Subscript o i pos) (gSubH mo mi) := ⟨PG.imp (pg_sub ho.p hi.p (set_red (T := T) hu) ha) fun v σ H Q ⟨G, ρ, h, d, re, rh, rd, p⟩ => by
  refine ⟨G, ρ, h, re, rh, ?_⟩
  unfold gSubH at p
  cases e1 : mo ρ h with
  | exc c h1 => rw [e1] at p; exact p.elim
  | err => rw [e1] at p; exact p.elim
  | ok x h1 =>
    rw [e1] at p
    cases x with
    | obj n =>
      intro G1 H1 v1 l1 rh1 rd1
      refine ⟨G1, ρ, h1, re.mono l1, rh1, ?_⟩
      have p : PostG X.K T G (match mi ρ h1 with
        | .ok k h2 => (setH n k d h2).map fun h3 => (ρ, h3)
        | _ => none) Q := p
      cases e2 : mi ρ h1 with
      | exc c h2 => rw [e2] at p; exact p.elim
      | err => rw [e2] at p; exact p.elim
      | ok k h2 =>
        rw [e2] at p
        intro G2 H2 v2 l2 rh2 rd2
        have p : PostG X.K T G ((setH n k d h2).map fun h3 => (ρ, h3)) Q := p
        cases e3 : setH n k d h2 with
        | none => rw [e3] at p; exact p.elim
        | some h3 =>
          rw [e3] at p
          exact ⟨G2, h2, n, k, d, h3, rh2, rd1.mono l2, rd2, rd.mono (l1.trans l2), e3, fun H' r => p G2 H' σ (l1.trans l2) (re.mono (l1.trans l2)) r⟩
    | _ => exact p.elim⟩
end
end Sh

set_option Elab.async false
set_option linter.all false
set_option maxRecDepth 100000
set_option maxHeartbeats 4000000
/-! Sh17: the module's constants, its dicts; displays of dicts, get; replace behind lower. -/
namespace Sh
open PySem PySem.Spec PyProof.Rows L2

section
variable {X : Cx} {T : Tb} {W : WX} {pos p p2 : Pos} {e : Expr} {me : Ev} {x : Str}
theorem de_gint {i : Int} (hg : Gl X x) (hm : ∃ t, X.mg x = some (.int i t)) (hd : (x == ("__debug__" : Str)) = false := by decide) : DE X T W (.Name x pos) (eC (.int i)) := by
  obtain ⟨t, hm⟩ := hm
  exact ⟨PE.imp (pe_glob (v := .int i) hg hm ⟨t, rfl⟩ hd) fun σ H Q ⟨G, ρ, h, re, rh, p⟩ => p G H _ (.refl G) rh (.int i)⟩
theorem de_gstr {l : List Nat} (hg : Gl X x) (hm : ∃ t, X.mg x = some (.str (S l) t)) (hd : (x == ("__debug__" : Str)) = false := by decide) : DE X T W (.Name x pos) (eC (.str l)) := by
  obtain ⟨t, hm⟩ := hm
  exact ⟨PE.imp (pe_glob (v := .str (S l)) hg hm ⟨t, rfl⟩ hd) fun σ H Q ⟨G, ρ, h, re, rh, p⟩ => p G H _ (.refl G) rh (.str l)⟩
/-- a global list or tuple -/
theorem de_gtup {ds : List D} {vs : List V} {a : Addr} (hg : Gl X x) (hm : X.mg x = some (.ref a)) (hs : ∀ H, SqT X.K H a vs) (hr : ∀ G, RDs X.K G ds vs) (hd : (x == ("__debug__" : Str)) = false := by decide) : DE X T W (.Name x pos) (eC (.tup ds)) :=
  ⟨PE.imp (pe_glob (v := .ref a) hg hm rfl hd) fun σ H Q ⟨G, ρ, h, re, rh, p⟩ => p G H _ (.refl G) rh (.tup (hs _) (hr G))⟩
theorem de_glst {ds : List D} {vs : List V} {a : Addr} (hg : Gl X x) (hm : X.mg x = some (.ref a)) (hs : ∀ H, SqL X.K H a vs) (hr : ∀ G, RDs X.K G ds vs) (hd : (x == ("__debug__" : Str)) = false := by decide) : DE X T W (.Name x pos) (eC (.fls ds)) :=
  ⟨PE.imp (pe_glob (v := .ref a) hg hm rfl hd) fun σ H Q ⟨G, ρ, h, re, rh, p⟩ => p G H _ (.refl G) rh (.fls (hs _) (hr G))⟩
/-! ### the module's dicts -/
structure KTab (K : PySem.W.Frag) (w : World) (a : Addr) (kvs : List (List Nat × D)) (vs : List (Key × Value)) : Prop where
  at_ : ∀ (P : Program) (h : Heap), K.In h → h.DictOf (mixKind P w) a vs
  low : (a == sysModules) = false
  rel : Paired (fun (p : List Nat × D) (q : Key × Value) => q.1 = .inr (S p.1) ∧ ∃ v, RelV v q.2 ∧ ∀ G, RD K G p.2 v) kvs vs
  len : kvs.length ≤ 1000
def GTab (X : Cx) (x : Str) (kvs : List (List Nat × D)) : Prop := ∃ a vs, X.mg x = some (.ref a) ∧ KTab X.K X.w a kvs vs
def lookN : List (List Nat × D) → List Nat → Option D
  | [], _ => none
  | (j, d) :: r, k => if j = k then some d else lookN r k
theorem lookN_rel {K : PySem.W.Frag} {z : List Nat} : ∀ {kvs : List (List Nat × D)} {vs : List (Key × Value)}, Paired (fun (p : List Nat × D) (q : Key × Value) => q.1 = .inr (S p.1) ∧ ∃ v, RelV v q.2 ∧ ∀ G, RD K G p.2 v) kvs vs →
    (∀ d, lookN kvs z = some d → ∃ u v, valueAt vs (.inr (S z) : Key) = some u ∧ RelV v u ∧ ∀ G, RD K G d v) ∧ (lookN kvs z = none → valueAt vs (.inr (S z) : Key) = none)
  | _, _, .nil => ⟨fun _ e => (nomatch e), fun _ => rfl⟩
  | (j, d) :: r, (q, u) :: vs, .cons ⟨e1, v, h1, h2⟩ t => by
    obtain ⟨i1, i2⟩ := lookN_rel (z := z) t
    have e1 : q = .inr (S j) := e1
    subst e1
    unfold lookN valueAt
    rw [List.find?_cons]
    by_cases h : j = z
    · subst h
      rw [if_pos rfl]
      simp only [decide_true]
      exact ⟨fun d' e => by cases e; exact ⟨u, v, rfl, h1, h2⟩, fun e => by cases e⟩
    · rw [if_neg h]
      have hn : ¬ ((Sum.inr (S j) : Key) = Sum.inr (S z)) := fun q => h (S_inj (Sum.inr.inj q))
      simp only [decide_eq_false hn]
      exact ⟨i1, i2⟩
def eKix (kvs : List (List Nat × D)) (b : Ev) : Ev := fun ρ h => (b ρ h).bind fun k h1 => match k with
  | .str z => liftO h1 (lookN kvs z)
  | _ => .err
theorem str_is {P : Program} {w : World} {z : Str} {t : Tok} : (mixKind P w).is (.inr z) (.str z t) = true := mixKind_str P w z t
/-- x[e], x a dict of the module -/
theorem de_kix {kvs : List (List Nat × D)} (hg : Gl X x) (ht : GTab X x kvs) (he : DE X T W e me) (hs : PlainIx e := by exact fun _ _ => rfl) (hd : (x == ("__debug__" : Str)) = false := by decide) : DE X T W (.Subscript (.Name x p) e pos) (eKix kvs me) := by
  obtain ⟨a, vs, hm, tb⟩ := ht
  have ix : IxR X (fun x y H Q => ∃ z d G h, x = .ref a ∧ y = .str (S z) ∧ lookN kvs z = some d ∧ RH X.K T G h H ∧ ∀ G' H' v, G.le G' → RH X.K T G' h H' → RD X.K G' d v → Q v H') := by
    intro value slice pins s σ H x y v u Q I rx ry ⟨z, d, G, h, ex, ey, el, rh, k⟩ hsub
    subst ex ey
    cases rx
    obtain ⟨t, rfl⟩ := ry
    obtain ⟨u0, v0, f1, f2, f3⟩ := (lookN_rel tb.rel).1 d el
    have dd := tb.at_ X.prog s.heap I.kIn
    refine tail_any dd.typeIs slot_dict_getitem.lookup ?_ hsub
    exact wpAny_getItem_of (str_is (P := X.prog) (w := X.w)) dd.mapOf f1 ⟨v0, H, I.tok _, f2, k G H v0 (.refl G) rh (f3 G)⟩
  refine ⟨PE.imp (pe_ix ix (pe_glob (v := .ref a) hg hm rfl hd) he.p hs) fun σ H Q ⟨G, ρ, h, re, rh, p⟩ => ?_⟩
  refine ⟨G, ρ, h, re, rh, ?_⟩
  unfold eKix at p
  cases e1 : me ρ h with
  | exc c h1 => rw [e1] at p; exact p
  | err => rw [e1] at p; exact p.elim
  | ok y h1 =>
    rw [e1] at p
    intro G1 H1 v1 l1 rh1 rd1
    cases rd1 with
    | str z =>
      have p : Post X.K T W σ G (liftO h1 (lookN kvs z)) Q := p
      cases e2 : lookN kvs z with
      | none => rw [e2] at p; exact p.elim
      | some d => rw [e2] at p; exact ⟨z, d, G1, h1, rfl, rfl, e2, rh1, fun G' H' v l r d => p G' H' v (l1.trans l) r d⟩
    | _ => exact p.elim
/-- len(x) -/
theorem de_klen {kvs : List (List Nat × D)} (hg : Gl X x) (ht : GTab X x kvs) (hg2 : Gl X "len") (hm2 : X.mg "len" = none) (hd : (x == ("__debug__" : Str)) = false := by decide)
    (he : starEach [.Name x p] X.env = (false, eval (.Name x p) X.env) :: starEach [] X.env := by rfl) : DE X T W (.Call (.Name "len" p2) [.Name x p] [] pos) (eC (.int kvs.length)) := by
  obtain ⟨a, vs, hm, tb⟩ := ht
  have hl : kvs.length = vs.length := Paired.length tb.rel
  have cl : CallR X (.builtin "len") (fun xs H Q => xs = [V.ref a] ∧ Q (.int kvs.length) H) := by
    intro pins s σ H xs us Q I r ⟨ex, q⟩
    subst ex
    obtain ⟨u, rfl, rx⟩ := vals1 r
    obtain rfl : u = .ref a := rx
    have dd := tb.at_ X.prog s.heap I.kIn
    have := tb.len
    rw [hl] at q
    exact call_len_dict tb.low dd (by omega) ⟨.int ((vs.length : Nat) : Int), H, I.tok _, ⟨_, rfl⟩, q⟩
  exact ⟨PE.imp (pe_callB cl hg2 hm2 (by rfl) (pa_cons (pe_glob (v := .ref a) hg hm rfl hd) pa_nil he) (by decide) (by decide) he (by rfl)) fun σ H Q ⟨G, ρ, h, re, rh, p⟩ => ⟨rfl, p G H _ (.refl G) rh (.int _)⟩⟩
/-- list(x): its keys -/
theorem de_klist {kvs : List (List Nat × D)} (hc : X.calm = true) (hg : Gl X x) (ht : GTab X x kvs) (hg2 : Gl X "list") (hm2 : X.mg "list" = none) (hd : (x == ("__debug__" : Str)) = false := by decide)
    (he : starEach [.Name x p] X.env = (false, eval (.Name x p) X.env) :: starEach [] X.env := by rfl) : DE X T W (.Call (.Name "list" p2) [.Name x p] [] pos) (eC (.lst (kvs.map fun q => .str q.1))) := by
  obtain ⟨a, vs, hm, tb⟩ := ht
  have hl : kvs.length = vs.length := Paired.length tb.rel
  have ks : ∀ {kvs : List (List Nat × D)} {vs : List (Key × Value)}, Paired (fun (p : List Nat × D) (q : Key × Value) => q.1 = .inr (S p.1) ∧ ∃ v, RelV v q.2 ∧ ∀ G, RD X.K G p.2 v) kvs vs → vs.map (fun q => kV q.1) = kvs.map fun q => V.str (S q.1) := by
    intro kvs vs r
    induction r with
    | nil => rfl
    | cons h _ ih => rw [List.map_cons, List.map_cons, ih, h.1]; rfl
  have cl : CallR X (.type "list") (fun xs H Q => xs = [V.ref a] ∧ ∀ p, H p = none → Q (.ref p) (upd H p (.lst (kvs.map fun q => V.str (S q.1))))) := by
    intro pins s σ H xs us Q I r ⟨ex, q⟩
    subst ex
    obtain ⟨u, rfl, rx⟩ := vals1 r
    obtain rfl : u = .ref a := rx
    have dd := tb.at_ X.prog s.heap I.kIn
    obtain ⟨ep, hat⟩ := dd.dictAt
    have hz : vs.length ≤ sizeLine := by have := tb.len; rw [sizeLine_eq]; omega
    refine PySem.W.kdl_call (PySem.W.kdl_dict (knd := mixKind X.prog X.w) (kvs := vs) (ep := ep) tb.low) (I.ok.hd hc) hat hz fun h' tk acc c' hk hD hacc => ?_
    have hv : Vals (vs.map fun p => kV p.1) acc.toList := keys_at (by rw [Array.length_toList]; exact hacc.1) fun j v e => hacc.2 j v (by rw [← Array.getElem?_toList]; exact e)
    rw [ks tb.rel] at hv
    have new : ObjOk X.prog X.w (upd H s.heap.objs.size (.lst (kvs.map fun q => V.str (S q.1)))) h' s.heap.objs.size (.lst (kvs.map fun q => V.str (S q.1))) :=
      ⟨by rw [List.length_map, hl]; exact hz, acc.toList, c', hv, by rw [Array.toArray_toList]; exact hD⟩
    exact ⟨.ref s.heap.objs.size, _, I.laid (t' := tk) hk (Nat.le_refl _) new, rfl, q _ (I.hok.fresh (Nat.le_refl _))⟩
  have rds : ∀ (G : Gh) (l : List (List Nat × D)), RDs X.K G (l.map fun q => .str q.1) (l.map fun q => V.str (S q.1)) := fun G l => by
    induction l with
    | nil => exact .nil
    | cons q r ih => exact .cons (.str _) ih
  exact ⟨PE.imp (pe_callTy cl hg2 hm2 (by rfl) (pa_cons (pe_glob (v := .ref a) hg hm rfl hd) pa_nil he) (by decide) (by decide) he (by rfl)) fun σ H Q ⟨G, ρ, h, re, rh, p⟩ => ⟨rfl, fin_lst p rh (rds G kvs)⟩⟩
/-! ### displays of dicts that never change, get -/
def eDicP : List (Ev × Ev) → En → LH → Res (List (Key × D))
  | [] => fun _ h => .ok [] h
  | (mk, mv) :: r => fun ρ h => (mk ρ h).bind fun k h1 => (mv ρ h1).bind fun v h2 => (eDicP r ρ h2).bind fun kvs h3 => match keyD k with
    | some k => .ok ((k, v) :: kvs) h3
    | none => .err
def mergeD (kvs more : List (Key × D)) : List (Key × D) := more.foldl (fun acc kv => putD acc kv.1 kv.2) kvs
def eDic (ms : List (Ev × Ev)) : Ev := fun ρ h => match eDicP ms ρ h with
  | .ok kvs h1 => .ok (.dic (mergeD [] kvs)) h1
  | _ => .err
theorem RKs.merge {K : PySem.W.Frag} {G : Gh} : ∀ {more : List (Key × D)} {ms : List (Key × V)} {kvs : List (Key × D)} {vs : List (Key × V)}, RKs K G more ms → RKs K G kvs vs → RKs K G (mergeD kvs more) (mergeK vs ms)
  | _, _, _, _, .nil, t => t
  | _, _, _, _, .cons (k := k) q r, t => (RKs.merge r (t.put (k := k) q) : RKs K G (mergeD (putD _ _ _) _) (mergeK (putK _ _ _) _))
def DPs (X : Cx) (T : Tb) (pos : Pos) (keys : List (Option Expr)) (values : List Expr) (trs : List (TE × TE)) (ms : List (Ev × Ev)) : Prop := PPs X pos keys values trs ∧ keys.all (·.isSome) = true ∧ keys.length = values.length ∧ keys.length = ms.length ∧
  ∀ (σ : L2.St) (H : Hp) (Q : List (V × V) → Hp → Prop) (G : Gh) (ρ : En) (h : LH), RE X.K G ρ σ → RH X.K T G h H → (match eDicP ms ρ h with
    | .ok kvs h' => ∀ G' H' vs, G.le G' → RH X.K T G' h' H' → RKs X.K G' kvs vs → Q (vs.map fun kv => (kV kv.1, kv.2)) H'
    | _ => False) → tPairs trs σ H Q
theorem dps_nil : DPs X T pos [] [] [] [] := ⟨pps_nil, rfl, rfl, rfl, fun σ H Q G ρ h re rh p => p G H [] (.refl G) rh .nil⟩
theorem dps_cons {k v : Expr} {ks : List (Option Expr)} {vs : List Expr} {trs : List (TE × TE)} {mk mv : Ev} {ms : List (Ev × Ev)} (hk : DE X T W0 k mk) (hv : DE X T W0 v mv) (hr : DPs X T pos ks vs trs ms) :
    DPs X T pos (some k :: ks) (v :: vs) ((tE X.K T W0 mk, tE X.K T W0 mv) :: trs) ((mk, mv) :: ms) := by
  obtain ⟨r1, r2, r3, r4, r5⟩ := hr
  refine ⟨pps_cons hk.p hv.p r1, by rw [List.all_cons, r2]; rfl, by rw [List.length_cons, List.length_cons, r3], by rw [List.length_cons, List.length_cons, r4], fun σ H Q G ρ h re rh p => ?_⟩
  unfold eDicP at p
  refine ⟨G, ρ, h, re, rh, ?_⟩
  cases e1 : mk ρ h with
  | exc c h1 => rw [e1] at p; exact p.elim
  | err => rw [e1] at p; exact p.elim
  | ok dk h1 =>
    rw [e1] at p
    intro G1 H1 v1 l1 rh1 rd1
    refine ⟨G1, ρ, h1, re.mono l1, rh1, ?_⟩
    simp only [Res.bind] at p
    cases e2 : mv ρ h1 with
    | exc c h2 => rw [e2] at p; exact p.elim
    | err => rw [e2] at p; exact p.elim
    | ok dv h2 =>
      rw [e2] at p
      intro G2 H2 v2 l2 rh2 rd2
      simp only [Res.bind] at p
      refine r5 σ H2 _ G2 ρ h2 ((re.mono l1).mono l2) rh2 ?_
      cases e3 : eDicP ms ρ h2 with
      | exc c h3 => rw [e3] at p; exact p.elim
      | err => rw [e3] at p; exact p.elim
      | ok kvs h3 =>
        rw [e3] at p
        intro G3 H3 vs3 l3 rh3 rk3
        simp only [Res.bind] at p
        cases e4 : keyD dk with
        | none => rw [e4] at p; exact p.elim
        | some key =>
          rw [e4] at p
          have ev := keyD_rd rd1 e4
          subst ev
          exact p G3 H3 ((key, v2) :: vs3) ((l1.trans l2).trans l3) rh3 (.cons (rd2.mono l3) rk3)
theorem eDicP_len : ∀ {ms : List (Ev × Ev)} {ρ : En} {h h' : LH} {kvs : List (Key × D)}, eDicP ms ρ h = .ok kvs h' → kvs.length = ms.length
  | [], ρ, h, h', kvs, e => by cases e; rfl
  | (mk, mv) :: r, ρ, h, h', kvs, e => by
    unfold eDicP at e
    cases e1 : mk ρ h with
    | exc c h1 => rw [e1] at e; cases e
    | err => rw [e1] at e; cases e
    | ok dk h1 =>
      rw [e1] at e
      simp only [Res.bind] at e
      cases e2 : mv ρ h1 with
      | exc c h2 => rw [e2] at e; cases e
      | err => rw [e2] at e; cases e
      | ok dv h2 =>
        rw [e2] at e
        simp only [Res.bind] at e
        cases e3 : eDicP r ρ h2 with
        | exc c h3 => rw [e3] at e; cases e
        | err => rw [e3] at e; cases e
        | ok kvs3 h3 =>
          rw [e3] at e
          simp only [Res.bind] at e
          cases e4 : keyD dk with
          | none => rw [e4] at e; cases e
          | some key => rw [e4] at e; cases e; rw [List.length_cons, List.length_cons, eDicP_len e3]
theorem de_dic {keys : List (Option Expr)} {values : List Expr} {trs : List (TE × TE)} {ms : List (Ev × Ev)} (hp : DPs X T pos keys values trs ms) (h0 : keys ≠ [] := by simp) (h15 : keys.length ≤ 15 := by decide) : DE X T W (.Dict keys values pos) (eDic ms) := by
  obtain ⟨r1, r2, r3, r4, r5⟩ := hp
  refine ⟨PE.imp (pe_disp r1 r2 r3 h0 h15) fun σ H Q ⟨G, ρ, h, re, rh, p⟩ q hq => ?_⟩
  have hE0 := rh.notE hq
  refine r5 σ _ _ (G.hold q (.dK [])) ρ h (re.monow Gh.hold_lw) (rh.hold hq _) ?_
  unfold eDic at p
  cases e1 : eDicP ms ρ h with
  | exc c h1 => rw [e1] at p; exact p.elim
  | err => rw [e1] at p; exact p.elim
  | ok kvs h1 =>
    rw [e1] at p
    intro G1 H1 vs l1 rh1 rk
    have hq1 : G1.E q = some (.dK []) := by rw [l1.E]; show upd G.E q _ q = _; rw [upd_same]
    have hz : kvs.length ≤ 15 := by rw [eDicP_len e1]; rw [← r4]; exact h15
    refine ⟨(rh1.ext q _ hq1).1, vs, rfl, by rw [← rk.length]; exact hz, ?_⟩
    have rh2 := rh1.held hq1 (.dK (mergeK [] vs))
    have hE : ∀ a u, G.E a = some u → (G1.hold q (.dK (mergeK [] vs))).E a = some u := fun a u e => by
      have ne : a ≠ q := fun z => by rw [z, hE0] at e; cases e
      show upd G1.E q _ a = some u
      rw [upd_ne ne, l1.E]
      show upd G.E q _ a = some u
      rw [upd_ne ne]
      exact e
    obtain ⟨lb, rb⟩ := rh2.back (E0 := G.E) (by show upd G1.E q _ q = _; rw [upd_same]) hE0 hE
    have lw : G.lw ((G1.hold q (.dK (mergeK [] vs))).back q (.dK (mergeK [] vs)) G.E) := ((Gh.hold_lw.trans l1.w).trans Gh.hold_lw).trans lb
    have p : Post X.K T W σ G (.ok (.dic (mergeD [] kvs)) h1) Q := p
    exact p _ _ (.ref q) ⟨lw, rfl⟩ rb (.dic (by show upd G1.F q _ q = _; rw [upd_same]) ((rk.monow (Gh.hold_lw.trans lb)).merge .nil))
/-- d.get(k, x) -/
def eGet2 (mo mk mx : Ev) : Ev := fun ρ h => (mo ρ h).bind fun d h1 => match d with
  | .dic kvs => (mk ρ h1).bind fun k h2 => (mx ρ h2).bind fun x h3 => (match keyD k with
    | some k => .ok ((lookD kvs k).getD x) h3
    | none => .err)
  | _ => .err
theorem de_get2 {o f g : Expr} {mo mk mx : Ev} {apos : Pos} (hu : X.A.units + 1 < cLine) (ho : DE X T W o mo) (hk : DE X T W f mk) (hx : DE X T W g mx) (m : M2 X o "get" apos f g pos) : DE X T W (.Call (.Attribute o "get" apos) [f, g] [] pos) (eGet2 mo mk mx) := ⟨PE.imp (pe_dget2 hu ho.p hk.p hx.p m) fun σ H Q ⟨G, ρ, h, re, rh, p⟩ => by
  refine ⟨G, ρ, h, re, rh, ?_⟩
  unfold eGet2 at p
  cases e1 : mo ρ h with
  | exc c h1 => rw [e1] at p; exact p
  | err => rw [e1] at p; exact p.elim
  | ok d h1 =>
    rw [e1] at p
    intro G1 H1 v1 l1 rh1 rd1
    cases rd1 with
    | @dic kvs vs a q r =>
      have p : Post X.K T W σ G ((mk ρ h1).bind fun k h2 => (mx ρ h2).bind fun x h3 => (match keyD k with
        | some k => .ok ((lookD kvs k).getD x) h3
        | none => .err)) Q := p
      refine ⟨a, rfl, .inl ⟨vs, .inl (rh1.F _ _ q)⟩, G1, ρ, h1, re.mono l1, rh1, ?_⟩
      cases e2 : mk ρ h1 with
      | exc c h2 => rw [e2] at p; exact fun G2 H2 l2 rh2 => p G2 H2 (l1.trans l2) rh2
      | err => rw [e2] at p; exact p.elim
      | ok k h2 =>
        rw [e2] at p
        intro G2 H2 v2 l2 rh2 rd2
        refine ⟨G2, ρ, h2, (re.mono l1).mono l2, rh2, ?_⟩
        simp only [Res.bind] at p
        cases e3 : mx ρ h2 with
        | exc c h3 => rw [e3] at p; exact fun G3 H3 l3 rh3 => p G3 H3 ((l1.trans l2).trans l3) rh3
        | err => rw [e3] at p; exact p.elim
        | ok x h3 =>
          rw [e3] at p
          intro G3 H3 v3 l3 rh3 rd3
          simp only [Res.bind] at p
          cases e4 : keyD k with
          | none => rw [e4] at p; exact p.elim
          | some key =>
            rw [e4] at p
            have ev := keyD_rd rd2 e4
            subst ev
            have l13 := (l2.trans l3)
            have g := DGet.k (k := key) (rh3.F _ _ (l13.F _ _ q))
            refine ⟨_, g, ?_⟩
            obtain ⟨s1, s2⟩ := lookD_rd (k := key) (r.mono l13)
            cases e5 : lookD kvs key with
            | none =>
              rw [s2 e5]
              have p : Post X.K T W σ G (.ok ((lookD kvs key).getD x) h3) Q := p
              rw [e5] at p
              exact p G3 H3 v3 (l1.trans l13) rh3 rd3
            | some d =>
              obtain ⟨w, w1, w2⟩ := s1 d e5
              rw [w1]
              have p : Post X.K T W σ G (.ok ((lookD kvs key).getD x) h3) Q := p
              rw [e5] at p
              exact p G3 H3 w (l1.trans l13) rh3 w2
    | _ => exact p.elim⟩
end
end Sh

set_option Elab.async false
set_option linter.all false
set_option maxRecDepth 100000
set_option maxHeartbeats 4000000
/-! Sh18: replace behind lower or upper; told(lambda: ..). -/
namespace Sh
open PySem PySem.Spec PyProof.Rows L2

/-- an expression behind which a token is there -/
structure DK (X : Cx) (T : Tb) (W : WX) (e : Expr) (m : Ev) : Prop where
  run : ∀ (pins : List (Addr × Obj)) (s : Shared) (σ : L2.St) (H : Hp) (Q : VK), Inv X pins σ H s → tE X.K T W m σ H Q → wpAny (model X.prog X.w) X.A (eval e X.env) (fun v s' => 1 ≤ s'.toks ∧ EP X pins σ Q v s') X.xe s
section
variable {X : Cx} {T : Tb} {W : WX} {pos apos : Pos} {o : Expr} {mo : Ev}
theorem DK.de {e : Expr} {m : Ev} (h : DK X T W e m) : DE X T W e m := ⟨⟨fun pins s σ H Q I q => thn (h.run pins s σ H Q I q) fun v s' r => r.2⟩⟩
theorem dk_lower (ho : DE X T W o mo) (hbase : attributeBase o "lower" X.env (eval o X.env) = eval o X.env := by rfl) (hline : (apos.endLine == pos.line) = true := by rfl) :
    DK X T W (.Call (.Attribute o "lower" apos) [] [] pos) (eMt "str" (mS0 gLower) mo aNil) := ⟨fun pins s σ H Q I ⟨G, ρ, h, re, rh, p⟩ => by
  unfold eMt at p
  refine wpAny_Call_method0_late hbase hline (thn (ho.p.run pins s σ H (fun v H1 => ∃ a, v = .str (S a) ∧ a.length ≤ 5592405 ∧ Q (.str (Txt.lower (S a))) H1) I ⟨G, ρ, h, re, rh, ?_⟩) fun v s1 ⟨x, H1, I1, r1, a, ex, hl, q⟩ => ?_)
  · cases e1 : mo ρ h with
    | exc c h1 => rw [e1] at p; exact p
    | err => rw [e1] at p; exact p.elim
    | ok d h1 =>
      rw [e1] at p
      intro G1 H1 v1 l1 rh1 rd1
      simp only [Res.bind] at p
      split at p
      · have p : Post X.K T W σ G (match mS0 gLower d [] h1 with
          | some (d, h3) => .ok d h3
          | none => .err) Q := p
        cases rd1 with
        | str a =>
          have em : mS0 gLower (.str a) [] h1 = (gLower a).map fun d => (d, h1) := rfl
          by_cases hl : a.length ≤ 5592405
          · have eg : gLower a = some (.str (cp (Txt.lower (S a)))) := by unfold gLower; rw [if_pos (decide_eq_true hl)]
            rw [em, eg] at p
            exact ⟨a, rfl, hl, p G1 H1 _ l1 rh1 (rd_cp _)⟩
          · have eg : gLower a = none := by unfold gLower; rw [if_neg (by simpa using hl)]
            rw [em, eg] at p
            exact p.elim
        | _ => exact p.elim
      · exact p.elim
  · subst ex
    obtain ⟨t, rfl⟩ := r1
    refine ⟨"str", _, PySem.F.plainAttrs_str, PySem.F.slot_str_lower, PySem.F.type_str_lower, typeIs_str _ _ _, (fun _ e => nomatch e), Calls.callWith_builtin rfl (PySem.evalArgs_none ?_)⟩
    have e0 := S_len a
    exact PySem.SC.lower (PyProof.Rows.short24 (by have h1 := PyProof.Rows.len_lower (S a); omega)) ⟨Nat.le_add_left 1 _, .str (Txt.lower (S a)), H1, I1.tok _, ⟨_, rfl⟩, q⟩⟩
def eRepl (y z : List Nat) (m : Ev) : Ev := fun ρ h => (m ρ h).bind fun d h1 => match d with
  | .str a => if decide (a.length + (a.length + 1) * z.length ≤ 16777216) then .ok (.str (cp (Txt.replace (S a) (S y) (S z)))) h1 else .err
  | _ => .err
theorem dk_repl {y z : List Nat} {j k : Nat} {c0 c1 : Pos} (ho : DK X T W o mo) (hyz : (S y == S z) = false := by decide)
    (hst : starEach [.Constant (.str (S y)) j c0, .Constant (.str (S z)) k c1] X.env = [(false, eval (.Constant (.str (S y)) j c0) X.env), (false, eval (.Constant (.str (S z)) k c1) X.env)] := by rfl)
    (hbase : attributeBase o "replace" X.env (eval o X.env) = eval o X.env := by rfl) (hline : (apos.endLine == pos.line) = true := by rfl) :
    DK X T W (.Call (.Attribute o "replace" apos) [.Constant (.str (S y)) j c0, .Constant (.str (S z)) k c1] [] pos) (eRepl y z mo) := ⟨fun pins s σ H Q I ⟨G, ρ, h, re, rh, p⟩ => by
  unfold eRepl at p
  refine PySem.Call_method2 hbase hst hline (thn (ho.run pins s σ H (fun v H1 => ∃ a, v = .str (S a) ∧ a.length + (a.length + 1) * z.length ≤ 16777216 ∧ Q (.str (Txt.replace (S a) (S y) (S z))) H1) I ⟨G, ρ, h, re, rh, ?_⟩) fun v s1 ⟨h0, x, H1, I1, r1, a, ex, hb, q⟩ => ?_)
  · cases e1 : mo ρ h with
    | exc c h1 => rw [e1] at p; exact p
    | err => rw [e1] at p; exact p.elim
    | ok d h1 =>
      rw [e1] at p
      intro G1 H1 v1 l1 rh1 rd1
      cases rd1 with
      | str a =>
        have p : Post X.K T W σ G (if decide (a.length + (a.length + 1) * z.length ≤ 16777216) then .ok (.str (cp (Txt.replace (S a) (S y) (S z)))) h1 else .err) Q := p
        split at p
        · rename_i hl
          exact ⟨a, rfl, of_decide_eq_true hl, p G1 H1 _ l1 rh1 (rd_cp _)⟩
        · exact p.elim
      | _ => exact p.elim
  · subst ex
    obtain ⟨t, rfl⟩ := r1
    refine ⟨"str", _, PySem.F.plainAttrs_str, PySem.F.slot_str_replace, PySem.F.type_str_replace, typeIs_str _ _ _, (fun _ e => nomatch e), Calls.callWith_builtin rfl (Calls.evalArgs_plain (Calls.spliced_cons (Calls.Constant_str (Calls.spliced_cons (Calls.Constant_str (Calls.spliced_nil ?_))))))⟩
    refine wpAny_mono (PySem.wpAny_toks (E := X.xe) (PySem.SC.replace (Q := EP X pins σ Q) (by show s1.toks ≠ 0; omega) (by show s1.toks + 1 ≠ 0; omega) (by show s1.toks ≠ s1.toks + 1; omega) hyz (by rw [S_len, S_len]; exact hb) fun t' k => ⟨.str _, H1, I1.tok k, ⟨t', rfl⟩, q⟩)) (fun v s2 r => ⟨?_, r.2⟩) fun v s2 r => r.2
    have hk : s1.toks + 1 + 1 ≤ s2.toks := r.1
    omega⟩
end
/-! ### told(lambda: body) -/
/-- def x(a): try: return a() / except e: return ret -/
structure ToldF (K : PySem.W.Frag) (mg : Str → Option Value) (x a e : Str) (params : Arguments) (sg : Scope) (CS : Addr) (ret : List Nat) : Prop where
  ex : ∃ (g : Addr) (fd : FuncData) (j : Nat) (p1 p2 p3 p4 p5 p6 p7 p8 : Pos), mg x = some (.ref g) ∧ Binds K fd [a] [] ∧
    FunD K x x params [.Try [.Return (some (.Call (.Name a p1) [] [] p2)) p3] [.ExceptHandler (some (.Name e p4)) none [.Return (some (.Constant (.str (S ret)) j p5)) p6] p7] [] [] p8] sg [] [] g fd
  ge : sg.names.lookup e = some .globalImplicit
  me : mg e = some (.ref CS)
  de : (e == ("__debug__" : Str)) = false
  fs : FnScope [a] [a] sg
  va : Vis sg a
def eTold (cat : List Str) (ret : List Nat) (me : Ev) : Ev := fun ρ h => match me ρ h with
  | .ok d h' => .ok d h'
  | .exc c h' => if c ∈ cat then .ok (.str ret) h' else .err
  | .err => .err
section
variable {X : Cx} {T : Tb} {W : WX} {x a e : Str} {pg : Arguments} {sg : Scope} {CS c P : Addr} {ret : List Nat} {k : Nat} {params : Arguments} {body : Expr} {scope : Scope} {me : Ev} {cat : List Str} {p lpos pos : Pos}
theorem de_told (t : ToldF X.K X.mg x a e pg sg CS ret) (hcat : ∀ c ∈ cat, PySem.W.exmOne X.K (.ref (He.ga X.K c)) (.ref CS) = some true) (hg : Gl X x)
    (TB : LamX.TabB X.base X.mg c P) (hcode : X.env.code = .ref c) (hmT : (P, X.env.qual ++ "<lambda>") ∈ T) (hu : ∀ p ∈ T, p.1 = P → p.2 = X.env.qual ++ "<lambda>") (hr : Room (k + 2) X.A) (L : LamX.LamS X.env.scope scope) (hdef : defaultsOf params X.env = ([], []))
    (hbind : ∀ (q : Str) (cl : List (Str × Addr)) (pm cv ctv : Value), bindArgs (PySem.W.kla_fn "<lambda>" q params body scope cl pm cv ctv) ⟨[], []⟩ = pure [])
    (hbody : ∀ (A : Around) (outer : List Env) (s : Shared) (H : Hp) (E : XK) (f c' : Addr), Room k (A.deeper (LamX.lamEnv X scope s.heap.objs.size f c')) → DE (LamX.lamCx X A outer s H E scope f c') T (fun cls d _ H => E cls d H) body me)
    (hdb : (x == ("__debug__" : Str)) = false := by decide) (hd : (a == ("__debug__" : Str)) = false := by decide) (hcd : (a == ("__classdict__" : Str)) = false := by decide) :
    DE X T W (.Call (.Name x p) [.Lambda params body scope lpos] [] pos) (eTold cat ret me) := by
  obtain ⟨g, fd, j, p1, p2, p3, p4, p5, p6, p7, p8, hm, hb, F⟩ := t.ex
  obtain ⟨oc, od, dV, kV, doc, pm, an, cdv, ct, osl, rfl, lk, hcd', _, _⟩ := F.ex
  have G0 := LamX.told_gives (X := X) (Ng := [a]) (x := x) (a := a) (e := e) (q := X.env.qual ++ "<lambda>") (ret := S ret) (sg := sg) (g := g) (CS := CS) (cdg := cdv) (j := j) (p1 := p1) (p2 := p2) (p3 := p3) (p4 := p4) (p5 := p5) (p6 := p6) (p7 := p7) (p8 := p8) t.ge t.me t.de (fun f => rfl)
  refine ⟨PE.imp (LamX.pe_lamcall (Ng := [a]) (t := fun E => tE X.K T (fun cls d _ H => E cls d H) me) hg hm F.kp lk hcd' hb t.fs rfl t.va G0 TB hcode hmT hu hr L hdef hbind (fun A outer s H E f c' hr' => (hbody A outer s H E f c' hr').p) hdb hd hcd) fun σ H Q ⟨G, ρ, h, re, rh, p⟩ => ?_⟩
  refine ⟨rh.tabs, fun H1 eN tT => ?_⟩
  have rh1 := rh.code eN tT
  refine ⟨G.code H1, ρ, h, re.mono Gh.code_le, rh1, ?_⟩
  unfold eTold at p
  cases e1 : me ρ h with
  | ok d h' => rw [e1] at p; exact fun G' H' v l r rd => p G' H' v (Gh.code_le.trans l) r rd
  | exc c h' =>
    rw [e1] at p
    have p : Post X.K T W σ G (if c ∈ cat then .ok (.str ret) h' else .err) Q := p
    split at p
    · rename_i hm
      exact fun G' H' l r => ⟨true, hcat c hm, fun _ => p G' H' _ (Gh.code_le.trans l) r (.str ret), fun z => by cases z⟩
    · exact p.elim
  | err => rw [e1] at p; exact p
end
end Sh

set_option Elab.async false
set_option linter.all false
set_option maxRecDepth 100000
set_option maxHeartbeats 4000000
/-! Sh19: a def of the module, all at once. -/
namespace Sh
open PySem PySem.Spec PyProof.Rows L2

theorem hu1 {k : Nat} {A : Around} (r : Room k A) : A.units + 1 < cLine := by have := r.un; omega
theorem hu64 {k : Nat} {A : Around} (r : Room k A) : A.units + 64 < cLine := by have := r.un; omega
/-- the code object of the def nm, its table -/
abbrev cdA (K : PySem.W.Frag) (nm : Str) : Addr := He.codeOf K (nm, none)
abbrev tbA (K : PySem.W.Frag) (nm : Str) : Addr := He.tabOf K (He.codeOf K (nm, none))
section
variable {P : Program} {w : World} {K : PySem.W.Frag} {mg : Str → Option Value} {base : Heap} {T : Tb} {nm : Str} {params : Arguments} {body : List Stmt} {scope : Scope} {dvs : List V} {N ps : List Str} {k : Nat} {m : Sv}
abbrev dCx (P : Program) (w : World) (K : PySem.W.Frag) (mg : Str → Option Value) (base : Heap) (N : List Str) (nm : Str) (scope : Scope) (A : Around) (outer : List Env) (s : Shared) (H : Hp) (E : XK) : Cx :=
  cxOf (L2.CX P w) P w K mg base N nm scope (He.ga K nm) (.ref (cdA K nm)) A outer s H E
/-- its body, whatever calls it -/
def Body (P : Program) (w : World) (K : PySem.W.Frag) (mg : Str → Option Value) (base : Heap) (T : Tb) (N : List Str) (nm : Str) (scope : Scope) (k : Nat) (body : List Stmt) (m : Sv) : Prop :=
  ∀ (A : Around) (outer : List Env) (s : Shared) (H : Hp) (E : XK), Room k (dCx P w K mg base N nm scope A outer s H E).A → DB (dCx P w K mg base N nm scope A outer s H E) T (fun cls d _ H => E cls d H) body m
theorem fn_okC {fd : FuncData} (F : FunD K nm nm params body scope dvs [] (He.ga K nm) fd) (S : FnScope N ps scope) (hb : Body P w K mg base T N nm scope k body m) :
    FnOk P w K mg base (L2.CX P w) (k + 1) (He.ga K nm) fd ps (spD K T ps.length (fn N.length m)) := by
  obtain ⟨oc, od, dV, kV, doc, pm, an, cdv, ct, osl, rfl, lk, hcd, _, _⟩ := F.ex
  obtain ⟨c, rfl⟩ := He.codeIn_ref hcd
  have ec : cdA K nm = c := He.codeOf_eq (p := (nm, none)) lk rfl
  subst ec
  refine fn_of lk hcd S (fun vs H Q E h => h.1) (fun A outer s H vs Q E hr h => ?_)
  obtain ⟨hl, G, h, ds, rh, rd, p⟩ := h
  refine ⟨_, (hb A outer s H E hr).p, G, ds.map some ++ List.replicate (N.length - ds.length) none, h, ⟨?_, fun i d e => ?_⟩, rh, ?_⟩
  · unfold L2.start
    rw [List.length_append, List.length_append, List.length_map, List.length_map, List.length_replicate, List.length_replicate, rd.length]
  · have hi : i < ds.length := by
      by_cases hi : i < ds.length
      · exact hi
      · rw [List.getElem?_append_right (by simpa using hi), List.getElem?_replicate] at e
        split at e <;> cases e
    rw [List.getElem?_append_left (by simpa using hi), List.getElem?_map] at e
    cases e1 : ds[i]? with
    | none => rw [e1] at e; cases e
    | some d' =>
      rw [e1] at e; cases e
      obtain ⟨v, h1, h2⟩ := rd.get e1
      refine ⟨v, ?_, h2⟩
      unfold L2.start
      rw [List.getElem?_append_left (by rw [List.length_map, ← rd.length]; exact hi), List.getElem?_map, h1]; rfl
  · unfold fn at p
    cases e : m (ds.map some ++ List.replicate (N.length - ds.length) none) h with
    | nx ρ' h' => rw [e] at p; exact fun G1 H1 σ1 l1 re1 rh1 => p G1 H1 _ l1 rh1 .non
    | rt d h' => rw [e] at p; exact p
    | bk ρ' h' => rw [e] at p; exact p.elim
    | ct ρ' h' => rw [e] at p; exact p.elim
    | ex c ρ' h' => rw [e] at p; exact fun G1 H1 σ1 l1 re1 rh1 => p G1 H1 l1 rh1
    | er => rw [e] at p; exact p.elim
/-- called with all its parameters -/
def cAll (n : Nat) (f : Fv) : Fv := fun ds h => if ds.length = n then f ds h else .err
theorem cal_all (hF : ∃ fd, FunD K nm nm params body scope [] [] (He.ga K nm) fd) (hm : mg nm = some (.ref (He.ga K nm))) (S : FnScope N ps scope)
    (hbd : ∀ (kV doc pm : Value) (an : Option Addr) (cdv ct : Value) (us : List Value), us.length = ps.length → bindArgs (PySem.W.fnOf nm nm params body scope .none kV doc pm an cdv ct) ⟨us, []⟩ = pure (ps.zip us))
    (hb : Body P w K mg base T N nm scope k body m) : Cal P w K mg base T (k + 1) nm (cAll ps.length (fn N.length m)) := by
  obtain ⟨fd, F⟩ := hF
  exact cal_of hm F.kp (fn_okC F S hb) (F.bindsN hbd)
/-- .. some of them by their defaults -/
def cDfl (n : Nat) (dds : List D) (f : Fv) : Fv := fun ds h => if ds.length + dds.length = n then f (ds ++ dds) h else .err
theorem cal_dfl1 (n j : Nat) {dds : List D} (hF : ∃ fd, FunD K nm nm params body scope dvs [] (He.ga K nm) fd) (hm : mg nm = some (.ref (He.ga K nm))) (S : FnScope N ps scope) (hd : dvs ≠ []) (hn : n + (dvs.length - j) = ps.length)
    (hbd : ∀ (T : Addr) (kV doc pm : Value) (an : Option Addr) (cdv ct : Value) (us its : List Value), us.length = n → its.length = dvs.length →
      ∃ k, bindArgs (PySem.W.fnOf nm nm params body scope (.ref T) kV doc pm an cdv ct) ⟨us, []⟩ = seqItems? (.ref T) >>= k ∧ k (some its.toArray) = pure (ps.zip (us ++ its.drop j)))
    (hr : ∀ G, RDs K G dds (dvs.drop j)) (hb : Body P w K mg base T N nm scope k body m) : Cal P w K mg base T (k + 1) nm (cDfl ps.length dds (fn N.length m)) := by
  obtain ⟨fd, F⟩ := hF
  exact cal_dfl hm F.kp (fn_okC F S hb) (F.binds1 n j hd hn hbd) hr
/-- an exception's class -/
structure ExnF (K : PySem.W.Frag) (mg : Str → Option Value) (c : Str) : Prop where
  g : mg c = some (.ref (He.ga K c))
  x : PySem.W.excIn K (He.ga K c) He.veBase "ValueError.__new__" = true
  k : PySem.W.keepIn K (.ref (He.ga K c)) = true
  b : PySem.W.subIn K (.ref (He.ga K c)) (.type "BaseException") = some true
  t : PySem.W.typeIn K (.ref (He.ga K c)) = some (.type "type")
theorem ExnF.at {X : Cx} {c : Str} (e : ExnF X.K X.mg c) : Exn X c := ⟨e.g, e.x, e.k, e.b, e.t⟩
end
end Sh

set_option Elab.async false
set_option linter.all false
set_option maxRecDepth 100000
set_option maxHeartbeats 4000000
/-! Sh20: short forms for printed derivations. -/
namespace Sh
open PySem PySem.Spec PyProof.Rows L2
section
variable {X : Cx} {T : Tb} {W : WX} {pos pos' : Pos} {x y z : Str}
theorem dv (i : Nat) (hN : X.N[i]? = some x := by rfl) (hv : Vis X.env.scope x := by first | exact .inl rfl | exact .inr (.inl rfl) | exact .inr (.inr rfl)) (hd : (x == ("__debug__" : Str)) = false := by decide) (hcd : (x == ("__classdict__" : Str)) = false := by decide) : DE X T W (.Name x pos) (eVar i) := de_var hN hv hd hcd
theorem gnm (i : Nat) (hN : X.N.Nodup) (hi : X.N[i]? = some x := by rfl) (hx : Loc X.env.scope x := by first | exact .inl rfl | exact .inr rfl) (hf : X.fn x = true ∨ X.env.scope.names.lookup x = some .local := by first | exact .inl rfl | exact .inr rfl) : DG X T (.Name x pos) (gNm i) := dg_name hN hi hx hf
theorem xnm {vs : List Nat} (i : Nat) (hN : X.N.Nodup) (hi : X.N[i]? = some x := by rfl) (hx : Loc X.env.scope x := by first | exact .inl rfl | exact .inr rfl) (hf : X.fn x = true ∨ X.env.scope.names.lookup x = some .local := by first | exact .inl rfl | exact .inr rfl) (hv : i ∈ vs := by decide) : DX X T vs (.Name x pos) (gNm i) := dx_name hN hi hx hv hf
theorem sst {e : Expr} {me : Ev} (i : Nat) (hN : X.N.Nodup) (he : DE X T W e me) (hi : X.N[i]? = some x := by rfl) (hx : Loc X.env.scope x := by first | exact .inl rfl | exact .inr rfl) (hs : swapsWith e (some (.Name x pos')) pos.line X.env = pure false := by rfl) (hf : X.fn x = true ∨ X.env.scope.names.lookup x = some .local := by first | exact .inl rfl | exact .inr rfl) : DS X T W (.Assign [.Name x pos'] e pos) (sAsg me (gNm i)) := ds_set hN hi hx he hs hf
theorem sau {e : Expr} {me : Ev} {op : Operator} {f : D → D → Option D} (i : Nat) (hN : X.N.Nodup) (he : DE X T W e me) (ho : OpD X T (inplaceOp op) f) (hi : X.N[i]? = some x := by rfl) (hx : Loc X.env.scope x := by first | exact .inl rfl | exact .inr rfl) (hf : X.fn x = true ∨ X.env.scope.names.lookup x = some .local := by first | exact .inl rfl | exact .inr rfl) : DS X T W (.AugAssign (.Name x pos') op e pos) (sAug f i me) := ds_aug hN hi hx he ho hf
theorem spar {a b : Expr} {ma : Av} {px py pt : Pos} {kt k2 pt2} (i j : Nat) (hc : X.calm = true) (hN : X.N.Nodup) (ha : DA X T W [a, b] ma) (hi : X.N[i]? = some x := by rfl) (hj : X.N[j]? = some y := by rfl) (hij : i ≠ j := by decide)
    (hx : X.env.scope.names.lookup x = some .local := by rfl) (hy : X.env.scope.names.lookup y = some .local := by rfl)
    (hw : swappedStores [.Tuple [.Name x px, .Name y py] kt pt] (.Tuple [a, b] k2 pt2) X.env = pure (some [x, y]) := by rfl)
    (hs : swapsWithSole [.Tuple [.Name x px, .Name y py] kt pt] (.Tuple [a, b] k2 pt2) pos.line X.env = pure false := by rfl) :
    DS X T W (.Assign [.Tuple [.Name x px, .Name y py] kt pt] (.Tuple [a, b] k2 pt2) pos) (sPar i j ma) := ds_par hc hN hi hj hij hx hy ha hw hs
def sPar3 (i j l : Nat) (ma : Av) : Sv := fun ρ h => (ma ρ h).st ρ fun ds h1 => match ds with
  | [x, y, z] => .nx (((ρ.set i (some x)).set j (some y)).set l (some z)) h1
  | _ => .er
theorem spar3 {a b c : Expr} {ma : Av} {px py pz pt : Pos} {kt k2 pt2} (i j l : Nat) (hc : X.calm = true) (hN : X.N.Nodup) (ha : DA X T W [a, b, c] ma) (hi : X.N[i]? = some x := by rfl) (hj : X.N[j]? = some y := by rfl) (hl : X.N[l]? = some z := by rfl) (hij : i ≠ j := by decide) (hil : i ≠ l := by decide) (hjl : j ≠ l := by decide)
    (hx : X.env.scope.names.lookup x = some .local := by rfl) (hy : X.env.scope.names.lookup y = some .local := by rfl) (hz : X.env.scope.names.lookup z = some .local := by rfl)
    (hw : swappedStores [.Tuple [.Name x px, .Name y py, .Name z pz] kt pt] (.Tuple [a, b, c] k2 pt2) X.env = pure (some [x, y, z]) := by rfl)
    (hs : swapsWithSole [.Tuple [.Name x px, .Name y py, .Name z pz] kt pt] (.Tuple [a, b, c] k2 pt2) pos.line X.env = pure false := by rfl) :
    DS X T W (.Assign [.Tuple [.Name x px, .Name y py, .Name z pz] kt pt] (.Tuple [a, b, c] k2 pt2) pos) (sPar3 i j l ma) := ⟨PS.imp (ps_par3 hc hN hi hj hl hij hil hjl hx hy hz ha.p hw hs) fun E σ H ⟨G, ρ, h, re, rh, p⟩ => by
  refine ⟨G, ρ, h, re, rh, ?_⟩
  unfold sPar3 at p
  cases e1 : ma ρ h with
  | ok ds h1 =>
    rw [e1] at p
    intro G1 H1 v l1 r1 d1
    cases d1 with
    | nil => exact p.elim
    | cons q t => cases t with
      | nil => exact p.elim
      | cons q2 t2 => cases t2 with
        | nil => exact p.elim
        | cons q3 t3 => cases t3 with
          | nil => exact ⟨_, _, _, rfl, p G1 H1 _ l1 ((((re.mono l1).set i q).set j q2).set l q3) r1⟩
          | cons _ _ => exact p.elim
  | exc c h1 => rw [e1] at p; exact fun G1 H1 l1 r1 => p G1 H1 σ l1 (re.mono l1) r1
  | err => rw [e1] at p; exact p⟩
theorem slc {elt tg iter : Expr} {ifs : List Expr} {scope : Scope} {own : List (Str × Nat)} {mi : Iv} {g : Gv} {mt : Bv} {me : Ev} {py spos : Pos} (i : Nat) (hc : X.calm = true) (hN : X.N.Nodup) (ok : BlkOk X.N X.env.scope scope own) (hi : DI X T W tg iter mi)
    (b : Blk X T scope (own.map (·.2)) tg ifs elt g mt me) (hy : X.N[i]? = some y := by rfl) (hyl : X.env.scope.names.lookup y = some .local := by rfl)
    (hsw : swapsWith (.ListComp elt [⟨tg, iter, ifs, 0⟩] scope pos) (some (.Name y py)) spos.line X.env = pure true := by rfl) (hs : ∀ x, foldedSetIterable iter X.env x = pure x := by intro _; rfl) :
    DS X T W (.Assign [.Name y py] (.ListComp elt [⟨tg, iter, ifs, 0⟩] scope pos) spos) (sAsg (eLc mi (own.map (·.2)) g mt me) (gNm i)) := ds_setLc hc hN hy hyl hsw hi ok b hs
end
theorem Cal.of {P : Program} {w : World} {K : PySem.W.Frag} {mg : Str → Option Value} {base : Heap} {T : Tb} {k : Nat} {x : Str} {f g : Fv} (c : Cal P w K mg base T k x f) (e : ∀ ds h, g ds h = f ds h) : Cal P w K mg base T k x g := by
  have q : g = f := by funext ds h; exact e ds h
  rw [q]; exact c
end Sh

set_option Elab.async false
set_option linter.all false
set_option maxRecDepth 100000
set_option maxHeartbeats 4000000
/-! Sh21: lambdas that are kept: their objects stand in the abstract heap. -/
namespace Sh
open PySem PySem.Spec PyProof.Rows L2

/-- the object at f is ob, for good -/
def LamO (f : Addr) (ob : Obj) : HO := .ext fun h => h.get? f = some ob
theorem lamO_ne {f : Addr} {ob : Obj} (ps : Array Value) : LamO f ob ≠ .tbl ps := fun z => by unfold LamO at z; cases z
theorem lamO_ok {P : Program} {w : World} {H : Hp} {h : Heap} {f : Addr} {ob : Obj} (e : h.get? f = some ob) : ObjOk P w H h f (LamO f ob) := ⟨e, ⟨ob, e⟩, fun _ _ a b => b _ a⟩
theorem lamO_get {P : Program} {w : World} {H : Hp} {h : Heap} {f : Addr} {ob : Obj} (k : HOk P w H h) (e : H f = some (LamO f ob)) : h.get? f = some ob := by
  have z := k f _ e
  unfold LamO at z
  exact z.1
abbrev lamOb (X : Cx) (params : Arguments) (body : Expr) (scope : Scope) (pm : Value) (c' : Addr) (ctv : Value) : Obj :=
  PySem.W.kla_obj "<lambda>" (X.env.qual ++ "<lambda>") params body scope (cloFrom X.env.cells scope.names []) pm c' ctv
section
variable {X : Cx} {pins : List (Addr × Obj)} {σ : L2.St} {H : Hp} {s : Shared}
/-- a lambda is made and tracked -/
theorem lam_mk {T : Tb} {c P : Addr} {params : Arguments} {body : Expr} {scope : Scope} {pos : Pos} {E Q : Value → Shared → Prop} (J : Inv X pins σ H s) (B : LamX.TabB X.base X.mg c P) (hco : X.env.code = .ref c)
    (hin : (P, X.env.qual ++ "<lambda>") ∈ T) (uq : ∀ p ∈ T, p.1 = P → p.2 = X.env.qual ++ "<lambda>") (tT : LamX.Tabs T H) (dn : defaultsOf params X.env = ([], [])) (fr : ∀ y ∈ scope.names, y.2 = .free → ∃ c, X.env.cells.lookup y.1 = some c)
    (done : ∀ (f c' : Addr) (pm ctv : Value) (Ha : Hp) (z : Shared), LamX.ExtN H Ha → LamX.Tabs T Ha → Ha f = none → (H c' = none ∨ ∃ q ps, H P = some (.tbl ps) ∧ codeAmong q ps.toList = some (.ref c')) → Ha c' = some (LamX.CodeO c' (X.env.qual ++ "<lambda>")) →
      Inv X pins σ (upd Ha f (LamO f (lamOb X params body scope pm c' ctv))) z → Q (.ref f) z) :
    wpAny (model X.prog X.w) X.A (eval (.Lambda params body scope pos) X.env) Q E s := by
  obtain ⟨ps, tP, tk3, tin⟩ := tT _ hin
  refine PySem.W.kla_eval dn ?_
  have bt : s.heap.BuiltinsAt X.mg P := B.bm.keeps J.bk
  have gP : s.heap.get? P = some { cls := .none, data := .fields ps } := J.hok P _ tP
  cases am : codeAmong pos ps.toList with
  | none =>
    refine PySem.W.kla_makeFunction (mg := X.mg) (ps := ps) (c := c) (P := P) (closure_ok fr) J.ok.glob (J.mod.glob.keeps J.bk) hco (B.code.keeps J.bk) gP tk3 am B.gP bt fun c' ctv g tk eb ge lt rc gt => ?_
    obtain ⟨c2, oc, vs, t, e2, oc1, oc2, oc3⟩ := rc
    cases e2
    have le1 : s.heap.objs.size ≤ g.objs.size := Nat.le_trans ge (Nat.le_of_lt lt)
    have nn : H c' = none := J.hok.fresh ge
    have J1 := LamX.inv_table (t' := tk) (more := #[rawInt pos.line, rawInt pos.col, .ref c']) (h' := g) J tP (fun b o ne e => eb b o ne e) gt ge ⟨oc, vs, t, oc1, oc2, oc3⟩
    have hE : LamX.ExtN H (upd (upd H P (.tbl (ps ++ #[rawInt pos.line, rawInt pos.col, .ref c']))) c' (LamX.CodeO c' (X.env.qual ++ "<lambda>"))) := by
      intro b o e n
      have n1 : b ≠ c' := ne_of_none e nn
      have n2 : b ≠ P := fun z => n ps (Option.some.inj (e.symm.trans (by rw [z]; exact tP)))
      rw [upd_ne n1, upd_ne n2]; exact e
    have eL : (ps ++ #[rawInt pos.line, rawInt pos.col, .ref c']).toList = ps.toList ++ [rawInt pos.line, rawInt pos.col, .ref c'] := by simp
    have nf := J1.hok.fresh (Nat.le_refl g.objs.size)
    refine done g.objs.size c' ((X.mg "__name__").getD .none) ctv _ _ hE ?_ nf (.inl nn) upd_same (J1.laid (t' := tk) (h' := g.push (lamOb X params body scope ((X.mg "__name__").getD .none) c' ctv)) (fun b o e => Heap.get?_push_of_some _ e) (Nat.le_refl _) (lamO_ok (Heap.get?_push_size _ rfl)))
    intro p hp
    by_cases hb : p.1 = P
    · rw [uq p hp hb, hb]
      refine ⟨_, by rw [upd_ne (ne_of_none tP nn), upd_same], by rw [eL]; exact PySem.TriplesOk_snoc _ _ _ _ tk3, fun p' cv hc => ?_⟩
      rw [eL] at hc
      rcases LamX.among_app _ tk3 hc with z | z
      · obtain ⟨c0, e1, e2⟩ := tin p' cv z
        exact ⟨c0, e1, hE _ _ e2 LamX.codeO_ne⟩
      · exact ⟨c', z, upd_same⟩
    · obtain ⟨ps', a1, a2, a3⟩ := tT p hp
      refine ⟨ps', by rw [upd_ne (ne_of_none a1 nn), upd_ne hb]; exact a1, a2, fun p' cv hc => ?_⟩
      obtain ⟨c0, e1, e2⟩ := a3 p' cv hc
      exact ⟨c0, e1, hE _ _ e2 LamX.codeO_ne⟩
  | some cv =>
    obtain ⟨c', e, co⟩ := tin pos cv am
    subst e
    refine PySem.W.kla_makeFunctionHit (mg := X.mg) (ps := ps) (c := c) (P := P) (closure_ok fr) J.ok.glob (J.mod.glob.keeps J.bk) hco (B.code.keeps J.bk) gP tk3 am bt fun ctv g tk kx le => ?_
    have J1 : Inv X pins σ H { s with heap := g, toks := tk } := J.kept kx
    have nf := J1.hok.fresh (Nat.le_refl g.objs.size)
    exact done g.objs.size c' ((X.mg "__name__").getD .none) ctv H _ (LamX.ExtN.refl H) tT nf (.inr ⟨pos, ps, tP, am⟩) co (J1.laid (t' := tk) (h' := g.push (lamOb X params body scope ((X.mg "__name__").getD .none) c' ctv)) (fun b o e => Heap.get?_push_of_some _ e) (Nat.le_refl _) (lamO_ok (Heap.get?_push_size _ rfl)))
end
/-! ### what is known of a lambda that is kept -/
/-- a lambda's text and its mirror -/
structure LamD (X : Cx) (T : Tb) (k : Nat) (params : Arguments) (body : Expr) (scope : Scope) (me : Ev) : Prop where
  L : LamX.LamS X.env.scope scope
  dn : defaultsOf params X.env = ([], [])
  bind : ∀ (q : Str) (cl : List (Str × Addr)) (pm cv ctv : Value), bindArgs (PySem.W.kla_fn "<lambda>" q params body scope cl pm cv ctv) ⟨[], []⟩ = pure []
  body : ∀ (A : Around) (outer : List Env) (s : Shared) (H : Hp) (E : XK) (f c' : Addr), Room k (A.deeper (LamX.lamEnv X scope s.heap.objs.size f c')) → DE (LamX.lamCx X A outer s H E scope f c') T (fun cls d _ H => E cls d H) body me
/-- at f stands such a one -/
def LamAt (X : Cx) (T : Tb) (k : Nat) (G : Gh) (f : Addr) (me : Ev) : Prop := ∃ params body scope c' pm ctv, LamD X T k params body scope me ∧ G.F f = some (LamO f (lamOb X params body scope pm c' ctv)) ∧ G.F c' = some (LamX.CodeO c' (X.env.qual ++ "<lambda>"))
theorem LamAt.mono {X : Cx} {T : Tb} {k : Nat} {G G' : Gh} {f : Addr} {me : Ev} (h : LamAt X T k G f me) (l : G.lw G') : LamAt X T k G' f me := by
  obtain ⟨a, b, c, d, e, g, h1, h2, h3⟩ := h
  exact ⟨a, b, c, d, e, g, h1, l.F _ _ h2, l.F _ _ h3⟩
inductive LamsAt (X : Cx) (T : Tb) (k : Nat) (G : Gh) : List Addr → List Ev → Prop where
  | nil : LamsAt X T k G [] []
  | cons {f fs me mes} : LamAt X T k G f me → LamsAt X T k G fs mes → LamsAt X T k G (f :: fs) (me :: mes)
theorem LamsAt.mono {X : Cx} {T : Tb} {k : Nat} {G G' : Gh} {fs : List Addr} {mes : List Ev} (h : LamsAt X T k G fs mes) (l : G.lw G') : LamsAt X T k G' fs mes := by
  induction h with
  | nil => exact .nil
  | cons a _ ih => exact .cons (a.mono l) ih
theorem LamsAt.append {X : Cx} {T : Tb} {k : Nat} {G : Gh} {fs gs : List Addr} {mes nes : List Ev} (h : LamsAt X T k G fs mes) (h2 : LamsAt X T k G gs nes) : LamsAt X T k G (fs ++ gs) (mes ++ nes) := by
  induction h with
  | nil => exact h2
  | cons a _ ih => exact .cons a ih
theorem LamsAt.length {X : Cx} {T : Tb} {k : Nat} {G : Gh} {fs : List Addr} {mes : List Ev} (h : LamsAt X T k G fs mes) : fs.length = mes.length := by
  induction h with
  | nil => rfl
  | cons _ _ ih => simp [ih]
section
variable {X : Cx} {T : Tb} {k : Nat} {c P : Addr} {params : Arguments} {body : Expr} {scope : Scope} {pos : Pos} {me : Ev}
/-- the making, told of ghosts -/
def tLam1 (X : Cx) (T : Tb) (k : Nat) (me : Ev) : TE := fun _ H Q => ∃ G h, RH X.K T G h H ∧ ∀ G' H' f, G.le G' → RH X.K T G' h H' → LamAt X T k G' f me → Q (.ref f) H'
theorem pe_lam1 (B : LamX.TabB X.base X.mg c P) (hco : X.env.code = .ref c) (hin : (P, X.env.qual ++ "<lambda>") ∈ T) (uq : ∀ p ∈ T, p.1 = P → p.2 = X.env.qual ++ "<lambda>") (D : LamD X T k params body scope me) :
    PE X (.Lambda params body scope pos) (tLam1 X T k me) := by
  refine ⟨fun pins s σ H Q I ⟨G, h, rh, q⟩ => lam_mk I B hco hin uq rh.tabs D.dn (D.L.has I.ok) fun f c' pm ctv Ha z eN tT nf hc' hco' J => ?_⟩
  have rh1 := rh.code eN tT
  have rh2 := rh1.new nf (LamO f (lamOb X params body scope pm c' ctv)) lamO_ne
  have l2 : (G.code Ha).le ((G.code Ha).put f (LamO f (lamOb X params body scope pm c' ctv))) := Gh.put_le (rh1.notF nf)
  have hF : (G.code Ha).F c' = some (LamX.CodeO c' (X.env.qual ++ "<lambda>")) := by
    rcases hc' with n | ⟨q, ps, e1, e2⟩
    · show (match G.F c' with
        | some o => some o
        | none => open Classical in if (∃ q, Ha c' = some (LamX.CodeO c' q)) ∧ c' ∉ G.α ∧ G.E c' = none then Ha c' else none) = _
      rw [rh.notF n]
      simp only
      rw [if_pos ⟨⟨_, hco'⟩, rh.notα n, rh.notE n⟩]
      exact hco'
    · obtain ⟨⟨ps', e1', _, e3⟩, _⟩ := rh.tab _ hin
      rw [e1] at e1'
      cases e1'
      obtain ⟨c2, e4, e5⟩ := e3 q _ e2
      cases e4
      exact Gh.code_le.F _ _ e5
  refine ⟨.ref f, _, J, rfl, q _ _ f (Gh.code_le.trans l2) rh2 ⟨params, body, scope, c', pm, ctv, D, upd_same, l2.F _ _ hF⟩⟩
/-- a run of them -/
def tLams (X : Cx) (T : Tb) (k : Nat) (mes : List Ev) : TA := fun _ H Q => ∃ G h, RH X.K T G h H ∧ ∀ G' H' fs, G.le G' → RH X.K T G' h H' → LamsAt X T k G' fs mes → Q (fs.map V.ref) H'
theorem pa_lam0 : PA X [] (tLams X T k []) := ⟨fun pos pins s σ H Q I ⟨G, h, rh, q⟩ => pa_nil.run pos pins s σ H Q I (q G H [] (.refl G) rh .nil)⟩
theorem pa_lamc {e : Expr} {es : List Expr} {mes : List Ev} (h1 : PE X e (tLam1 X T k me)) (h2 : PA X es (tLams X T k mes)) (hs : starEach (e :: es) X.env = (false, eval e X.env) :: starEach es X.env := by rfl) : PA X (e :: es) (tLams X T k (me :: mes)) :=
  ⟨fun pos pins s σ H Q I ⟨G, h, rh, q⟩ => (pa_cons h1 h2 hs).run pos pins s σ H Q I ⟨G, h, rh, fun G1 H1 f l1 r1 a1 => ⟨G1, h, r1, fun G2 H2 fs l2 r2 a2 => q G2 H2 (f :: fs) (l1.trans l2) r2 (.cons (a1.mono l2.w) a2)⟩⟩⟩
end
end Sh

set_option Elab.async false
set_option linter.all false
set_option maxRecDepth 100000
set_option maxHeartbeats 4000000
/-! Sh22: a list of lambdas, made bit by bit, in a name. -/
namespace Sh
open PySem PySem.Spec PyProof.Rows L2

/-- the name i tells a list of these lambdas -/
def Bad (X : Cx) (T : Tb) (k : Nat) (G : Gh) (σ : L2.St) (i : Nat) (mes : List Ev) : Prop := ∃ D fs, σ[i]? = some (some (.ref D)) ∧ G.F D = some (.lst (fs.map V.ref)) ∧ LamsAt X T k G fs mes
theorem Bad.mono {X : Cx} {T : Tb} {k : Nat} {G G' : Gh} {σ : L2.St} {i : Nat} {mes : List Ev} (h : Bad X T k G σ i mes) (l : G.lw G') : Bad X T k G' σ i mes := by
  obtain ⟨D, fs, h1, h2, h3⟩ := h
  exact ⟨D, fs, h1, l.F _ _ h2, h3.mono l⟩
/-- such a name, for the mirror, holds nothing -/
def sForget (i : Nat) : Sv := fun ρ h => if i < ρ.length then .nx (ρ.set i none) h else .er
theorem RE.forget {K : PySem.W.Frag} {G : Gh} {ρ : En} {σ : L2.St} (re : RE K G ρ σ) (i : Nat) (v : Option V) : RE K G (ρ.set i Option.none) (σ.set i v) := by
  refine ⟨by rw [List.length_set, List.length_set]; exact re.len, fun j d e => ?_⟩
  by_cases hj : j = i
  · subst hj
    rw [List.getElem?_set] at e
    simp only [if_true] at e
    split at e <;> cases e
  · rw [List.getElem?_set_ne (Ne.symm hj)] at e
    rw [List.getElem?_set_ne (Ne.symm hj)]
    exact re.get j d e
def tLB (X : Cx) (T : Tb) (W : WX) (k i : Nat) (mes : List Ev) (m : Sv) : TS := fun E σ H => ∃ G ρ h, RE X.K G ρ σ ∧ RH X.K T G h H ∧ ρ[i]? = some none ∧ Bad X T k G σ i mes ∧ PostS X.K T W G (m ρ h) E
/-- a body behind such a list -/
structure LB (X : Cx) (T : Tb) (W : WX) (k i : Nat) (mes : List Ev) (st : List Stmt) (m : Sv) : Prop where
  p : PSs X st (tLB X T W k i mes m)
/-- lambdas written one behind another -/
structure DLs (X : Cx) (T : Tb) (k : Nat) (es : List Expr) (mes : List Ev) : Prop where
  p : PA X es (tLams X T k mes)
section
variable {X : Cx} {T : Tb} {W : WX} {k i : Nat} {pos pos' p1 : Pos} {x : Str} {es : List Expr} {mes nes : List Ev} {rest : List Stmt} {m : Sv} {c P : Addr} {params : Arguments} {body : Expr} {scope : Scope} {me : Ev}
theorem dls_nil : DLs X T k [] [] := ⟨pa_lam0⟩
theorem dls_cons (B : LamX.TabB X.base X.mg c P) (hco : X.env.code = .ref c) (hin : (P, X.env.qual ++ "<lambda>") ∈ T) (uq : ∀ p ∈ T, p.1 = P → p.2 = X.env.qual ++ "<lambda>") (D : LamD X T k params body scope me) (h2 : DLs X T k es mes)
    (hs : starEach (.Lambda params body scope pos :: es) X.env = (false, eval (.Lambda params body scope pos) X.env) :: starEach es X.env := by rfl) : DLs X T k (.Lambda params body scope pos :: es) (me :: mes) := ⟨pa_lamc (pe_lam1 B hco hin uq D) h2.p hs⟩
/-- the list itself -/
def tLamL (X : Cx) (T : Tb) (k : Nat) (mes : List Ev) : TE := fun _ H Q => ∃ G h, RH X.K T G h H ∧ ∀ G' H' D fs, G.le G' → RH X.K T G' h H' → G'.F D = some (.lst (fs.map V.ref)) → LamsAt X T k G' fs mes → Q (.ref D) H'
theorem pe_lamL (h : DLs X T k es mes) (hl : mes.length ≤ 1000) : PE X (.List es pos) (tLamL X T k mes) := PE.imp (pe_lst h.p) fun σ H Q ⟨G, hh, rh, q⟩ => by
  refine ⟨G, hh, rh, fun G1 H1 fs l1 r1 a1 => ⟨by rw [List.length_map, a1.length, sizeLine_eq]; omega, fun p hp => ?_⟩⟩
  have l := Gh.put_le (o := .lst (fs.map V.ref)) (r1.notF hp)
  exact q _ _ p fs (l1.trans l) (r1.new hp _) (by show upd G1.F p _ p = _; rw [upd_same]) (a1.mono l.w)
/-- the name is set -/
theorem lb_set {e : Expr} {te : TE} (hN : X.N.Nodup) (hi : X.N[i]? = some x) (hx : Loc X.env.scope x) (he : PE X e te) (hrest : LB X T W k i mes rest m) (hs : swapsWith e (some (.Name x pos')) pos.line X.env = pure false) (hf : X.fn x = true ∨ X.env.scope.names.lookup x = some .local)
    {t : TS} (hq : ∀ E σ H, t E σ H → te σ H fun v H1 => tLB X T W k i mes m E (σ.set i (some v)) H1) : PSs X (.Assign [.Name x pos'] e pos :: rest) t :=
  PSs.imp (pss_cons (ps_set hN hi hx he hs hf) hrest.p) fun E σ H q => hq E σ H q
/-- bad = [lambda: .., ..] -/
theorem lb_start (i : Nat) (hN : X.N.Nodup) (hl : decide (mes.length ≤ 1000) = true) (h : DLs X T k es mes) (hrest : LB X T W k i mes rest m) (hi : X.N[i]? = some x := by rfl) (hx : Loc X.env.scope x := by first | exact .inl rfl | exact .inr rfl) (hs : swapsWith (.List es p1) (some (.Name x pos')) pos.line X.env = pure false := by rfl)
    (hf : X.fn x = true ∨ X.env.scope.names.lookup x = some .local := by first | exact .inl rfl | exact .inr rfl) : DB X T W (.Assign [.Name x pos'] (.List es p1) pos :: rest) (sSeq (sForget i) m) :=
  ⟨lb_set hN hi hx (pe_lamL h (of_decide_eq_true hl)) hrest hs hf fun E σ H ⟨G, ρ, hh, re, rh, p⟩ => ⟨G, hh, rh, fun G1 H1 D fs l1 r1 e1 a1 => by
    have p : PostS X.K T W G ((sForget i ρ hh).then m) E := p
    unfold sForget at p
    split at p
    · rename_i hlen
      have p : PostS X.K T W G (m (ρ.set i none) hh) E := p
      have e2 : (σ.set i (some (.ref D)))[i]? = some (some (V.ref D)) := by rw [List.getElem?_set]; simp only [if_true]; rw [if_pos (by rw [← re.len]; exact hlen)]
      refine ⟨G1, ρ.set i none, hh, (re.mono l1).forget i _, r1, ?_, ⟨D, fs, e2, e1, a1⟩, PostS.mono p l1⟩
      rw [List.getElem?_set]; simp only [if_true]; rw [if_pos hlen]
    · exact p.elim⟩⟩
/-- bad = bad + [lambda: .., ..] -/
theorem lb_more {px pb : Pos} (hN : X.N.Nodup) (hl : decide (mes.length + nes.length ≤ 1000) = true) (h : DLs X T k es nes) (hrest : LB X T W k i (mes ++ nes) rest m) (hi : X.N[i]? = some x := by rfl) (hv : Vis X.env.scope x := by first | exact .inl rfl | exact .inr (.inl rfl) | exact .inr (.inr rfl)) (hx : Loc X.env.scope x := by first | exact .inl rfl | exact .inr rfl)
    (hs : swapsWith (.BinOp (.Name x px) .Add (.List es p1) pb) (some (.Name x pos')) pos.line X.env = pure false := by rfl)
    (hf : X.fn x = true ∨ X.env.scope.names.lookup x = some .local := by first | exact .inl rfl | exact .inr rfl) (hd : (x == ("__debug__" : Str)) = false := by decide) (hcd : (x == ("__classdict__" : Str)) = false := by decide) :
    LB X T W k i mes (.Assign [.Name x pos'] (.BinOp (.Name x px) .Add (.List es p1) pb) pos :: rest) m := by
  have hl := of_decide_eq_true hl
  refine ⟨lb_set hN hi hx (pe_op op_cat (pe_var hi hv hd hcd) (pe_lamL h (by omega))) hrest hs hf fun E σ H ⟨G, ρ, hh, re, rh, e0, ⟨D, fs, s1, s2, s3⟩, p⟩ => ⟨.ref D, s1, G, hh, rh, fun G1 H1 D2 fs2 l1 r1 e1 a1 => ?_⟩⟩
  refine ⟨D, D2, _, _, rfl, rfl, r1.F _ _ (l1.F _ _ s2), r1.F _ _ e1, by rw [List.length_map, List.length_map, s3.length, a1.length, sizeLine_eq]; omega, fun q hq => ?_⟩
  have l := Gh.put_le (o := .lst (fs.map V.ref ++ fs2.map V.ref)) (r1.notF hq)
  have hlen : i < ρ.length := by
    rcases Nat.lt_or_ge i ρ.length with z | z
    · exact z
    · rw [List.getElem?_eq_none z] at e0; cases e0
  have e2 : (σ.set i (some (.ref q)))[i]? = some (some (V.ref q)) := by rw [List.getElem?_set]; simp only [if_true]; rw [if_pos (by rw [← re.len]; exact hlen)]
  have e3 : ρ.set i none = ρ := by
    apply List.ext_getElem?
    intro j
    by_cases hj : j = i
    · subst hj; rw [List.getElem?_set]; simp only [if_true]; rw [if_pos hlen, e0]
    · rw [List.getElem?_set_ne (Ne.symm hj)]
  have re2 := (re.mono (l1.trans l)).forget i (some (.ref q))
  rw [e3] at re2
  refine ⟨_, ρ, hh, re2, r1.new hq _, e0, ⟨q, fs ++ fs2, e2, by show upd G1.F q _ q = _; rw [upd_same, List.map_append], (s3.mono (l1.trans l).w).append (a1.mono l.w)⟩, PostS.mono p (l1.trans l)⟩
/-- the list is not looked at any more -/
theorem lb_out (h : DB X T W rest m) : LB X T W k i mes rest m := ⟨PSs.imp h.p fun E σ H ⟨G, ρ, hh, re, rh, _, _, p⟩ => ⟨G, ρ, hh, re, rh, p⟩⟩
end
end Sh

set_option Elab.async false
set_option linter.all false
set_option maxRecDepth 100000
set_option maxHeartbeats 4000000
/-! Sh23: told(f) within a block, f one of the lambdas that are kept. -/
namespace Sh
open PySem PySem.Spec PyProof.Rows L2

/-- behind a block's steps: the maker's own state -/
theorem outer_inv {X : Cx} {pins pins' : List (Addr × Obj)} {σ σ' : L2.St} {H0 H' : Hp} {s0 s' : Shared} {scope : Scope} {ce : Env} {fp : List Addr} (J : Inv X pins σ H0 s0) (hf : ∀ b ∈ fp, FpOk X pins H0 b) (I : Inv (X.blk s0 H0 scope ce fp) pins' σ' H' s') : Inv X pins σ H' s' :=
  J.call' (ch := fp) I.os I.base I.hok I.bare fun b hb => ⟨(hf b hb).2.2.2.1, (hf b hb).2.1, (hf b hb).2.2.2.2.1, (hf b hb).2.2.2.2.2⟩
section
variable {X : Cx} {T : Tb} {pins : List (Addr × Obj)} {σ : L2.St} {H : Hp} {s : Shared}
/-- a(), a tells a lambda of X that is kept; Z is the frame of the def that got it -/
theorem pe_actO {CZ : CXT} {EZ E : XK} {NZ : List Str} {qz : Str} {sz : Scope} {gz f c' : Addr} {cz pm ctv : Value} {params : Arguments} {body : Expr} {scope : Scope} {k i : Nat} {a : Str} {pn : List (Addr × Obj)} {xe : Value → Shared → Prop} {W : WX} {me : Ev} {p1 p2 : Pos}
    (J : Inv X pins σ H s) (D : LamD X T k params body scope me) (tk : Takes ((cxOf CZ X.prog X.w X.K X.mg X.base NZ qz sz gz cz X.A X.stack s H EZ).tr pn xe) W) (hW : ∀ cls d σ' H', E cls d H' → W cls d σ' H') (hr : Room (k + 1) (X.A.deeper (envOfC qz sz s.heap.objs.size gz cz)))
    (hi : NZ[i]? = some a) (hv : Vis sz a) (hd : (a == ("__debug__" : Str)) = false) (hcd : (a == ("__classdict__" : Str)) = false) :
    PE ((cxOf CZ X.prog X.w X.K X.mg X.base NZ qz sz gz cz X.A X.stack s H EZ).tr pn xe) (.Call (.Name a p1) [] [] p2)
      (fun σz Hz Q => σz[i]? = some (some (.ref f)) ∧ Hz c' = some (LamX.CodeO c' (X.env.qual ++ "<lambda>")) ∧ Hz f = some (LamO f (lamOb X params body scope pm c' ctv)) ∧ tE X.K T (fun cls d _ H => E cls d H) me σ Hz Q) := by
  refine ⟨fun pz z σz Hz Q Iz ⟨h1, h2, h3, h4⟩ => wpAny_Call_Name_kw (thn ((pe_var (pos := p1) hi hv hd hcd).run pz z σz Hz (fun v Hv => v = .ref f ∧ Hv = Hz) Iz ⟨_, h1, rfl, rfl⟩) fun u y ⟨v, Hy, Iy, ry, ev, eH⟩ => ?_)⟩
  subst ev eH
  obtain rfl : u = Value.ref f := ry
  have gf := lamO_get Iy.hok h3
  obtain ⟨⟨oc, vs, t, co1, co2, co3⟩, _, _⟩ := Iy.hok c' _ h2
  refine PySem.W.callWith_F0 ⟨_, _, _, _, gf⟩ ?_
  have un0 : Un (frs X.stack) [] H Hy s.heap y.heap := Iy.base
  have run : codeAny (model X.prog X.w) (X.A.deeper (envOfC qz sz s.heap.objs.size gz cz)) (.call (.ref f) ⟨[], []⟩) (CR (L2.CX X.prog X.w) (envOfC qz sz s.heap.objs.size gz cz :: X.stack) X.prog X.w Hy y Q E) y := by
    refine PySem.W.kla_callFunE hr.depth gf rfl D.L.co D.L.gen rfl ⟨c', oc, vs, t, rfl, co1, co2, co3⟩ ?_
    rw [D.bind]
    refine wpAny_pure (wpAny_newFunctionEnv (fun y hy => (D.L.own y hy).2) (fun y hy => absurd hy (by simp)) (fun hn ns sb => ⟨Iy.nolimit.fresh _ sb, ?_⟩) D.L.kind)
    have keep : ∀ b o, y.heap.get? b = some o → hn.get? b = some o := fun b o e => sb.extBut b o (Nat.ne_of_lt (Heap.lt_size e)) (Heap.get?_push_of_some _ e)
    have Jl : Inv (LamX.lamCx X (X.A.deeper (envOfC qz sz s.heap.objs.size gz cz)) (envOfC qz sz s.heap.objs.size gz cz :: X.stack) y Hy E scope f c') [] σ Hy { y with heap := hn, toks := y.toks + ([] : List (Str × Value)).length } := LamX.lam_start2 J D.L Iy.env0 hr.hd un0 ns keep
    refine PySem.W.kla_codeExpr (wpAny_mono ((D.body _ _ y Hy E f c' (hr.deeper _)).p.run [] _ _ Hy Q Jl h4) (fun v s' ⟨w', H', J', rv, q⟩ => ?_) fun e s' q => q)
    exact ⟨w', H', J'.os, J'.bare, J'.base, J'.hok, rv, q⟩
  refine wpAny_call (codeAny_mono run fun r s' q => ?_)
  cases r with
  | error e => exact (passes_call tk hW) pz σz Hy y e s' Iy q
  | ok fl =>
    cases fl with
    | ret u => exact Iy.after q
    | next => exact q.elim
    | brk => exact q.elim
    | cont => exact q.elim
/-- told(f) there -/
def tToldO (X : Cx) (T : Tb) (k : Nat) (σ : L2.St) (j : Nat) (cat : List Str) (ret : List Nat) : TE := fun σ' H' Q => ∃ fa me G ρ h, σ'[j]? = some (some (.ref fa)) ∧ LamAt X T k G fa me ∧ RE X.K G ρ σ ∧ RH X.K T G h H' ∧
  (match eTold cat ret me ρ h with
  | .ok d h' => ∀ G' H2 v, G.le G' → RH X.K T G' h' H2 → RD X.K G' d v → Q v H2
  | _ => False)
theorem pe_toldO {x a e : Str} {pg : Arguments} {sg : Scope} {CS : Addr} {ret : List Nat} {cat : List Str} {k j : Nat} {scope : Scope} {ce : Env} {fp : List Addr} {y : Str} {p pf pos : Pos} (t : ToldF X.K X.mg x a e pg sg CS ret) (hcat : ∀ c ∈ cat, PySem.W.exmOne X.K (.ref (He.ga X.K c)) (.ref CS) = some true)
    (J : Inv X pins σ H s) (hf : ∀ b ∈ fp, FpOk X pins H b) (hg : Gl (X.blk s H scope ce fp) x) (hr : Room (k + 2) X.A) (hj : X.N[j]? = some y) (hv : Vis ce.scope y) (hdb : (x == ("__debug__" : Str)) = false) (hyd : (y == ("__debug__" : Str)) = false) (hyc : (y == ("__classdict__" : Str)) = false) (had : (a == ("__debug__" : Str)) = false) (hac : (a == ("__classdict__" : Str)) = false)
    (hst : starEach [.Name y pf] ce = (false, eval (.Name y pf) ce) :: starEach [] ce := by rfl) (hpl : (backTo pos (starEach ([] : List Expr) ce)).any (·.1) = false := by rfl) :
    PE (X.blk s H scope ce fp) (.Call (.Name x p) [.Name y pf] [] pos) (tToldO X T k σ j cat ret) := by
  obtain ⟨g, fd, jj, p1, p2, p3, p4, p5, p6, p7, p8, hm, hb, F⟩ := t.ex
  obtain ⟨oc, od, dV, kV, doc, pm0, an, cdv, ct, osl, rfl, lk, hcd', _, _⟩ := F.ex
  have G0 := LamX.told_gives (X := X) (Ng := [a]) (x := x) (a := a) (e := e) (q := X.env.qual ++ "<lambda>") (ret := S ret) (sg := sg) (g := g) (CS := CS) (cdg := cdv) (j := jj) (p1 := p1) (p2 := p2) (p3 := p3) (p4 := p4) (p5 := p5) (p6 := p6) (p7 := p7) (p8 := p8) t.ge t.me t.de (fun f => rfl)
  refine ⟨fun pb z σb Hb Q I ⟨fa, me, G, ρ, h, hs, ⟨params, body, lsc, c', pm, ctv, D, f1, f2⟩, re, rh, q⟩ => ?_⟩
  refine wpAny_Call_Name_kw (ld_glob I hg hm ?_ hdb)
  refine PySem.W.callWith_K (h₀ := X.base) I.ok.mod.kin F.kp (thn ((pa_cons (X := X.blk s H scope ce fp) (pe_var hj hv hyd hyc) pa_nil hst).run pos pb z σb Hb (fun vs Hv => vs = [.ref fa] ∧ Hv = Hb) I ⟨_, hs, rfl, rfl⟩) fun us s1 ⟨vs, H1, I1, r, ev, eH⟩ => ⟨I1.kIn, ?_⟩) hst hpl
  subst ev eH
  have J1 : Inv X pins σ H1 s1 := outer_inv J hf I1
  cases r with
  | cons r1 r2 =>
    cases r2
    obtain rfl := r1
    have rc : codeAny (model X.prog X.w) X.A (.call (.ref g) ⟨[.ref fa], []⟩) (CR C8.CX0 X.stack X.prog X.w H1 s1 Q C8.E0) s1 := by
      refine LamX.run_ofS (N := [a]) (ps := [a]) (us := [.ref fa]) (vs := [.ref fa]) lk hcd' t.fs hr J1.env0 (hb s1 [.ref fa] J1.kIn rfl) (.cons rfl .nil) rfl fun hr' => ?_
      have hx : LamX.TTold X.K CS (S ret) (fun E H' Q' => H' fa = some (LamO fa (lamOb X params body lsc pm c' ctv)) ∧ tE X.K T (fun cls d _ H => E cls d H) me σ H' Q') H1 Q := by
        refine ⟨rh.F _ _ f1, G, ρ, h, re, rh, ?_⟩
        unfold eTold at q
        cases e1 : me ρ h with
        | ok d h' => rw [e1] at q; exact q
        | exc c h' =>
          rw [e1] at q
          intro G' H' l r
          by_cases hm : c ∈ cat
          · have q : (match (if c ∈ cat then .ok (.str ret) h' else .err : Res Sh.D) with
              | .ok d h' => ∀ G' H2 v, G.le G' → RH X.K T G' h' H2 → RD X.K G' d v → Q v H2
              | _ => False) := q
            rw [if_pos hm] at q
            exact ⟨true, hcat c hm, fun _ => q G' H' _ l r (.str ret), fun z => by cases z⟩
          · have q : (match (if c ∈ cat then .ok (.str ret) h' else .err : Res Sh.D) with
              | .ok d h' => ∀ G' H2 v, G.le G' → RH X.K T G' h' H2 → RD X.K G' d v → Q v H2
              | _ => False) := q
            rw [if_neg hm] at q
            exact q.elim
        | err => rw [e1] at q; exact q.elim
      obtain ⟨t', ht', hq'⟩ := G0 fa c' s1 H1 Q _ (fun W pn xe E p1 p2 tk hW => pe_actO (i := 0) J1 D tk hW hr' rfl t.va had hac) (rh.F _ _ f2) hx
      exact ⟨t', ht'.nox, hq'⟩
    refine wpAny_call (codeAny_mono rc fun r s2 hq => ?_)
    cases r with
    | error e => exact (show False from hq).elim
    | ok fl =>
      cases fl with
      | ret u => exact I1.after hq
      | next => exact False.elim hq
      | brk => exact False.elim hq
      | cont => exact False.elim hq
end
end Sh

set_option Elab.async false
set_option linter.all false
set_option maxRecDepth 100000
set_option maxHeartbeats 4000000
/-! Sh24: a list comprehension whose tests lean on the maker's own state. -/
namespace Sh
open PySem PySem.Spec PyProof.Rows L2

section
variable {X : Cx}
theorem lc_own {pins : List (Addr × Obj)} {s : Shared} {σ : L2.St} {H : Hp} {Q : VK} {elt tg iter : Expr} {ifs : List Expr} {scope : Scope} {own : List (Str × Nat)} {pos : Pos} {wi : TI} {g : TG} {tt : TT} {te : TE} (calm : X.calm = true) (nd : X.N.Nodup) (J : Inv X pins σ H s) (hi : PI X tg iter wi)
    (ok : BlkOk X.N X.env.scope scope own) (hg : ∀ (s : Shared) (H : Hp) (C : Addr) (cl : List (Str × Addr)) (fp : List Addr), PG (X.blk s H scope (compEnvC scope cl C X.env) fp) tg g)
    (ht : ∀ (s : Shared) (H : Hp) (C : Addr) (cl : List (Str × Addr)) (fp : List Addr), Inv X pins σ H s → (∀ b ∈ fp, FpOk X pins H b) → PTs (X.blk s H scope (compEnvC scope cl C X.env) fp) ifs tt)
    (he : ∀ (s : Shared) (H : Hp) (C : Addr) (cl : List (Str × Addr)) (fp : List Addr), PE (X.blk s H scope (compEnvC scope cl C X.env) fp) elt te) (hs : ∀ x, foldedSetIterable iter X.env x = pure x) (h : tLc wi g tt te (own.map (·.2)) σ H Q) :
    wpAny (model X.prog X.w) X.A (eval (.ListComp elt [⟨tg, iter, ifs, 0⟩] scope pos) X.env) (EP X pins σ Q) X.xe s := by
  have fr : ∀ y ∈ scope.names, y.2 = .free → ∃ c, X.env.cells.lookup y.1 = some c := by
    intro y hy e
    exact (ok.free y hy e).elim (fun z => J.ok.has _ (.inl z)) fun z => J.ok.has _ (.inr z)
  rw [eval_ListComp]
  refine wpAny_comprehension_free (use := none) rfl hs (closure_ok fr) ok.kind (fun y hy e => by rw [ok.uniq y hy, e]) (thn (hi.run pins s σ H _ J h) fun xv za hx => thn hx fun iv zb hb => ?_)
  obtain ⟨it, fp, tn, Jt, Hb, rfl, Jb, Tu, tb0, fpb, q⟩ := hb
  refine wpAny_newObj_type (newEnv_comp ?_) (by show 0 ≤ sizeLine; decide)
  have nD : Hb zb.heap.objs.size = none := Jb.hok.fresh (Nat.le_refl _)
  obtain ⟨Wt, ⟨m0, w0⟩, step⟩ := q _ nD
  -- the list, the block's frame
  obtain ⟨D, eD⟩ : ∃ D, D = zb.heap.objs.size := ⟨_, rfl⟩
  rw [← eD] at w0 step nD
  obtain ⟨zc, ec⟩ : ∃ zc : Shared, zc = { zb with heap := zb.heap.push { cls := .type "list", data := .seq ([] : List Value).toArray } } := ⟨_, rfl⟩
  have hpc : zc.heap = zb.heap.push { cls := .type "list", data := .seq ([] : List Value).toArray } := by rw [ec]
  have Jc : Inv X pins σ (upd Hb D (.lst [])) zc := by
    rw [ec]
    refine Jb.laid (t' := zb.toks) (fun b o e => Heap.get?_push_of_some _ e) (Nat.le_of_eq eD.symm) ⟨Nat.zero_le _, [], 0, .nil, ?_⟩
    rw [eD]
    exact Heap.get?_push_size _ rfl
  have lo : ∀ b ∈ fp, b < zb.heap.objs.size := fun b hb => let ⟨o, e, _⟩ := Tu.obj _ _ tb0 b hb; Heap.lt_size e
  have fpc : ∀ b ∈ fp, FpOk X pins (upd Hb D (.lst [])) b ∧ b < zc.heap.objs.size := by
    intro b hb
    refine ⟨⟨?_, (fpb b hb).2⟩, ?_⟩
    · rw [upd_ne (show b ≠ D from by rw [eD]; exact Nat.ne_of_lt (lo b hb))]
      exact (fpb b hb).1
    · rw [hpc, Heap.size_push]
      exact Nat.lt_succ_of_lt (lo b hb)
  have tc0 : tn 0 zc.heap := Tu.keep _ _ _ tb0 fun b _ o e => by rw [hpc]; exact Heap.get?_push_of_some _ e
  have Jd := block_start Jc ok nd fpc
  rw [← ec, ← eD]
  obtain ⟨Hc, eH⟩ : ∃ Hc, Hc = upd Hb D (.lst []) := ⟨_, rfl⟩
  rw [← eH] at w0 Jc fpc Jd
  obtain ⟨cl, ecl⟩ : ∃ cl, cl = cellsFrom (zc.heap.objs.size + 1) scope.names (cloFrom X.env.cells scope.names []) := ⟨_, rfl⟩
  have rg := hg zc Hc zc.heap.objs.size cl fp
  have rt := ht zc Hc zc.heap.objs.size cl fp Jc fun b hb => (fpc b hb).1
  have re := he zc Hc zc.heap.objs.size cl fp
  rw [← ecl] at Jd
  show codeAny _ _ (.compStart (.ListComp elt [⟨tg, iter, ifs, 0⟩] scope pos) 0 (.ref it) (.ref D) (compEnvC scope (cellsFrom (zc.heap.objs.size + 1) scope.names (cloFrom X.env.cells scope.names [])) zc.heap.objs.size X.env)) (compPost (model X.prog X.w) X.A X.xe none (EP X pins σ Q) (.ref D) zc.heap.objs.size)
    { zc with heap := pushCells (zc.heap.push { cls := .type "dict", data := .dict #[] }) scope.names }
  rw [← ecl]
  obtain ⟨ce, ece⟩ : ∃ ce, ce = compEnvC scope cl zc.heap.objs.size X.env := ⟨_, rfl⟩
  have locs : ce.locals = zc.heap.objs.size := by rw [ece]; rfl
  rw [← ece] at Jd rg rt re ⊢
  obtain ⟨zd, ed⟩ : ∃ zd : Shared, zd = { zc with heap := pushCells (zc.heap.push { cls := .type "dict", data := .dict #[] }) scope.names } := ⟨_, rfl⟩
  have td0 : tn 0 zd.heap := Tu.keep _ _ _ tc0 fun b _ o e => by rw [ed]; exact pushCells_keeps _ _ _ _ (Heap.get?_push_of_some _ e)
  rw [← ed] at Jd ⊢
  have stand : ∀ {σ' : L2.St} {H' : Hp} {z : Shared}, Inv (X.blk zc Hc scope ce fp) [] σ' H' z → (∀ b ∈ fp, H' b = none) → ∀ b ∈ fp, FpOk (X.blk zc Hc scope ce fp) [] H' b := by
    intro σ' H' z I n b hb
    exact ⟨n b hb, (I.ok.exf b hb).1, I.ok.exfs b hb, .inl hb, fun x c e => (I.ok.exf b hb).2 x c e, fun p hp => absurd (show p ∈ ([] : List (Addr × Obj)) ++ [] from hp) (by simp)⟩
  have loop : codeAny (model X.prog X.w) X.A (.compLoop (.ListComp elt [⟨tg, iter, ifs, 0⟩] scope pos) 0 (.ref it) (.ref D) ce) (compPost (model X.prog X.w) X.A X.xe none (EP X pins σ Q) (.ref D) zc.heap.objs.size) zd := by
    refine compLoop_any (fun n z => ∃ i H', Inv (X.blk zc Hc scope ce fp) [] (wipe σ (own.map (·.2))) H' z ∧ tn i z.heap ∧ (∀ b ∈ fp, H' b = none) ∧ Wt i n H') (fun n z ⟨i, Hz, Jz, tz, nz, wz⟩ => ?_) m0 ⟨0, Hc, Jd, td0, fun b hb => (fpc b hb).1.1, w0⟩
    rcases step i n Hz wz with ⟨halt, won⟩ | ⟨go, Nx, less, turn⟩
    · -- none is left
      refine thnF (Tu.done (X.blk zc Hc scope ce fp) rfl rfl rfl calm i [] z _ Hz (fun _ _ => False) Jz (stand Jz nz) tz halt) fun r y ⟨hr, Jy⟩ => ?_
      subst hr
      have Jo : Inv X pins σ Hz y := outer_inv Jc (fun b hb => (fpc b hb).1) Jy
      have fC : Hz zc.heap.objs.size = none := by rw [← locs]; exact Jy.free
      obtain ⟨m, hm, _⟩ := Jy.loc
      have hm : y.heap.Ns ce.locals m := hm
      rw [locs] at hm
      refine ⟨m, hm, fun h2 sb => ?_⟩
      obtain ⟨a0, a1, _, a3, a4, a5⟩ := Jc.fpOk (Nat.le_refl _) fC
      exact ⟨.ref D, Hz, Jo.turned (t' := y.toks) (fun b o ne e => (sb.2 b ne).trans e) a0 a1 a3 a4 a5, rfl, won⟩
    · -- one more
      refine thnF (Tu.item (X.blk zc Hc scope ce fp) rfl rfl rfl calm i [] z _ Hz (fun _ _ => False) Jz (stand Jz nz) tz go) fun r y ⟨u, hr, hy⟩ => ?_
      subst hr
      refine thnF hy fun _ y2 ⟨x, H2, J2, rx, yx, t2, n2⟩ => ?_
      have J2p := J2.pinned (stand J2 n2) (Tu.obj _ _ t2)
      refine thnF (rg.run _ y2 _ H2 x u _ J2p rx (turn x H2 yx)) fun _ y3 ⟨σ3, H3, J3, same, q3⟩ => ?_
      refine thnF (rt.run _ y3 σ3 H3 _ J3 q3) fun b y4 ⟨H4, J4, q4⟩ => ?_
      have next : ∀ {y' : Shared} {H' : Hp}, Inv (X.blk zc Hc scope ce fp) ([] ++ pinsAt fp y2.heap) σ3 H' y' → Nx H' → ∃ m, m < n ∧ ∃ i H', Inv (X.blk zc Hc scope ce fp) [] (wipe σ (own.map (·.2))) H' y' ∧ tn i y'.heap ∧ (∀ b ∈ fp, H' b = none) ∧ Wt i m H' := by
        intro y' H' I' nx
        obtain ⟨m', lt, w'⟩ := less H' nx
        have held : ∀ b ∈ fp, ∀ o, y2.heap.get? b = some o → y'.heap.get? b = some o ∧ H' b = none := fun b hb o e => let z := I'.pin (b, o) (List.mem_append_right _ (List.mem_append_right _ (mem_pinsAt hb e))); ⟨z.1, z.2.1⟩
        refine ⟨m', lt, i + 1, H', (I'.unpinned (pins := [])).weak (by rw [← same, wipe_length]) (fun j v e => ?_), Tu.keep _ _ _ t2 fun b hb o e => (held b hb o e).1, fun b hb => ?_, w'⟩
        · rw [← same] at e
          exact (wipe_some e).1
        · obtain ⟨o, e, _⟩ := Tu.obj _ _ t2 b hb
          exact (held b hb o e).2
      cases b with
      | false => simp only [Bool.false_eq_true, if_false] at q4 ⊢; exact next J4 q4
      | true =>
        simp only [if_true] at q4 ⊢
        exact thnF (re.run _ y4 σ3 H4 _ J4 q4) fun v y5 ⟨yv, H5, J5, r5, acc, e5, z5, nx⟩ => app_ok (X := X.blk zc Hc scope ce fp) J5 e5 z5 r5 fun y6 J6 => next J6 nx
  exact codeAny_compStart_list loop (Tu.self X.A 0 _ _ _ td0 loop)
end
end Sh

set_option Elab.async false
set_option linter.all false
set_option maxRecDepth 100000
set_option maxHeartbeats 4000000
/-! Sh25: [1 for f in bad if told(f) != y]. -/
namespace Sh
open PySem PySem.Spec PyProof.Rows L2

theorem LamsAt.get {X : Cx} {T : Tb} {k : Nat} {G : Gh} {fs : List Addr} {mes : List Ev} (h : LamsAt X T k G fs mes) : ∀ {i : Nat} {me : Ev}, mes[i]? = some me → ∃ f, fs[i]? = some f ∧ LamAt X T k G f me := by
  induction h with
  | nil => intro i me e; simp at e
  | @cons f fs me mes a _ ih =>
    intro i m e
    cases i with
    | zero => simp at e; subst e; exact ⟨f, by simp, a⟩
    | succ i => simp at e; obtain ⟨g, h1, h2⟩ := ih e; exact ⟨g, by simpa using h1, h2⟩
/-- each lambda told; how many tell something else -/
def badGo (cat : List Str) (ret y : List Nat) : List Ev → Nat → En → LH → Res D
  | [], n, _, h => .ok (.lst (List.replicate n (.int 1))) h
  | me :: mes, n, ρ, h => match eTold cat ret me ρ h with
    | .ok d h' => (match dNe d (.str y) with
      | some (.bl true) => badGo cat ret y mes (n + 1) ρ h'
      | some (.bl false) => badGo cat ret y mes n ρ h'
      | _ => .err)
    | _ => .err
def eBad (j : Nat) (cat : List Str) (ret y : List Nat) (mes : List Ev) : Ev := fun ρ h => if j < ρ.length then badGo cat ret y mes 0 ρ h else .err
/-- the test, in the block -/
def tBadT (X : Cx) (T : Tb) (k : Nat) (σ : L2.St) (j : Nat) (cat : List Str) (ret y : List Nat) : TT := fun σ' H Q => ∃ fa me G ρ h, σ'[j]? = some (some (.ref fa)) ∧ LamAt X T k G fa me ∧ RE X.K G ρ σ ∧ RH X.K T G h H ∧
  (match eTold cat ret me ρ h with
  | .ok d h' => (match dNe d (.str y) with
    | some (.bl b) => ∀ G' H2, G.le G' → RH X.K T G' h' H2 → Q b H2
    | _ => False)
  | _ => False)
theorem rds_rep {K : PySem.W.Frag} {G : Gh} : ∀ n : Nat, RDs K G (List.replicate n (.int 1)) (List.replicate n (.int 1))
  | 0 => .nil
  | n + 1 => .cons (.int 1) (rds_rep n)
section
variable {X : Cx} {T : Tb} {W : WX} {k i j : Nat}
theorem pts_bad {pins : List (Addr × Obj)} {σ : L2.St} {H : Hp} {s : Shared} {x a e : Str} {pg : Arguments} {sg : Scope} {CS : Addr} {ret : List Nat} {cat : List Str} {scope : Scope} {ce : Env} {fp : List Addr} {yf : Str} {p pf pc pos : Pos} {yl : List Nat} {jc : Nat} {py : Pos} (t : ToldF X.K X.mg x a e pg sg CS ret) (hcat : ∀ c ∈ cat, PySem.W.exmOne X.K (.ref (He.ga X.K c)) (.ref CS) = some true)
    (J : Inv X pins σ H s) (hf : ∀ b ∈ fp, FpOk X pins H b) (hg : Gl (X.blk s H scope ce fp) x) (hr : Room (k + 2) X.A) (hj : X.N[j]? = some yf) (hv : Vis ce.scope yf) (hdb : (x == ("__debug__" : Str)) = false) (hyd : (yf == ("__debug__" : Str)) = false) (hyc : (yf == ("__classdict__" : Str)) = false) (had : (a == ("__debug__" : Str)) = false) (hac : (a == ("__classdict__" : Str)) = false)
    (hst : starEach [.Name yf pf] ce = (false, eval (.Name yf pf) ce) :: starEach [] ce := by rfl) (hpl : (backTo pc (starEach ([] : List Expr) ce)).any (·.1) = false := by rfl) :
    PTs (X.blk s H scope ce fp) [.Compare (.Call (.Name x p) [.Name yf pf] [] pc) [.NotEq] [.Constant (.str (S yl)) jc py] pos] (tBadT X T k σ j cat ret yl) := by
  refine PTs.imp (pts_one (pt_cmpR (X := X.blk s H scope ce fp) (od_ne (T := T) (hu64 hr)) (pe_toldO t hcat J hf hg hr hj hv hdb hyd hyc had hac hst hpl) pe_str (by first | exact nomark _ | rfl))) fun σ' H' Q ⟨fa, me, G, ρ, h, h1, h2, h3, h4, q⟩ => ⟨fa, me, G, ρ, h, h1, h2, h3, h4, ?_⟩
  cases e1 : eTold cat ret me ρ h with
  | err => rw [e1] at q; exact q.elim
  | exc c h' => rw [e1] at q; exact q.elim
  | ok d h' =>
    rw [e1] at q
    intro G' H2 v l r rd
    cases e2 : dNe d (.str yl) with
    | none => simp only [e2] at q
    | some z =>
      simp only [e2] at q
      cases z with
      | bl b => exact ⟨G', h', d, .str yl, .bl b, r, rd, .str yl, e2, fun G3 H3 z l3 r3 d3 => by cases d3; exact ⟨b, rfl, q G3 H3 (l.trans l3) r3⟩⟩
      | _ => simp at q
/-- the list's reading asks what stands in the name -/
def tEB (X : Cx) (T : Tb) (W : WX) (k i : Nat) (mes : List Ev) (m : Ev) : TE := fun σ H Q => ∃ G ρ h, RE X.K G ρ σ ∧ RH X.K T G h H ∧ Bad X T k G σ i mes ∧ Post X.K T W σ G (m ρ h) Q
theorem pe_bad {mes : List Ev} {x a e : Str} {pg : Arguments} {sg : Scope} {CS : Addr} {ret : List Nat} {cat : List Str} {scope : Scope} {yf xb : Str} {p pf pc pe pt pb py p9 pos : Pos} {yl : List Nat} {jc j1 : Nat} (t : ToldF X.K X.mg x a e pg sg CS ret) (hcat : ∀ c ∈ cat, PySem.W.exmOne X.K (.ref (He.ga X.K c)) (.ref CS) = some true)
    (calm : X.calm = true) (nd : X.N.Nodup) (hl : mes.length ≤ 1000) (hr : Room (k + 2) X.A) (ok : BlkOk X.N X.env.scope scope [(yf, j)]) (hg : ∀ C cl, (compEnvC scope cl C X.env).kindOf x = some .globalImplicit) (hi : X.N[i]? = some xb) (hvb : Vis X.env.scope xb) (hj : X.N[j]? = some yf)
    (hv : ∀ C cl, Vis (compEnvC scope cl C X.env).scope yf) (hlo : ∀ C cl, Loc (compEnvC scope cl C X.env).scope yf) (hfn : (scope.names.lookup yf == some .cell) = true ∨ ∀ C cl, (compEnvC scope cl C X.env).scope.names.lookup yf = some .local)
    (hdb : (x == ("__debug__" : Str)) = false) (hyd : (yf == ("__debug__" : Str)) = false) (hyc : (yf == ("__classdict__" : Str)) = false) (had : (a == ("__debug__" : Str)) = false) (hac : (a == ("__classdict__" : Str)) = false) (hbd : (xb == ("__debug__" : Str)) = false) (hbc : (xb == ("__classdict__" : Str)) = false)
    (hs : ∀ v, foldedSetIterable (.Name xb pb) X.env v = pure v) (hst : ∀ C cl, starEach [.Name yf pf] (compEnvC scope cl C X.env) = (false, eval (.Name yf pf) (compEnvC scope cl C X.env)) :: starEach [] (compEnvC scope cl C X.env)) :
    PE X (.ListComp (.Constant (.int 1) j1 pe) [⟨.Name yf pt, .Name xb pb, [.Compare (.Call (.Name x p) [.Name yf pf] [] pc) [.NotEq] [.Constant (.str (S yl)) jc py] p9], 0⟩] scope pos) (tEB X T W k i mes (eBad j cat ret yl mes)) := by
  refine ⟨fun pins s σ H Q I ⟨G, ρ, h, re, rh, ⟨LD, fs, s1, s2, s3⟩, q⟩ => ?_⟩
  refine lc_own calm nd I (pi_list (pe_var hi hvb hbd hbc)) ok (fun s H C cl fp => pg_name (X := X.blk s H scope (compEnvC scope cl C X.env) fp) nd hj (hlo C cl) (hfn.elim .inl fun z => .inr (z C cl))) (fun s H C cl fp J hf => pts_bad (T := T) t hcat J hf (hg C cl) hr hj (hv C cl) hdb hyd hyc had hac (hst C cl)) (fun s H C cl fp => pe_int) hs ?_
  unfold eBad at q
  split at q
  rotate_left
  · exact q.elim
  rename_i hjl
  refine ⟨.ref LD, s1, LD, rfl, ⟨_, SqL.of (rh.F _ _ s2)⟩, fun D hD => ?_⟩
  have n0 : G.E D = none := rh.notE hD
  refine ⟨fun i m H => ∃ G2 h n, G.lw G2 ∧ G2.E = upd G.E D (.lst (List.replicate n (.int 1))) ∧ RH X.K T G2 h H ∧ n ≤ i ∧ m = mes.length - i ∧ i ≤ mes.length ∧ Post X.K T W σ G (badGo cat ret yl (mes.drop i) n ρ h) Q,
    ⟨_, G.hold D (.lst []), h, 0, Gh.hold_lw, rfl, rh.hold hD _, Nat.le_refl _, rfl, Nat.zero_le _, q⟩, ?_⟩
  rintro i m H2 ⟨G2, h2, n, l2, eE, rh2, hn, rfl, hi, p2⟩
  have hE2 : G2.E D = some (.lst (List.replicate n (.int 1))) := by rw [eE, upd_same]
  have hL : SqL X.K H2 LD (fs.map V.ref) := SqL.of (rh2.F _ _ (l2.F _ _ s2))
  by_cases hlt : i < mes.length
  · obtain ⟨fa, g1, g2⟩ := s3.get (List.getElem?_eq_getElem hlt)
    have gi : (fs.map V.ref)[i]? = some (.ref fa) := by rw [List.getElem?_map, g1]; rfl
    refine .inr ⟨⟨_, _, hL, gi⟩, fun H' => ∃ G3 h n, G.lw G3 ∧ G3.E = upd G.E D (.lst (List.replicate n (.int 1))) ∧ RH X.K T G3 h H' ∧ n ≤ i + 1 ∧ Post X.K T W σ G (badGo cat ret yl (mes.drop (i + 1)) n ρ h) Q,
      fun H' ⟨G3, h3, n3, a1, a2, a3, a4, a5⟩ => ⟨mes.length - (i + 1), by omega, G3, h3, n3, a1, a2, a3, a4, rfl, hlt, a5⟩, fun x H' ⟨eH, y⟩ => ?_⟩
    have y := y _ hL
    rw [gi] at y
    cases y
    subst eH
    refine ⟨(wipe_set (List.mem_singleton.mpr rfl)).trans wipe_idem, fa, mes[i], G2, ρ, h2, ?_, g2.mono l2, re.monow l2, rh2, ?_⟩
    · rw [List.getElem?_set]
      simp only [if_true]
      rw [if_pos (by rw [wipe_length, ← re.len]; exact hjl)]
    · rw [List.drop_eq_getElem_cons hlt] at p2
      unfold badGo at p2
      cases e1 : eTold cat ret mes[i] ρ h2 with
      | err => rw [e1] at p2; exact p2.elim
      | exc c h3 => rw [e1] at p2; exact p2.elim
      | ok d h3 =>
        rw [e1] at p2
        cases e2 : dNe d (.str yl) with
        | none => simp only [e2] at p2; exact p2.elim
        | some z =>
          simp only [e2] at p2
          cases z with
          | bl b =>
            simp only [e2]
            intro G3 H3 l3 rh3
            have eE3 : G3.E = upd G.E D (.lst (List.replicate n (.int 1))) := by rw [l3.E]; exact eE
            cases b with
            | false =>
              rw [if_neg Bool.false_ne_true]
              exact ⟨G3, h3, n, l2.trans l3.w, eE3, rh3, by omega, p2⟩
            | true =>
              rw [if_pos rfl]
              have hE3 : G3.E D = some (.lst (List.replicate n (.int 1))) := by rw [l3.E]; exact hE2
              refine ⟨List.replicate n (.int 1), (rh3.ext D _ hE3).1, by rw [List.length_replicate, sizeLine_eq]; omega, G3.hold D (.lst (List.replicate (n + 1) (.int 1))), h3, n + 1, (l2.trans l3.w).trans Gh.hold_lw, ?_, ?_, by omega, p2⟩
              · show upd G3.E D _ = _
                rw [eE3, upd_upd]
              · rw [← List.replicate_succ']
                exact rh3.held hE3 _
          | _ => exact p2.elim
  · have ei : i = mes.length := by omega
    subst ei
    rw [List.drop_length] at p2
    refine .inl ⟨⟨_, hL, by rw [List.length_map, s3.length]; exact Nat.le_refl _⟩, ?_⟩
    obtain ⟨lb, rb⟩ := rh2.back hE2 n0 (fun a u e => by rw [eE, upd_ne (fun z => by rw [z, n0] at e; cases e)]; exact e)
    exact p2 (G2.back D (.lst (List.replicate n (.int 1))) G.E) H2 (.ref D) ⟨l2.trans lb, rfl⟩ rb (.lst (by show upd G2.F D _ D = _; rw [upd_same]) (rds_rep n))
end
end Sh

set_option Elab.async false
set_option linter.all false
set_option maxRecDepth 100000
set_option maxHeartbeats 4000000
/-! Sh26: if [1 for f in bad if told(f) != y] != []: .. -/
namespace Sh
open PySem PySem.Spec PyProof.Rows L2

def tTB (X : Cx) (T : Tb) (W : WX) (k i : Nat) (mes : List Ev) (mt : Bv) : TT := fun σ H Q => ∃ G ρ h, RE X.K G ρ σ ∧ RH X.K T G h H ∧ Bad X T k G σ i mes ∧ PostB X.K T W σ G (mt ρ h) Q
/-- a test that looks at such a list -/
structure DTB (X : Cx) (T : Tb) (W : WX) (k i : Nat) (mes : List Ev) (e : Expr) (mt : Bv) : Prop where
  p : PT X e (tTB X T W k i mes mt)
section
variable {X : Cx} {T : Tb} {W : WX} {k i j : Nat} {mes : List Ev} {pos : Pos}
theorem dtb_cmp {e1 e2 : Expr} {op : CmpOp} {f : D → D → Option D} {m1 m2 : Ev} (ho : OpD X T (compareOp op) f) (h1 : PE X e1 (tEB X T W k i mes m1)) (h2 : DE X T W e2 m2) (hm : behindInMarks op e2 = false := by first | exact nomark _ | rfl) :
    DTB X T W k i mes (.Compare e1 [op] [e2] pos) (bTest (eBin f m1 m2)) := ⟨PT.imp (pt_cmpR ho h1 h2.p hm) fun σ H Q ⟨G, ρ, h, re, rh, b, p⟩ => by
  refine ⟨G, ρ, h, re, rh, b, ?_⟩
  unfold bTest eBin at p
  cases e1 : m1 ρ h with
  | err => rw [e1] at p; exact p.elim
  | exc c h' => rw [e1] at p; exact p
  | ok d h1 =>
    rw [e1] at p
    intro G1 H1 v1 l1 r1 d1
    refine ⟨G1, ρ, h1, re.mono l1, r1, ?_⟩
    simp only [Res.bind] at p
    cases e2 : m2 ρ h1 with
    | err => rw [e2] at p; exact p.elim
    | exc c h' => rw [e2] at p; exact fun G2 H2 l2 => p G2 H2 (l1.trans l2)
    | ok d2 h2 =>
      rw [e2] at p
      intro G2 H2 v2 l2 r2 dd2
      simp only [Res.bind] at p
      cases e3 : f d d2 with
      | none => rw [e3] at p; exact p.elim
      | some z =>
        rw [e3] at p
        refine ⟨G2, h2, d, d2, z, r2, d1.mono l2, dd2, e3, fun G3 H3 w l3 r3 d3 => ?_⟩
        cases z with
        | bl b => cases d3; exact ⟨b, rfl, p G3 H3 ((l1.trans l2).trans l3) r3⟩
        | _ => exact p.elim⟩
theorem lb_if {c : Expr} {a b rest : List Stmt} {mt : Bv} {m n r : Sv} (hc : DTB X T W k i mes c mt) (ha : DB X T W a m) (hb : DB X T W b n) (hr : DB X T W rest r) : LB X T W k i mes (.If c a b pos :: rest) (sSeq (sIf mt m n) r) :=
  ⟨PSs.imp (pss_cons (ps_if hc.p ha.p hb.p) hr.p) fun E σ H ⟨G, ρ, h, re, rh, _, bd, p⟩ => by
    refine ⟨G, ρ, h, re, rh, bd, ?_⟩
    unfold sSeq sIf at p
    cases e1 : mt ρ h with
    | err => rw [e1] at p; exact p.elim
    | exc c h' => rw [e1] at p; exact fun G1 H1 l1 r1 => p G1 H1 σ l1 (re.mono l1) r1
    | ok d h1 =>
      rw [e1] at p
      simp only [Res.st] at p
      intro G1 H1 l1 r1
      have fin : ∀ q : SR, PostS X.K T W G (q.then r) E → PostS X.K T W G1 q { E with nx := tS X.K T W r E } := by
        intro q hq
        cases q with
        | nx ρ' h' => exact fun G2 H2 σ2 l2 re2 rh2 => ⟨G2, ρ', h', re2, rh2, PostS.mono hq (l1.trans l2)⟩
        | rt d h' => exact PostS.mono (r := .rt d h') hq l1
        | bk ρ' h' => exact PostS.mono (r := .bk ρ' h') hq l1
        | ct ρ' h' => exact PostS.mono (r := .ct ρ' h') hq l1
        | ex c ρ' h' => exact PostS.mono (r := .ex c ρ' h') hq l1
        | er => exact hq
      cases d with
      | true => rw [if_pos rfl] at p ⊢; exact ⟨G1, ρ, h1, re.mono l1, r1, fin _ p⟩
      | false => rw [if_neg Bool.false_ne_true] at p ⊢; exact ⟨G1, ρ, h1, re.mono l1, r1, fin _ p⟩⟩
/-- the short form -/
theorem dtb_bad {x a e : Str} {pg : Arguments} {sg : Scope} {CS : Addr} {ret : List Nat} {cat : List Str} {scope : Scope} {yf xb : Str} {p pf pc pe pt pb py p1 p2 p3 : Pos} {jc j1 : Nat} (i j : Nat) (yl : List Nat) (t : ToldF X.K X.mg x a e pg sg CS ret) (hcat : ∀ c ∈ cat, PySem.W.exmOne X.K (.ref (He.ga X.K c)) (.ref CS) = some true)
    (nd : X.N.Nodup) (hr : Room (k + 2) X.A) (calm : X.calm = true := by rfl) (hl : decide (mes.length ≤ 1000) = true := by rfl) (ok : blkC X.N X.env.scope scope [(yf, j)] = true := by rfl) (hg : ∀ C cl, (compEnvC scope cl C X.env).kindOf x = some .globalImplicit := by intro _ _; rfl) (hi : X.N[i]? = some xb := by rfl) (hvb : Vis X.env.scope xb := by first | exact .inl rfl | exact .inr (.inl rfl) | exact .inr (.inr rfl)) (hj : X.N[j]? = some yf := by rfl)
    (hv : ∀ C cl, Vis (compEnvC scope cl C X.env).scope yf := by intro _ _; first | exact .inl rfl | exact .inr (.inl rfl) | exact .inr (.inr rfl)) (hlo : ∀ C cl, Loc (compEnvC scope cl C X.env).scope yf := by intro _ _; first | exact .inl rfl | exact .inr rfl)
    (hfn : (scope.names.lookup yf == some .cell) = true ∨ ∀ C cl, (compEnvC scope cl C X.env).scope.names.lookup yf = some .local := by first | exact .inl rfl | exact .inr (fun _ _ => rfl))
    (hdb : (x == ("__debug__" : Str)) = false := by decide) (hyd : (yf == ("__debug__" : Str)) = false := by decide) (hyc : (yf == ("__classdict__" : Str)) = false := by decide) (had : (a == ("__debug__" : Str)) = false := by decide) (hac : (a == ("__classdict__" : Str)) = false := by decide) (hbd : (xb == ("__debug__" : Str)) = false := by decide) (hbc : (xb == ("__classdict__" : Str)) = false := by decide)
    (hs : ∀ v, foldedSetIterable (.Name xb pb) X.env v = pure v := by intro _; rfl) (hst : ∀ C cl, starEach [.Name yf pf] (compEnvC scope cl C X.env) = (false, eval (.Name yf pf) (compEnvC scope cl C X.env)) :: starEach [] (compEnvC scope cl C X.env) := by intro _ _; rfl) :
    DTB X T W k i mes (.Compare (.ListComp (.Constant (.int 1) j1 pe) [⟨.Name yf pt, .Name xb pb, [.Compare (.Call (.Name x p) [.Name yf pf] [] pc) [.NotEq] [.Constant (.str (S yl)) jc py] p1], 0⟩] scope p2) [.NotEq] [.List [] p3] pos) (bTest (eBin dNe (eBad j cat ret yl mes) (eLst aNil))) :=
  dtb_cmp (od_ne (hu64 hr)) (pe_bad t hcat calm nd (of_decide_eq_true hl) hr (blkOk_by ok) hg hi hvb hj hv hlo hfn hdb hyd hyc had hac hbd hbc hs hst) (de_lst da_nil)
/-- .. or another thing -/
theorem dtb_or {c c2 : Expr} {es : List Expr} {mt mo : Bv} (hc : DTB X T W k i mes c mt) (ho : DW X T W (.BoolOp .Or (c2 :: es) pos) mo) : DTB X T W k i mes (.BoolOp .Or (c :: c2 :: es) pos) (bOr mt mo) := ⟨(PW.imp (pw_or hc.p ho.p) fun σ H Q ⟨G, ρ, h, re, rh, bd, p⟩ => by
  refine ⟨G, ρ, h, re, rh, bd, ?_⟩
  unfold bOr at p
  cases e1 : mt ρ h with
  | err => rw [e1] at p; exact p.elim
  | exc c h1 => rw [e1] at p; exact p
  | ok x h1 =>
    rw [e1] at p
    intro G1 H1 l1 rh1
    cases x with
    | true => rw [if_pos rfl]; exact p G1 H1 l1 rh1
    | false => rw [if_neg Bool.false_ne_true]; exact ⟨G1, ρ, h1, re.mono l1, rh1, PostB.mono p l1⟩).pt⟩
end
end Sh

set_option Elab.async false
set_option linter.all false
set_option maxRecDepth 100000
set_option maxHeartbeats 4000000
/-! Sh27: data of the module, by a Bool that a head evaluates. -/
namespace Sh
open PySem PySem.Spec PyProof.Rows L2

def zipB (f : D → Value → Bool) : List D → List Value → Bool
  | [], [] => true
  | d :: ds, u :: us => f d u && zipB f ds us
  | _, _ => false
/-- the value u is d, for good -/
def frB (K : PySem.W.Frag) : Nat → D → Value → Bool
  | 0, _, _ => false
  | n + 1, d, u => match d, u with
    | .non, .none => true
    | .bl b, .bool c => b == c
    | .int i, .int j _ => decide (i = j)
    | .str x, .str y _ => decide (S x = y)
    | .tup ds, .ref a => (match K.lookup a with
      | some ⟨.type c, _, .seq its _, _⟩ => decide (c = "tuple") && (decide (its.size ≤ sizeLine) && zipB (frB K n) ds its.toList)
      | _ => false)
    | .fls ds, .ref a => (match K.lookup a with
      | some ⟨.type c, none, .seq its _, _⟩ => decide (c = "list") && (decide (its.size ≤ sizeLine) && zipB (frB K n) ds its.toList)
      | _ => false)
    | _, _ => false
theorem and2 {a b : Bool} (h : (a && b) = true) : a = true ∧ b = true := by simpa using h
theorem zipB_ok {K : PySem.W.Frag} {f : D → Value → Bool} (hf : ∀ d u, f d u = true → ∃ v, RelV v u ∧ ∀ G, RD K G d v) : ∀ (ds : List D) (us : List Value), zipB f ds us = true → ∃ vs, Vals vs us ∧ ∀ G, RDs K G ds vs
  | [], [], _ => ⟨[], .nil, fun _ => .nil⟩
  | d :: ds, u :: us, h => by
    obtain ⟨h1, h2⟩ := and2 h
    obtain ⟨v, r, q⟩ := hf d u h1
    obtain ⟨vs, rs, qs⟩ := zipB_ok hf ds us h2
    exact ⟨v :: vs, .cons r rs, fun G => .cons (q G) (qs G)⟩
  | [], _ :: _, h => by cases h
  | _ :: _, [], h => by cases h
theorem frB_ok {K : PySem.W.Frag} : ∀ (n : Nat) (d : D) (u : Value), frB K n d u = true → ∃ v, RelV v u ∧ ∀ G, RD K G d v
  | 0, _, _, h => by cases h
  | n + 1, d, u, h => by
    unfold frB at h
    split at h
    · exact ⟨.non, rfl, fun _ => .non⟩
    · rename_i b c
      have e : b = c := by simpa using h
      subst e
      exact ⟨.bl b, rfl, fun _ => .bl b⟩
    · rename_i i j t
      have e := of_decide_eq_true h
      subst e
      exact ⟨.int i, ⟨t, rfl⟩, fun _ => .int i⟩
    · rename_i x y t
      have e := of_decide_eq_true h
      subst e
      exact ⟨.str (S x), ⟨t, rfl⟩, fun _ => .str x⟩
    · rename_i ds a
      split at h
      · rename_i c od its m sl q
        obtain ⟨h1, h2⟩ := and2 h
        obtain ⟨h2, h3⟩ := and2 h2
        obtain ⟨vs, r, q2⟩ := zipB_ok (frB_ok n) ds its.toList h3
        refine ⟨.ref a, rfl, fun G => .tup (.inr ⟨_, its, m, q, ?_, rfl, of_decide_eq_true h2, r⟩) (q2 G)⟩
        rw [of_decide_eq_true h1]
      · cases h
    · rename_i ds a
      split at h
      · rename_i c its m sl q
        obtain ⟨h1, h2⟩ := and2 h
        obtain ⟨h2, h3⟩ := and2 h2
        obtain ⟨vs, r, q2⟩ := zipB_ok (frB_ok n) ds its.toList h3
        refine ⟨.ref a, rfl, fun G => .fls (.inr ⟨_, its, m, q, ?_, rfl, rfl, of_decide_eq_true h2, r⟩) (q2 G)⟩
        rw [of_decide_eq_true h1]
      · cases h
    · cases h
/-! ### a dict of the module -/
def entB (K : PySem.W.Frag) (p : List Nat × D) (e : DictEntry) : Bool := (match e.key with
  | .str x _ => decide (S p.1 = x)
  | _ => false) && frB K 6 p.2 e.val
def entsB (K : PySem.W.Frag) : List (List Nat × D) → List DictEntry → Bool
  | [], [] => true
  | p :: ps, e :: es => entB K p e && entsB K ps es
  | _, _ => false
def dcB (K : PySem.W.Frag) (a : Addr) (kvs : List (List Nat × D)) : Bool := match K.lookup a with
  | some ⟨_, _, .dict es _, _⟩ => entsB K kvs es.toList
  | _ => false
theorem ents_ok {K : PySem.W.Frag} {w : World} : ∀ (kvs : List (List Nat × D)) (es : List DictEntry), entsB K kvs es = true → ∃ vs : List (Key × Value), (∀ P : Program, Pairs (mixKind P w) es vs) ∧ vs.map (·.1) = kvs.map (fun p => (.inr (S p.1) : Key)) ∧
    Paired (fun (p : List Nat × D) (q : Key × Value) => q.1 = .inr (S p.1) ∧ ∃ v, RelV v q.2 ∧ ∀ G, RD K G p.2 v) kvs vs
  | [], [], _ => ⟨[], fun _ => .nil, rfl, .nil⟩
  | p :: ps, e :: es, h => by
    obtain ⟨h1, h2⟩ := and2 h
    obtain ⟨vs, a1, a2, a3⟩ := ents_ok ps es h2
    obtain ⟨h3, h4⟩ := and2 h1
    obtain ⟨v, r, q⟩ := frB_ok 6 p.2 e.val h4
    refine ⟨(.inr (S p.1), e.val) :: vs, fun P => .cons ?_ rfl (a1 P), by simp [a2], .cons ⟨rfl, v, r, q⟩ a3⟩
    split at h3
    · rename_i x t ek
      have e2 := of_decide_eq_true h3
      show keyIs (.inr (S p.1)) e.key = true
      rw [ek, ← e2]
      exact keyIs_str _ _
    · cases h3
  | [], _ :: _, h => by cases h
  | _ :: _, [], h => by cases h
theorem ktab_of {K : PySem.W.Frag} {w : World} {a : Addr} {es : Array DictEntry} {n : Nat} {kvs : List (List Nat × D)} (Dk : KDict K w a es n) (h : dcB K a kvs = true) (hl : decide (kvs.length ≤ 1000) = true) (hn : decide ((kvs.map (·.1)).Nodup) = true) : ∃ vs, KTab K w a kvs vs := by
  unfold dcB at h
  rw [Dk.at_] at h
  obtain ⟨vs, a1, a2, a3⟩ := ents_ok (w := w) kvs es.toList h
  have nd : (vs.map (·.1)).Nodup := by
    rw [a2, show (kvs.map fun p => (.inr (S p.1) : Key)) = (kvs.map (·.1)).map fun l => (.inr (S l) : Key) from by rw [List.map_map]; rfl]
    exact List.Pairwise.map _ (fun x y hne z => hne (S_inj (Sum.inr.inj z))) (of_decide_eq_true hn)
  refine ⟨vs, ⟨fun P hh X => ?_, Dk.low, a3, of_decide_eq_true hl⟩⟩
  refine ⟨_, es, n, X _ _ Dk.at_, ⟨rfl, rfl, rfl⟩, rfl, fun e he => ?_, a1 P, nd⟩
  obtain ⟨x, t, ek, eh⟩ := Dk.lit.all e (by simpa using he)
  exact ⟨.inr x, (show keyIs (.inr x) e.key = true from by rw [ek]; exact keyIs_str x t), eh⟩
end Sh

set_option Elab.async false
set_option linter.all false
set_option maxRecDepth 100000
set_option maxHeartbeats 4000000
/-! Sh28: the start of a law's def, its end. -/
namespace Sh
open PySem PySem.Spec PyProof.Rows L2

/-- the ghost at the start: the script stands -/
noncomputable def G0 (H : Hp) (a : Addr) : Gh := ⟨fun b => if b = a then (match H a with
  | some (.tbl _) => none
  | o => o) else none, [], fun _ => none⟩
theorem g0_F {H : Hp} {a b : Addr} {o : HO} (h : (G0 H a).F b = some o) : b = a ∧ H b = some o ∧ ∀ ps, o ≠ .tbl ps := by
  have h : (if b = a then (match H a with
    | some (.tbl _) => none
    | o => o) else none) = some o := h
  split at h
  · rename_i e
    subst e
    refine ⟨rfl, ?_⟩
    split at h
    · cases h
    · rename_i hn
      refine ⟨h, fun ps z => ?_⟩
      subst z
      exact hn ps h
  · cases h
theorem rh_start {K : PySem.W.Frag} {T : Tb} {H : Hp} {a : Addr} (hT : ∀ p ∈ T, H p.1 = some (.tbl #[])) : RH K T (G0 H a) [] H := by
  refine ⟨fun b o e => (g0_F e).2.1, rfl, by show ([] : List Addr).Nodup; exact List.nodup_nil, fun n o a e => by simp at e, fun p hp => ⟨⟨#[], hT p hp, True.intro, fun pos cv hc => ?_⟩, ?_, by show p.1 ∉ ([] : List Addr); simp, rfl⟩, fun b o e => (nomatch e), fun b ps e => (g0_F e).2.2 ps rfl⟩
  · have z : codeAmong pos [] = some cv := hc
    simp [codeAmong] at z
  · cases e : (G0 H a).F p.1 with
    | none => rfl
    | some o =>
      obtain ⟨_, e1, e2⟩ := g0_F e
      rw [hT p hp] at e1
      exact (e2 #[] (Option.some.inj e1).symm).elim
theorem rds_ints {K : PySem.W.Frag} {G : Gh} : ∀ ns : List Int, RDs K G (ns.map D.int) (ns.map V.int)
  | [] => .nil
  | n :: ns => .cons (.int n) (rds_ints ns)
theorem rd_script {K : PySem.W.Frag} {H : Hp} {a : Addr} {ns : List Int} (h : SqL K H a (ns.map V.int)) : RD K (G0 H a) (.fls (ns.map D.int)) (.ref a) := by
  refine .fls ?_ (rds_ints ns)
  have ga : ∀ o, H a = some o → (∀ ps, o ≠ .tbl ps) → (G0 H a).F a = some o := by
    intro o e n
    show (if a = a then (match H a with
      | some (.tbl _) => none
      | o => o) else none) = some o
    rw [if_pos rfl, e]
    cases o with
    | tbl ps => exact (n ps rfl).elim
    | _ => rfl
  rcases h with h | h
  · rcases h with h | ⟨o, h⟩
    · exact .inl (.inl (ga _ h fun ps z => by cases z))
    · exact .inl (.inr ⟨o, ga _ h fun ps z => by cases z⟩)
  · exact .inr h
theorem cx_none {P : Program} {w : World} {H : Hp} {s s' : Shared} {e : Value} (h : L2.CX P w [] H s (fun _ _ _ => False) e s') : False := by
  obtain ⟨_, _, _, _, _, _, _, _, _, _, _, _, z⟩ := h
  exact z
theorem law_atS {l : PySem.W.OpenLaw} {w : World} {K : PySem.W.Frag} {mg : Str → Option Value} {h : Heap} {params : Arguments} {body : List Stmt} {scope : Scope} {N : List Str} {k n : Nat} {m : Sv} {fd : FuncData} {T : Tb} {cs : List (Addr × Addr)} {x : Str}
    (F : FunD K "law" "law" params body scope [] [] (He.ga K "law") fd) (S : FnScope N [x] scope) (hbd : ∀ (kV doc pm : Value) (an : Option Addr) (cdv ct : Value) (us : List Value), us.length = [x].length → bindArgs (PySem.W.fnOf "law" "law" params body scope .none kV doc pm an cdv ct) ⟨us, []⟩ = pure ([x].zip us))
    (he : ∀ p ∈ cs, h.get? p.2 = some { cls := .none, data := .fields #[] }) (ho : ∀ p ∈ cs, K.lookup p.2 = none) (hd : ∀ p ∈ cs, PySem.W.CodeHd h p.1 p.2) (hT : ∀ p ∈ T, ∃ c, (c, p.1) ∈ cs)
    (hb : ∀ base : Heap, K.In base → base.Ns mainGlobals mg → (∀ p ∈ cs, LamX.TabB base mg p.1 p.2) → Body l.prog w K mg base T N "law" scope k body m)
    (plain : ∀ ns : List Int, ns.length ≤ n → (∀ z ∈ ns, Builtin.Int.intBits z ≤ 1048576) → ∃ h', fn N.length m [.fls (ns.map D.int)] [] = .ok (.bl true) h') : LamX.LawAtS l w K (L2.CX l.prog w) (k + 1) n x mg (He.ga K "law") h := by
  refine ⟨fd, cs, spD K T [x].length (fn N.length m), he, ho, hd, fun s u => ?_, fun H a ns hl hz hH hS => ?_, fun base X G TB => fn_okC F S (hb base X G TB)⟩
  · exact F.bindsA (ps := [x]) hbd s [u] rfl
  · obtain ⟨h', e⟩ := plain ns hl hz
    refine ⟨rfl, G0 H a, [], [.fls (ns.map D.int)], rh_start fun p hp => ?_, .cons (rd_script hS) .nil, ?_⟩
    · obtain ⟨c, hc⟩ := hT p hp
      exact hH _ hc
    · rw [e]
      intro G' H' v _ _ rd
      cases rd
      rfl
end Sh

set_option Elab.async false
set_option linter.all false
set_option maxRecDepth 100000
set_option maxHeartbeats 4000000
/-! Sh29: mirrors evaluated: small rewriting steps. -/
namespace Sh
open PySem PySem.Spec PyProof.Rows L2

section
variable {α β : Type} {a : α} {d : D} {h h' : LH} {ρ ρ' : En} {c : Str} {i j : Int} {x y : List Nat} {xs ys : List D} {b e : Bool}
theorem ev_b1 (f : α → LH → Res β) : Res.bind (.ok a h) f = f a h := rfl
theorem ev_b2 (f : α → LH → Res β) : Res.bind (.exc c h) f = .exc c h := rfl
theorem ev_b3 (f : α → LH → Res β) : Res.bind .err f = .err := rfl
theorem ev_l1 : liftO h (some d) = .ok d h := rfl
theorem ev_s1 (f : α → LH → SR) : Res.st (.ok a h) ρ f = f a h := rfl
theorem ev_s2 (f : α → LH → SR) : Res.st (.exc c h) ρ f = .ex c ρ h := rfl
theorem ev_t1 (f : Sv) : SR.then (.nx ρ h) f = f ρ h := rfl
theorem ev_t2 (f : Sv) : SR.then (.rt d h) f = .rt d h := rfl
theorem ev_t3 (f : Sv) : SR.then (.ex c ρ h) f = .ex c ρ h := rfl
theorem ev_ix (l : List (Option D)) (o : Option D) : (o :: l)[0]? = some o := rfl
theorem ev_addI : dAdd (.int i) (.int j) = some (.int (i + j)) := rfl
theorem ev_addS : dAdd (.str x) (.str y) = if fits (x.length + y.length) then some (.str (x ++ y)) else none := rfl
theorem ev_addL : dAdd (.lst xs) (.lst ys) = if fits (xs.length + ys.length) then some (.lst (xs ++ ys)) else none := rfl
theorem ev_iaddI : dIAdd (.int i) (.int j) = some (.int (i + j)) := rfl
theorem ev_sub : dSub (.int i) (.int j) = some (.int (i - j)) := rfl
theorem ev_mulI : dMul (.int i) (.int j) = if mulOk i j then some (.int (i * j)) else none := rfl
theorem ev_mulS : dMul (.str x) (.int i) = if decide (-(2 ^ 63) ≤ i) && decide (i < 2 ^ 63) && fits (x.length * i.toNat) then some (.str (List.replicate i.toNat x).flatten) else none := rfl
theorem ev_neg : dNeg (.int i) = some (.int (-i)) := rfl
theorem ev_eqI : dEq (.int i) (.int j) = some (.bl (i == j)) := rfl
theorem ev_neI : dNe (.int i) (.int j) = some (.bl (!(i == j))) := rfl
theorem ev_eqS : dEq (.str x) (.str y) = some (.bl (x == y)) := rfl
theorem ev_neS : dNe (.str x) (.str y) = some (.bl (!(x == y))) := rfl
theorem ev_eqB : dEq (.bl b) (.bl e) = some (.bl (b == e)) := rfl
theorem ev_neB : dNe (.bl b) (.bl e) = some (.bl (!(b == e))) := rfl
theorem ev_ltI : dLt (.int i) (.int j) = some (.bl (decide (i < j))) := rfl
theorem ev_leI : dLe (.int i) (.int j) = some (.bl (decide (i ≤ j))) := rfl
theorem ev_gtI : dGt (.int i) (.int j) = some (.bl (decide (j < i))) := rfl
theorem ev_geI : dGe (.int i) (.int j) = some (.bl (decide (j ≤ i))) := rfl
theorem ev_ltS : dLt (.str x) (.str y) = some (.bl (decide (x < y))) := rfl
theorem ev_len : bLen [.str x] h = if fits x.length then some (.int x.length, h) else none := rfl
theorem ev_lenL : bLen [.lst xs] h = some (.int xs.length, h) := rfl
theorem ev_lenT : bLen [.tup xs] h = some (.int xs.length, h) := rfl
theorem ev_lenF : bLen [.fls xs] h = some (.int xs.length, h) := rfl
theorem ev_max : bMax [.int i, .int j] h = some (.int (if j > i then j else i), h) := rfl
theorem ev_min : bMin [.int i, .int j] h = some (.int (if j < i then j else i), h) := rfl
theorem ev_int : bInt [.int i] h = some (.int i, h) := rfl
theorem ev_intB : bInt [.bl b] h = some (.int (if b then 1 else 0), h) := rfl
theorem ev_iteT {s t : α} : (if true = true then s else t) = s := rfl
theorem ev_iteF {s t : α} : (if false = true then s else t) = t := rfl
theorem ev_cAll {n : Nat} {f : Fv} {ds : List D} (hl : ds.length = n) : cAll n f ds h = f ds h := by unfold cAll; rw [if_pos hl]
theorem ev_ixL : dIx h (.lst xs) (.int i) = atI xs i := rfl
theorem ev_ixT : dIx h (.tup xs) (.int i) = atI xs i := rfl
theorem ev_ixO {n : Nat} (e : h[n]? = some (.lst xs)) : dIx h (.obj n) (.int i) = atI xs i := by simp only [dIx, e]
theorem ev_at {α : Type} {l : List α} {j : Nat} (hj : j < l.length) : atI l (j : Int) = some l[j] := by
  unfold atI ixN
  rw [if_pos (by omega), if_pos (by omega)]
  simp [hj]
theorem fits_le {n : Nat} (h : n ≤ 16777216) : fits n = true := decide_eq_true h
theorem ev_ixS {j : Nat} (hj : j < x.length) (hl : x.length ≤ 16777216) : dIx h (.str x) (.int (j : Int)) = some (.str [x.getD j 0]) := by
  show (if fits x.length then (atI x j).map fun c => D.str [c] else none) = _
  rw [if_pos (fits_le hl), ev_at hj, List.getD_eq_getElem?_getD, List.getElem?_eq_getElem hj]; rfl
theorem lg_lt {n k : Nat} (h : n < 2 ^ k) (hk : 0 < k) : n.log2 < k := by
  by_cases z : n = 0
  · rw [z]; exact hk
  · exact (Nat.log2_lt z).mpr h
theorem lg_ok {n : Nat} (h : n < 2 ^ 200) : n.log2 < 9000 := Nat.lt_trans (lg_lt h (by decide)) (by decide)
theorem mul_ok (h : i.natAbs < 2 ^ 64 ∨ j.natAbs < 2 ^ 64) : mulOk i j = true := by
  unfold mulOk
  rcases h with h | h
  · rw [decide_eq_true h]; rfl
  · rw [decide_eq_true h]; simp
theorem ev_mod (hj : 0 < j) : dMod (.int i) (.int j) = some (.int (i % j)) := by show (if 0 < j then _ else _) = _; rw [if_pos hj]
theorem ev_div (hj : 0 < j) (hl : j.natAbs < 2 ^ 200) : dDiv (.int i) (.int j) = some (.int (i / j)) := by
  show (if decide (0 < j) && decide (j.natAbs.log2 < 9000) then _ else _) = _
  rw [decide_eq_true hj, decide_eq_true (lg_ok hl)]; rfl
theorem ev_modN {n b : Nat} (hb : 0 < b) : dMod (.int n) (.int b) = some (.int ((n % b : Nat) : Int)) := by rw [ev_mod (by omega)]; rfl
theorem ev_divN {n b : Nat} (hb : 0 < b) (hl : b < 2 ^ 200) : dDiv (.int n) (.int b) = some (.int ((n / b : Nat) : Int)) := by rw [ev_div (by omega) (by simpa using hl)]; rfl
theorem ev_mulN {n b : Nat} (hb : b < 2 ^ 64) : dMul (.int n) (.int b) = some (.int ((n * b : Nat) : Int)) := by
  rw [ev_mulI, mul_ok (.inr (by simpa using hb)), ev_iteT]
  push_cast; rfl
theorem ev_repl {k : Nat} {ch : Nat} (hk : k ≤ 16777216) : dMul (.str [ch]) (.int (k : Int)) = some (.str (List.replicate k ch)) := by
  rw [ev_mulS]
  have e1 : decide (-(2 ^ 63) ≤ (k : Int)) = true := decide_eq_true (by omega)
  have e2 : decide ((k : Int) < 2 ^ 63) = true := decide_eq_true (by omega)
  rw [e1, e2, fits_le (by simpa using hk)]
  simp
theorem ev_repl0 {k : Int} {ch : Nat} (hk : k ≤ 0) (h2 : -(2 ^ 63) ≤ k) : dMul (.str [ch]) (.int k) = some (.str []) := by
  rw [ev_mulS]
  have e0 : k.toNat = 0 := by omega
  have e1 : decide (-(2 ^ 63) ≤ k) = true := decide_eq_true h2
  have e2 : decide (k < 2 ^ 63) = true := decide_eq_true (by omega)
  rw [e1, e2, e0, fits_le (by simp)]
  rfl
end
end Sh

set_option Elab.async false
set_option linter.all false
set_option maxRecDepth 100000
set_option maxHeartbeats 4000000
/-! Sh30: mirrors evaluated statement by statement. -/
namespace Sh
open PySem PySem.Spec PyProof.Rows L2

section
variable {d : D} {h h1 h2 : LH} {ρ ρ1 ρ2 : En} {m n : Sv} {r : SR} {me : Ev} {mi : Iv} {g : Gv} {t : Bv} {ds : List D} {i j l : Nat} {ma : Av} {x y z : D} {c : Str} {F : Nat}
theorem seq_nx (e1 : m ρ h = .nx ρ1 h1) (e2 : n ρ1 h1 = r) : sSeq m n ρ h = r := by unfold sSeq; rw [e1]; exact e2
theorem seq_rt (e1 : m ρ h = .rt d h1) : sSeq m n ρ h = .rt d h1 := by unfold sSeq; rw [e1]; rfl
theorem seq_ex (e1 : m ρ h = .ex c ρ1 h1) : sSeq m n ρ h = .ex c ρ1 h1 := by unfold sSeq; rw [e1]; rfl
theorem fn_rt {k w : Nat} (hl : ds.length = k) (e : m (ds.map some ++ List.replicate (w - ds.length) none) h = .rt d h1) : cAll k (fn w m) ds h = .ok d h1 := by
  unfold cAll fn
  rw [if_pos hl, e]
theorem fn_ex {k w : Nat} (hl : ds.length = k) (e : m (ds.map some ++ List.replicate (w - ds.length) none) h = .ex c ρ h1) : cAll k (fn w m) ds h = .exc c h1 := by
  unfold cAll fn
  rw [if_pos hl, e]
theorem for_of (hi : mi ρ h = .ok ⟨ds, none⟩ h1) (hf : sFor g m ds ρ h1 = r) : sForI mi g m ρ h = r := by unfold sForI; rw [hi]; exact hf
theorem if_no (ht : t ρ h = .ok false h1) (hb : n ρ h1 = r) : sIf t m n ρ h = r := by unfold sIf; rw [ht]; exact hb
theorem if_yes (ht : t ρ h = .ok true h1) (hb : m ρ h1 = r) : sIf t m n ρ h = r := by unfold sIf; rw [ht]; exact hb
theorem asg_nm (he : me ρ h = .ok d h1) : sAsg me (gNm i) ρ h = .nx (ρ.set i (some d)) h1 := by unfold sAsg; rw [he]; rfl
theorem asg_g (he : me ρ h = .ok d h1) (hg : g d ρ h1 = some (ρ2, h2)) : sAsg me g ρ h = .nx ρ2 h2 := by unfold sAsg; rw [he]; simp only [Res.st, hg]
theorem ret_ok (he : me ρ h = .ok d h1) : sRet me ρ h = .rt d h1 := by unfold sRet; rw [he]; rfl
theorem par_ok (he : ma ρ h = .ok [x, y] h1) : sPar i j ma ρ h = .nx ((ρ.set i (some x)).set j (some y)) h1 := by unfold sPar; rw [he]; rfl
theorem par3_ok (he : ma ρ h = .ok [x, y, z] h1) : sPar3 i j l ma ρ h = .nx (((ρ.set i (some x)).set j (some y)).set l (some z)) h1 := by unfold sPar3; rw [he]; rfl
/-! a for's turn -/
theorem for_nil : sFor g m [] ρ h = .nx ρ h := rfl
theorem for_cons (hg : g d ρ h = some (ρ1, h1)) (hm : m ρ1 h1 = .nx ρ2 h2) (ht : sFor g m ds ρ2 h2 = r) : sFor g m (d :: ds) ρ h = r := by
  show (match g d ρ h with
    | some (ρ1, h1) => (match m ρ1 h1 with
      | .nx ρ' h' => sFor g m ds ρ' h'
      | .ct ρ' h' => sFor g m ds ρ' h'
      | .bk ρ' h' => .nx ρ' h'
      | .rt d h' => .rt d h'
      | .ex c ρ' h' => .ex c ρ' h'
      | .er => .er)
    | none => .er) = r
  rw [hg]
  simp only
  rw [hm]
  exact ht
theorem wh_no (ht : t ρ h = .ok false h1) : sWh t m (F + 1) ρ h = .nx ρ h1 := by unfold sWh; rw [ht]; rfl
theorem wh_yes (ht : t ρ h = .ok true h1) (hm : m ρ h1 = .nx ρ2 h2) (hr : sWh t m F ρ2 h2 = r) : sWh t m (F + 1) ρ h = r := by
  unfold sWh
  rw [ht]
  simp only [Res.st, if_true]
  rw [hm]
  exact hr
/-! expressions -/
theorem call_ok {f : List D → LH → Res D} (ha : ma ρ h = .ok ds h1) (hf : f ds h1 = .ok d h2) : eCall f ma ρ h = .ok d h2 := by unfold eCall; rw [ha]; exact hf
theorem cons_ok {b : Av} (h1' : me ρ h = .ok x h1) (h2' : b ρ h1 = .ok ds h2) : aCons me b ρ h = .ok (x :: ds) h2 := by unfold aCons; rw [h1', ev_b1, h2']; rfl
theorem nil_ok : aNil ρ h = .ok [] h := rfl
theorem bin_ok {f : D → D → Option D} {a b : Ev} (ha : a ρ h = .ok x h1) (hb : b ρ h1 = .ok y h2) (hf : f x y = some z) : eBin f a b ρ h = .ok z h2 := by unfold eBin; rw [ha, ev_b1, hb, ev_b1, hf]; rfl
theorem ix_ok {a b : Ev} (ha : a ρ h = .ok x h1) (hb : b ρ h1 = .ok y h2) (hf : dIx h2 x y = some z) : eIx a b ρ h = .ok z h2 := by unfold eIx; rw [ha, ev_b1, hb, ev_b1, hf]; rfl
theorem test_ok {k : Bool} (ha : me ρ h = .ok (.bl k) h1) : bTest me ρ h = .ok k h1 := by unfold bTest; rw [ha]; rfl
theorem or_no {t2 : Bv} {k : Bool} (ha : t ρ h = .ok false h1) (hb : t2 ρ h1 = .ok k h2) : bOr t t2 ρ h = .ok k h2 := by unfold bOr; rw [ha]; exact hb
theorem or_yes {t2 : Bv} (ha : t ρ h = .ok true h1) : bOr t t2 ρ h = .ok true h1 := by unfold bOr; rw [ha]; rfl
theorem and_yes {t2 : Bv} {k : Bool} (ha : t ρ h = .ok true h1) (hb : t2 ρ h1 = .ok k h2) : bAnd t t2 ρ h = .ok k h2 := by unfold bAnd; rw [ha]; exact hb
theorem and_no {t2 : Bv} (ha : t ρ h = .ok false h1) : bAnd t t2 ρ h = .ok false h1 := by unfold bAnd; rw [ha]; rfl
theorem not_ok {k : Bool} (ha : t ρ h = .ok k h1) : bNot t ρ h = .ok (!k) h1 := by unfold bNot; rw [ha]; rfl
theorem var_ok (e : ρ[i]? = some (some d)) : eVar i ρ h = .ok d h := by unfold eVar; rw [e]
theorem eif_yes {a b : Ev} (ht : t ρ h = .ok true h1) (ha : a ρ h1 = .ok d h2) : eIf t a b ρ h = .ok d h2 := by unfold eIf; rw [ht]; exact ha
theorem eif_no {a b : Ev} (ht : t ρ h = .ok false h1) (ha : b ρ h1 = .ok d h2) : eIf t a b ρ h = .ok d h2 := by unfold eIf; rw [ht]; exact ha
theorem aug_ok {f : D → D → Option D} (e : ρ[i]? = some (some x)) (he : me ρ h = .ok y h1) (hf : f x y = some z) : sAug f i me ρ h = .nx (ρ.set i (some z)) h1 := by unfold sAug; rw [e]; simp only [he, Res.st, hf]
theorem lst_ok (ha : ma ρ h = .ok ds h1) (hf : fits ds.length = true) : eLst ma ρ h = .ok (.lst ds) h1 := by unfold eLst; rw [ha, ev_b1, if_pos hf]
theorem tup_ok (ha : ma ρ h = .ok ds h1) (hf : fits ds.length = true) : eTup ma ρ h = .ok (.tup ds) h1 := by unfold eTup; rw [ha, ev_b1, if_pos hf]
theorem res_ok {f : List D → LH → Option (D × LH)} (e : f ds h = some (d, h1)) : bRes f ds h = .ok d h1 := by unfold bRes; rw [e]
theorem chain_ok {f g : D → D → Option D} {a b c : Ev} {h3 : LH} {w : D} (ha : a ρ h = .ok x h1) (hb : b ρ h1 = .ok y h2) (hf : f x y = some (.bl true)) (hc : c ρ h2 = .ok z h3) (hg : g y z = some w) : eChain f g a b c ρ h = .ok w h3 := by
  unfold eChain; rw [ha, ev_b1, hb, ev_b1, hf]; simp only; rw [hc, ev_b1, hg]; rfl
theorem seq_of (ha : me ρ h = .ok (.lst ds) h1) : iSeq me ρ h = .ok ⟨ds, none⟩ h1 := by unfold iSeq; rw [ha]; rfl
theorem seq_ofT (ha : me ρ h = .ok (.tup ds) h1) : iSeq me ρ h = .ok ⟨ds, none⟩ h1 := by unfold iSeq; rw [ha]; rfl
theorem lc_nil {vs : List Nat} {mt : Bv} {acc : List D} : lcGo vs g mt me ρ [] acc h = .ok (.lst acc) h := rfl
theorem lc_cons {vs : List Nat} {mt : Bv} {acc : List D} {h3 h4 : LH} {q : Res D} (hg : g d (wipeD ρ vs) h = some (ρ2, h2)) (ht : mt ρ2 h2 = .ok true h3) (he : me ρ2 h3 = .ok y h4) (hf : fits (acc.length + 1) = true) (hr : lcGo vs g mt me ρ ds (acc ++ [y]) h4 = q) : lcGo vs g mt me ρ (d :: ds) acc h = q := by
  unfold lcGo
  rw [hg]
  simp only
  rw [ht]
  simp only
  rw [he]
  simp only
  rw [if_pos hf]
  exact hr
theorem lc_skip {vs : List Nat} {mt : Bv} {acc : List D} {h3 : LH} {q : Res D} (hg : g d (wipeD ρ vs) h = some (ρ2, h2)) (ht : mt ρ2 h2 = .ok false h3) (hr : lcGo vs g mt me ρ ds acc h3 = q) : lcGo vs g mt me ρ (d :: ds) acc h = q := by
  unfold lcGo
  rw [hg]
  simp only
  rw [ht]
  exact hr
theorem elc_of {vs : List Nat} {mt : Bv} {q : Res D} (hi : mi ρ h = .ok ⟨ds, none⟩ h1) (hr : lcGo vs g mt me ρ ds [] h1 = q) : eLc mi vs g mt me ρ h = q := by unfold eLc; rw [hi]; exact hr
end
end Sh

set_option Elab.async false
set_option linter.all false
set_option maxRecDepth 100000
set_option maxHeartbeats 4000000
/-! Sh31: typed data and ==; loops by what a turn does. -/
namespace Sh
open PySem PySem.Spec PyProof.Rows L2

/-- typed data: what stands for it, and that == tells it -/
class Py (α : Type) [BEq α] where
  e : α → D
  p : α → PyData
  ok : α → Bool
  dep : Nat
  h1 : ∀ a, toPy (e a) = some (p a)
  h2 : ∀ a, ok a = true → (p a).canLay0 = true
  h3 : ∀ a, (p a).depth ≤ dep
  h4 : ∀ a b, PyData.eqv (p a) (p b) = (a == b)
theorem eqB_e {α : Type} [BEq α] [Py α] {a b : α} (oa : Py.ok a = true) (ob : Py.ok b = true) (hd : Py.dep α ≤ 64) : eqB (Py.e a) (Py.e b) = some (a == b) := by
  have ha := Py.h1 a
  have hb := Py.h1 b
  have h4 := Py.h4 a b
  have s1 : SeqAt.shaped (Py.p a) = true := by
    unfold SeqAt.shaped
    rw [Py.h2 a oa, decide_eq_true (Nat.le_trans (Py.h3 a) hd)]; rfl
  have s2 : SeqAt.shaped (Py.p b) = true := by
    unfold SeqAt.shaped
    rw [Py.h2 b ob, decide_eq_true (Nat.le_trans (Py.h3 b) hd)]; rfl
  unfold eqB
  split
  · rename_i i j e1 e2
    rw [e1] at ha; rw [e2] at hb
    have ha := Option.some.inj ha
    have hb := Option.some.inj hb
    rw [← ha, ← hb] at h4
    rw [← h4]; rfl
  · rename_i i j e1 e2
    rw [e1] at ha; rw [e2] at hb
    have ha := Option.some.inj ha
    have hb := Option.some.inj hb
    rw [← ha, ← hb] at h4
    rw [← h4]
    exact congrArg some (S_beq _ _).symm
  · rename_i i j e1 e2
    rw [e1] at ha; rw [e2] at hb
    have ha := Option.some.inj ha
    have hb := Option.some.inj hb
    rw [← ha, ← hb] at h4
    rw [← h4]; rfl
  · rw [ha, hb]
    simp only
    rw [s1, s2, h4]; rfl
theorem dEq_e {α : Type} [BEq α] [Py α] {a b : α} (oa : Py.ok a = true) (ob : Py.ok b = true) (hd : Py.dep α ≤ 64) : dEq (Py.e a) (Py.e b) = some (.bl (a == b)) := by unfold dEq; rw [eqB_e oa ob hd]; rfl
theorem dNe_e {α : Type} [BEq α] [Py α] {a b : α} (oa : Py.ok a = true) (ob : Py.ok b = true) (hd : Py.dep α ≤ 64) : dNe (Py.e a) (Py.e b) = some (.bl (!(a == b))) := by unfold dNe; rw [eqB_e oa ob hd]; rfl
theorem dEq_same {α : Type} [BEq α] [LawfulBEq α] [Py α] {a : α} (oa : Py.ok a = true) (hd : Py.dep α ≤ 64) : dEq (Py.e a) (Py.e a) = some (.bl true) := by rw [dEq_e oa oa hd, beq_self_eq_true]
theorem dNe_same {α : Type} [BEq α] [LawfulBEq α] [Py α] {a : α} (oa : Py.ok a = true) (hd : Py.dep α ≤ 64) : dNe (Py.e a) (Py.e a) = some (.bl false) := by rw [dNe_e oa oa hd, beq_self_eq_true]; rfl
/-- a text -/
structure Tx where
  l : List Nat
  deriving DecidableEq
instance : BEq Tx := ⟨fun a b => a.l == b.l⟩
instance : LawfulBEq Tx where
  rfl {a} := beq_self_eq_true a.l
  eq_of_beq {a b} h := by
    cases a; cases b
    have h : (_ == _) = true := h
    exact congrArg Tx.mk (eq_of_beq h)
theorem Tx.beq (a b : List Nat) : ((⟨a⟩ : Tx) == ⟨b⟩) = (a == b) := rfl
/-- a tuple of the same -/
structure Tu (α : Type) where
  l : List α
  deriving DecidableEq
instance {α : Type} [BEq α] : BEq (Tu α) := ⟨fun a b => a.l == b.l⟩
theorem Tu.beq {α : Type} [BEq α] (a b : List α) : ((⟨a⟩ : Tu α) == ⟨b⟩) = (a == b) := rfl
instance {α : Type} [BEq α] [LawfulBEq α] : LawfulBEq (Tu α) where
  rfl {a} := beq_self_eq_true a.l
  eq_of_beq {a b} h := by cases a; cases b; rw [Tu.beq] at h; rw [eq_of_beq h]
instance : Py Int where
  e i := .int i
  p i := .int i
  ok _ := true
  dep := 0
  h1 _ := rfl
  h2 _ _ := rfl
  h3 _ := Nat.le_refl _
  h4 _ _ := rfl
theorem nat_beq (a b : Nat) : (((a : Nat) : Int) == (b : Int)) = (a == b) := by
  by_cases h : a = b
  · subst h; rw [beq_self_eq_true, beq_self_eq_true]
  · rw [beq_eq_false_iff_ne.mpr h, beq_eq_false_iff_ne.mpr (by omega)]
instance : Py Nat where
  e i := .int i
  p i := .int i
  ok _ := true
  dep := 0
  h1 _ := rfl
  h2 _ _ := rfl
  h3 _ := Nat.le_refl _
  h4 a b := nat_beq a b
instance : Py Bool where
  e i := .bl i
  p i := .bool i
  ok _ := true
  dep := 0
  h1 _ := rfl
  h2 _ _ := rfl
  h3 _ := Nat.le_refl _
  h4 _ _ := rfl
def txOk (l : List Nat) : Bool := l.all (· < 0x110000)
instance : Py Tx where
  e a := .str a.l
  p a := .str (S a.l)
  ok a := txOk a.l
  dep := 0
  h1 _ := rfl
  h2 a h := by
    show PyData.strOk (S a.l) = true
    unfold PyData.strOk
    rw [← Array.all_toList, S_toList]; exact h
  h3 _ := Nat.le_refl _
  h4 a b := by
    cases a; cases b
    rw [Tx.beq]; exact S_beq _ _
section
variable {α β : Type} [BEq α] [BEq β] [Py α] [Py β]
theorem toPys_map : ∀ l : List α, toPys (l.map Py.e) = some (l.map Py.p)
  | [] => rfl
  | a :: r => by
    rw [List.map_cons]
    unfold toPys
    rw [Py.h1 a, toPys_map r]; rfl
theorem layAll_map : ∀ l : List α, l.all Py.ok = true → PyData.canLayAll0 (l.map Py.p) = true
  | [], _ => rfl
  | a :: r, h => by
    rw [List.all_cons, Bool.and_eq_true] at h
    show ((Py.p a).canLay0 && PyData.canLayAll0 (r.map Py.p)) = true
    rw [Py.h2 a h.1, layAll_map r h.2]; rfl
theorem depAll_map : ∀ l : List α, PyData.depthAll (l.map Py.p) ≤ Py.dep α
  | [] => Nat.zero_le _
  | a :: r => Nat.max_le.mpr ⟨Py.h3 a, depAll_map r⟩
theorem eqvAll_map : ∀ a b : List α, PyData.eqvAll (a.map Py.p) (b.map Py.p) = (a == b)
  | [], [] => rfl
  | a :: r, b :: s => by
    show (PyData.eqv (Py.p a) (Py.p b) && PyData.eqvAll (r.map Py.p) (s.map Py.p)) = _
    rw [Py.h4, eqvAll_map r s]; rfl
  | [], _ :: _ => rfl
  | _ :: _, [] => rfl
instance : Py (List α) where
  e a := .lst (a.map Py.e)
  p a := .list (a.map Py.p)
  ok a := a.all Py.ok
  dep := Py.dep α + 1
  h1 a := by show (toPys (a.map Py.e)).map PyData.list = _; rw [toPys_map]; rfl
  h2 a h := by show PyData.canLayAll0 _ = true; exact layAll_map a h
  h3 a := by show PyData.depthAll _ + 1 ≤ _; exact Nat.succ_le_succ (depAll_map a)
  h4 a b := by show PyData.eqvAll _ _ = _; exact eqvAll_map a b
instance : Py (Tu α) where
  e a := .tup (a.l.map Py.e)
  p a := .tuple (a.l.map Py.p)
  ok a := a.l.all Py.ok
  dep := Py.dep α + 1
  h1 a := by show (toPys (a.l.map Py.e)).map PyData.tuple = _; rw [toPys_map]; rfl
  h2 a h := by show PyData.canLayAll0 _ = true; exact layAll_map a.l h
  h3 a := by show PyData.depthAll _ + 1 ≤ _; exact Nat.succ_le_succ (depAll_map a.l)
  h4 a b := by show PyData.eqvAll _ _ = _; exact eqvAll_map a.l b.l
instance : Py (α × β) where
  e a := .tup [Py.e a.1, Py.e a.2]
  p a := .tuple [Py.p a.1, Py.p a.2]
  ok a := Py.ok a.1 && Py.ok a.2
  dep := max (Py.dep α) (Py.dep β) + 1
  h1 a := by
    show (toPys [Py.e a.1, Py.e a.2]).map PyData.tuple = _
    unfold toPys toPys toPys
    rw [Py.h1, Py.h1]; rfl
  h2 a h := by
    rw [Bool.and_eq_true] at h
    show ((Py.p a.1).canLay0 && ((Py.p a.2).canLay0 && true)) = true
    rw [Py.h2 _ h.1, Py.h2 _ h.2]; rfl
  h3 a := by
    show max ((Py.p a.1).depth) (max ((Py.p a.2).depth) 0) + 1 ≤ _
    have h1 := Py.h3 a.1
    have h2 := Py.h3 a.2
    omega
  h4 a b := by
    show (PyData.eqv (Py.p a.1) (Py.p b.1) && (PyData.eqv (Py.p a.2) (Py.p b.2) && true)) = _
    rw [Py.h4, Py.h4, Bool.and_true]; rfl
end
theorem neS_same {x : List Nat} : dNe (.str x) (.str x) = some (.bl false) := by rw [ev_neS, beq_self_eq_true]; rfl
theorem neI_same {x : Int} : dNe (.int x) (.int x) = some (.bl false) := by rw [ev_neI, beq_self_eq_true]; rfl
theorem neB_same {x : Bool} : dNe (.bl x) (.bl x) = some (.bl false) := by rw [ev_neB, beq_self_eq_true]; rfl
/-! ### loops -/
section
variable {α β γ : Type} {g : Gv} {m : Sv} {t : Bv} {me : Ev} {mt : Bv} {mi : Iv} {vs : List Nat} {ρ : En} {h : LH}
/-- a for: what a turn does to what is told by env and H -/
theorem for_ix (toD : α → D) (env : β → γ → En) (H : β → LH) (step : β → α → β) (P : Nat → β → Prop) : ∀ (l : List α) (k : Nat) (b : β) (o : γ),
    (∀ i a b o, l[i]? = some a → P (k + i) b → P (k + i + 1) (step b a) ∧ ∃ ρ1 h1 o', g (toD a) (env b o) (H b) = some (ρ1, h1) ∧ m ρ1 h1 = .nx (env (step b a) o') (H (step b a))) →
    P k b → ∃ o', sFor g m (l.map toD) (env b o) (H b) = .nx (env (l.foldl step b) o') (H (l.foldl step b)) ∧ P (k + l.length) (l.foldl step b)
  | [], k, b, o, _, hp => ⟨o, rfl, hp⟩
  | a :: l, k, b, o, hs, hp => by
    obtain ⟨p1, ρ1, h1, o1, e1, e2⟩ := hs 0 a b o rfl hp
    obtain ⟨o', e3, p3⟩ := for_ix toD env H step P l (k + 1) (step b a) o1 (fun i a' b' o' hi hp' => by
      have q := hs (i + 1) a' b' o' (by simpa using hi) (by rw [show k + (i + 1) = k + 1 + i from by omega]; exact hp')
      rw [show k + (i + 1) + 1 = k + 1 + i + 1 from by omega] at q
      exact q) p1
    refine ⟨o', for_cons e1 e2 e3, ?_⟩
    rw [List.length_cons, show k + (l.length + 1) = k + 1 + l.length from by omega]
    exact p3
/-- a while: f tells its end -/
theorem wh_fn (env : β → En) (H : β → LH) (c : β → Bool) (step f : β → β) (P : β → Prop) (μ : β → Nat)
    (ht : ∀ b, P b → t (env b) (H b) = .ok (c b) (H b)) (hm : ∀ b, P b → c b = true → P (step b) ∧ μ (step b) < μ b ∧ f (step b) = f b ∧ m (env b) (H b) = .nx (env (step b)) (H (step b)))
    (h0 : ∀ b, P b → c b = false → f b = b) : ∀ (F : Nat) (b : β), P b → μ b < F → sWh t m F (env b) (H b) = .nx (env (f b)) (H (f b)) ∧ P (f b)
  | 0, _, _, hf => absurd hf (Nat.not_lt_zero _)
  | F + 1, b, hp, hf => by
    by_cases hc : c b = true
    · obtain ⟨p1, l1, f1, e1⟩ := hm b hp hc
      obtain ⟨e2, p2⟩ := wh_fn env H c step f P μ ht hm h0 F (step b) p1 (by omega)
      rw [f1] at e2 p2
      exact ⟨wh_yes (by rw [ht b hp, hc]) e1 e2, p2⟩
    · have hc : c b = false := by simpa using hc
      rw [h0 b hp hc]
      exact ⟨wh_no (by rw [ht b hp, hc]), hp⟩
theorem lc_map (toD : α → D) (f : α → D) : ∀ (l : List α) (acc : List D), (∀ a ∈ l, ∃ ρ2, g (toD a) (wipeD ρ vs) h = some (ρ2, h) ∧ me ρ2 h = .ok (f a) h) → acc.length + l.length ≤ 16777216 →
    lcGo vs g bYes me ρ (l.map toD) acc h = .ok (.lst (acc ++ l.map f)) h
  | [], acc, _, _ => by rw [List.map_nil, List.map_nil, List.append_nil]; rfl
  | a :: l, acc, hs, hl => by
    obtain ⟨ρ2, e1, e2⟩ := hs a (List.mem_cons_self ..)
    rw [List.length_cons] at hl
    have ih := lc_map toD f l (acc ++ [f a]) (fun b hb => hs b (List.mem_cons_of_mem _ hb)) (by rw [List.length_append, List.length_singleton]; omega)
    rw [List.map_cons, List.map_cons]
    refine lc_cons e1 rfl e2 (fits_le (by omega)) ?_
    rw [ih, List.append_assoc]; rfl
theorem lc_filter (toD : α → D) (c : α → Bool) (f : α → D) : ∀ (l : List α) (acc : List D), (∀ a ∈ l, ∃ ρ2, g (toD a) (wipeD ρ vs) h = some (ρ2, h) ∧ mt ρ2 h = .ok (c a) h ∧ (c a = true → me ρ2 h = .ok (f a) h)) → acc.length + l.length ≤ 16777216 →
    lcGo vs g mt me ρ (l.map toD) acc h = .ok (.lst (acc ++ (l.filter c).map f)) h
  | [], acc, _, _ => by rw [List.map_nil, List.filter_nil, List.map_nil, List.append_nil]; rfl
  | a :: l, acc, hs, hl => by
    obtain ⟨ρ2, e1, e2, e3⟩ := hs a (List.mem_cons_self ..)
    rw [List.length_cons] at hl
    rw [List.map_cons]
    by_cases hc : c a = true
    · have ih := lc_filter toD c f l (acc ++ [f a]) (fun b hb => hs b (List.mem_cons_of_mem _ hb)) (by rw [List.length_append, List.length_singleton]; omega)
      rw [List.filter_cons_of_pos hc, List.map_cons]
      refine lc_cons e1 (by rw [e2, hc]) (e3 hc) (fits_le (by omega)) ?_
      rw [ih, List.append_assoc]; rfl
    · have ih := lc_filter toD c f l acc (fun b hb => hs b (List.mem_cons_of_mem _ hb)) (by omega)
      rw [List.filter_cons_of_neg hc]
      exact lc_skip e1 (by rw [e2]; simpa using hc) ih
/-- a generator expression's results -/
theorem gx_cons {d y : D} {ds : List D} {ρ2 : En} {h2 h3 h4 : LH} (hg : g d (wipeD ρ vs) h = some (ρ2, h2)) (ht : mt ρ2 h2 = .ok true h3) (he : me ρ2 h3 = .ok y h4) : gxTr vs g mt me ρ (d :: ds) h = .yld y h4 (gxTr vs g mt me ρ ds h4) := by
  show (match g d (wipeD ρ vs) h with
    | some (ρ2, h2) => (match mt ρ2 h2 with
      | .ok true h3 => (match me ρ2 h3 with
        | .ok y h4 => Tr.yld y h4 (gxTr vs g mt me ρ ds h4)
        | _ => .err)
      | .ok false h3 => gxTr vs g mt me ρ ds h3
      | _ => .err)
    | none => .err) = _
  rw [hg]; simp only; rw [ht]; simp only; rw [he]
theorem gx_skip {d : D} {ds : List D} {ρ2 : En} {h2 h3 : LH} (hg : g d (wipeD ρ vs) h = some (ρ2, h2)) (ht : mt ρ2 h2 = .ok false h3) : gxTr vs g mt me ρ (d :: ds) h = gxTr vs g mt me ρ ds h3 := by
  show (match g d (wipeD ρ vs) h with
    | some (ρ2, h2) => (match mt ρ2 h2 with
      | .ok true h3 => (match me ρ2 h3 with
        | .ok y h4 => Tr.yld y h4 (gxTr vs g mt me ρ ds h4)
        | _ => .err)
      | .ok false h3 => gxTr vs g mt me ρ ds h3
      | _ => .err)
    | none => .err) = _
  rw [hg]; simp only; rw [ht]
theorem gx_any (toD : α → D) (c : α → Bool) : ∀ (l : List α), (∀ a ∈ l, ∃ ρ2, g (toD a) (wipeD ρ vs) h = some (ρ2, h) ∧ me ρ2 h = .ok (.bl (c a)) h) →
    tAnyR (gxTr vs g bYes me ρ (l.map toD) h) = .ok (.bl (l.any c)) h
  | [], _ => rfl
  | a :: l, hs => by
    obtain ⟨ρ2, e1, e2⟩ := hs a (List.mem_cons_self ..)
    have ih := gx_any toD c l fun b hb => hs b (List.mem_cons_of_mem _ hb)
    rw [List.map_cons, gx_cons e1 rfl e2, List.any_cons]
    by_cases hc : c a = true
    · rw [hc]; rfl
    · have hc : c a = false := by simpa using hc
      rw [hc, Bool.false_or]; exact ih
theorem gx_all (toD : α → D) (c : α → Bool) : ∀ (l : List α), (∀ a ∈ l, ∃ ρ2, g (toD a) (wipeD ρ vs) h = some (ρ2, h) ∧ me ρ2 h = .ok (.bl (c a)) h) →
    tAllR (gxTr vs g bYes me ρ (l.map toD) h) = .ok (.bl (l.all c)) h
  | [], _ => rfl
  | a :: l, hs => by
    obtain ⟨ρ2, e1, e2⟩ := hs a (List.mem_cons_self ..)
    have ih := gx_all toD c l fun b hb => hs b (List.mem_cons_of_mem _ hb)
    rw [List.map_cons, gx_cons e1 rfl e2, List.all_cons]
    by_cases hc : c a = true
    · rw [hc, Bool.true_and]; exact ih
    · have hc : c a = false := by simpa using hc
      rw [hc]; rfl
theorem gx_of {f : Tr → Res D} {q : Res D} {ds : List D} {h1 : LH} (hi : mi ρ h = .ok ⟨ds, none⟩ h1) (hr : f (gxTr vs g mt me ρ ds h1) = q) : eGx f mi vs g mt me ρ h = q := by unfold eGx; rw [hi]; exact hr
end
/-! ### ends that are wanted -/
/-- goes on, with a heap as P tells -/
def Goes (P : LH → Prop) (r : SR) : Prop := ∃ ρ h, r = .nx ρ h ∧ P h
section
variable {P : LH → Prop} {m n : Sv} {ρ ρ1 : En} {h h1 : LH} {t : Bv}
theorem fin_seq (e1 : m ρ h = .nx ρ1 h1) (e2 : Goes P (n ρ1 h1)) : Goes P (sSeq m n ρ h) := by unfold sSeq; rw [e1]; exact e2
theorem fin_end (e1 : m ρ h = .nx ρ1 h1) (e2 : P h1) : Goes P (m ρ h) := ⟨_, _, e1, e2⟩
theorem fin_seqs (e1 : Goes P (m ρ h)) (e2 : ∀ ρ1 h1, P h1 → Goes P (n ρ1 h1)) : Goes P (sSeq m n ρ h) := by
  obtain ⟨ρ1, h1, e, p⟩ := e1
  exact fin_seq e (e2 _ _ p)
end
end Sh

set_option Elab.async false
set_option linter.all false
set_option maxRecDepth 100000
set_option maxHeartbeats 4000000
/-! Sh32: more mirrors evaluated. -/
namespace Sh
open PySem PySem.Spec PyProof.Rows L2
section
variable {d : D} {h h1 h2 h3 h4 : LH} {ρ ρ1 ρ2 : En} {m n : Sv} {r : SR} {me mo mk mx : Ev} {mi : Iv} {g : Gv} {t : Bv} {ds es : List D} {i j l : Nat} {ma : Av} {x y z w : D} {c : Str} {F : Nat}
theorem mt_ok {ty : String} {f : Mf} (ho : mo ρ h = .ok x h1) (hy : tyD ty x h1 = true) (ha : ma ρ h1 = .ok ds h2) (hf : f x ds h2 = some (d, h3)) : eMt ty f mo ma ρ h = .ok d h3 := by
  unfold eMt
  rw [ho, ev_b1]
  simp only [hy, if_true]
  rw [ha, ev_b1, hf]
theorem mtS0_ok {f : List Nat → Option D} {a : List Nat} (ho : mo ρ h = .ok (.str a) h1) (hf : f a = some d) : eMt "str" (mS0 f) mo aNil ρ h = .ok d h1 := mt_ok ho rfl nil_ok (by simp only [mS0, hf, Option.map_some])
theorem mtS1_ok {f : List Nat → List Nat → Option D} {a b : List Nat} (ho : mo ρ h = .ok (.str a) h1) (ha : ma ρ h1 = .ok [.str b] h2) (hf : f a b = some d) : eMt "str" (mS1 f) mo ma ρ h = .ok d h2 := mt_ok ho rfl ha (by simp only [mS1, hf, Option.map_some])
theorem inR_of {i : Int} (h1 : -1000000000000000000 ≤ i) (h2 : i ≤ 1000000000000000000) : inR i = true := by
  unfold inR
  rw [decide_eq_true (show (-4611686018427387904 : Int) ≤ i by omega), decide_eq_true (show i < (4611686018427387904 : Int) by omega)]; rfl
theorem rng1_ok {i : Int} (ha : ma ρ h = .ok [.int i] h1) (h0 : -1000000000000000000 ≤ i) (hi : i ≤ 1000000000000000000) : Sh.iRng1 ma ρ h = .ok ⟨rngD 0 i.toNat, none⟩ h1 := by
  unfold Sh.iRng1
  rw [ha, ev_b1]
  simp only
  rw [if_pos (inR_of h0 hi)]
theorem rng1N_ok {j : Nat} (ha : ma ρ h = .ok [.int (j : Int)] h1) (hi : j ≤ 1000000000000000000) : Sh.iRng1 ma ρ h = .ok ⟨rngD 0 j, none⟩ h1 := rng1_ok ha (by omega) (by omega)
theorem rng2_ok {i j : Int} (ha : ma ρ h = .ok [.int i, .int j] h1) (h0 : -1000000000000000000 ≤ i) (hi : i ≤ 1000000000000000000) (h2 : -1000000000000000000 ≤ j) (hj : j ≤ 1000000000000000000) : Sh.iRng2 ma ρ h = .ok ⟨rngD i (j - i).toNat, none⟩ h1 := by
  unfold Sh.iRng2
  rw [ha, ev_b1]
  simp only
  rw [inR_of h0 hi, inR_of h2 hj]; rfl
/-- a tuple is no text -/
theorem eqB_tup_str {α : Type} [BEq α] [Py α] {xs : List D} {x : List Nat} (a : α) (e : Py.e a = .tup xs) (ok : Py.ok a = true) (hd : Py.dep α ≤ 64) (hx : txOk x = true) : eqB (.tup xs) (.str x) = some false := by
  have h1 := Py.h1 a
  rw [e] at h1
  have s1 : SeqAt.shaped (Py.p a) = true := by
    unfold SeqAt.shaped
    rw [Py.h2 a ok, decide_eq_true (Nat.le_trans (Py.h3 a) hd)]; rfl
  have s2 : SeqAt.shaped (PyData.str (S x)) = true := by
    unfold SeqAt.shaped
    rw [show (PyData.str (S x)).canLay0 = true from Py.h2 (⟨x⟩ : Tx) hx]; rfl
  have e2 : toPy (D.str x) = some (PyData.str (S x)) := rfl
  show (match toPy (.tup xs), toPy (.str x) with
    | some p, some q => if SeqAt.shaped p && SeqAt.shaped q then some (PyData.eqv p q) else none
    | _, _ => none) = _
  rw [h1, e2]
  simp only
  rw [s1, s2]
  have h3 : toPy (.tup xs) = (toPys xs).map PyData.tuple := rfl
  rw [h3] at h1
  cases q : toPys xs with
  | none => rw [q] at h1; cases h1
  | some ps =>
    rw [q] at h1
    have h4 := Option.some.inj h1
    rw [← h4]
    simp [PyData.eqv]
theorem neTS {α : Type} [BEq α] [Py α] {xs : List D} {x : List Nat} (a : α) (e : Py.e a = .tup xs) (ok : Py.ok a = true) (hd : Py.dep α ≤ 64) (hx : txOk x = true) : dNe (.tup xs) (.str x) = some (.bl true) := by unfold dNe; rw [eqB_tup_str a e ok hd hx]; rfl
end
end Sh

set_option Elab.async false
set_option linter.all false
set_option maxRecDepth 100000
set_option maxHeartbeats 0
namespace K01
open PySem PySem.Spec PyProof.Rows L2 Sh
abbrev fuel : Nat := 3000000
def top (i : Nat) : Stmt := PySem.Challenge.pw_idstack_k01_numbers_in_bases.main.body.getD i (.Pass ⟨0, 0, 0, 0⟩)
def tab_ALPHABETS : List (List Nat × D) := [([116, 119, 111], .str [48, 49]), ([101, 105, 103, 104, 116], .str [48, 49, 50, 51, 52, 53, 54, 55]), ([116, 101, 110], .str [48, 49, 50, 51, 52, 53, 54, 55, 56, 57]), ([115, 105, 120, 116, 101, 101, 110], .str [48, 49, 50, 51, 52, 53, 54, 55, 56, 57, 97, 98, 99, 100, 101, 102]), ([99, 114, 111, 99, 107], .str [48, 49, 50, 51, 52, 53, 54, 55, 56, 57, 97, 98, 99, 100, 101, 102, 103, 104, 106, 107, 109, 110, 112, 113, 114, 115, 116, 118, 119, 120, 121, 122]), ([116, 104, 105, 114, 116, 121, 115, 105, 120], .str [48, 49, 50, 51, 52, 53, 54, 55, 56, 57, 97, 98, 99, 100, 101, 102, 103, 104, 105, 106, 107, 108, 109, 110, 111, 112, 113, 114, 115, 116, 117, 118, 119, 120, 121, 122]), ([112, 108, 97, 105, 110], .str [49, 50, 51, 52, 53, 54, 55, 56, 57, 65, 66, 67, 68, 69, 70, 71, 72, 74, 75, 76, 77, 78, 80, 81, 82, 83, 84, 85, 86, 87, 88, 89, 90, 97, 98, 99, 100, 101, 102, 103, 104, 105, 106, 107, 109, 110, 111, 112, 113, 114, 115, 116, 117, 118, 119, 120, 121, 122]), ([115, 105, 120, 116, 121, 102, 111, 117, 114], .str [65, 66, 67, 68, 69, 70, 71, 72, 73, 74, 75, 76, 77, 78, 79, 80, 81, 82, 83, 84, 85, 86, 87, 88, 89, 90, 97, 98, 99, 100, 101, 102, 103, 104, 105, 106, 107, 108, 109, 110, 111, 112, 113, 114, 115, 116, 117, 118, 119, 120, 121, 122, 48, 49, 50, 51, 52, 53, 54, 55, 56, 57, 45, 95])]
abbrev toldCat : List Str := ["BaseError"]
abbrev toldRet : List Nat := [66, 97, 115, 101, 69, 114, 114, 111, 114]
theorem de_err {X : Cx} {T : Tb} {W : WX} {e : Expr} : DE X T W e (fun _ _ => .err) := ⟨⟨fun pins s σ H Q I ⟨G, ρ, h, re, rh, p⟩ => p.elim⟩⟩
structure Fx (P : Program) (w : World) (K : PySem.W.Frag) (mg : Str → Option Value) (base : Heap) (T : Tb) : Prop where
  d_check_alphabet : ∃ fd, FunD K "check_alphabet" "check_alphabet" (defArgs (top 6)) (defBody (top 6)) (defScope (top 6)) [] [] (He.ga K "check_alphabet") fd
  g_check_alphabet : mg "check_alphabet" = some (.ref (He.ga K "check_alphabet"))
  d_in_base : ∃ fd, FunD K "in_base" "in_base" (defArgs (top 7)) (defBody (top 7)) (defScope (top 7)) [V.int 0] [] (He.ga K "in_base") fd
  g_in_base : mg "in_base" = some (.ref (He.ga K "in_base"))
  d_from_base : ∃ fd, FunD K "from_base" "from_base" (defArgs (top 8)) (defBody (top 8)) (defScope (top 8)) [] [] (He.ga K "from_base") fd
  g_from_base : mg "from_base" = some (.ref (He.ga K "from_base"))
  d_between_bases : ∃ fd, FunD K "between_bases" "between_bases" (defArgs (top 9)) (defBody (top 9)) (defScope (top 9)) [V.int 0] [] (He.ga K "between_bases") fd
  g_between_bases : mg "between_bases" = some (.ref (He.ga K "between_bases"))
  d_read_crock : ∃ fd, FunD K "read_crock" "read_crock" (defArgs (top 10)) (defBody (top 10)) (defScope (top 10)) [] [] (He.ga K "read_crock") fd
  g_read_crock : mg "read_crock" = some (.ref (He.ga K "read_crock"))
  d_in_groups : ∃ fd, FunD K "in_groups" "in_groups" (defArgs (top 11)) (defBody (top 11)) (defScope (top 11)) [V.str (S [45])] [] (He.ga K "in_groups") fd
  g_in_groups : mg "in_groups" = some (.ref (He.ga K "in_groups"))
  d_signs_needed : ∃ fd, FunD K "signs_needed" "signs_needed" (defArgs (top 12)) (defBody (top 12)) (defScope (top 12)) [] [] (He.ga K "signs_needed") fd
  g_signs_needed : mg "signs_needed" = some (.ref (He.ga K "signs_needed"))
  d_bits_of : ∃ fd, FunD K "bits_of" "bits_of" (defArgs (top 13)) (defBody (top 13)) (defScope (top 13)) [] [] (He.ga K "bits_of") fd
  g_bits_of : mg "bits_of" = some (.ref (He.ga K "bits_of"))
  d_from_bits : ∃ fd, FunD K "from_bits" "from_bits" (defArgs (top 14)) (defBody (top 14)) (defScope (top 14)) [] [] (He.ga K "from_bits") fd
  g_from_bits : mg "from_bits" = some (.ref (He.ga K "from_bits"))
  d_power_of : ∃ fd, FunD K "power_of" "power_of" (defArgs (top 17)) (defBody (top 17)) (defScope (top 17)) [] [] (He.ga K "power_of") fd
  g_power_of : mg "power_of" = some (.ref (He.ga K "power_of"))
  d_packed_number : ∃ fd, FunD K "packed_number" "packed_number" (defArgs (top 15)) (defBody (top 15)) (defScope (top 15)) [] [] (He.ga K "packed_number") fd
  g_packed_number : mg "packed_number" = some (.ref (He.ga K "packed_number"))
  d_unpacked_numbers : ∃ fd, FunD K "unpacked_numbers" "unpacked_numbers" (defArgs (top 16)) (defBody (top 16)) (defScope (top 16)) [] [] (He.ga K "unpacked_numbers") fd
  g_unpacked_numbers : mg "unpacked_numbers" = some (.ref (He.ga K "unpacked_numbers"))
  d_next_text : ∃ fd, FunD K "next_text" "next_text" (defArgs (top 18)) (defBody (top 18)) (defScope (top 18)) [] [] (He.ga K "next_text") fd
  g_next_text : mg "next_text" = some (.ref (He.ga K "next_text"))
  d_alike_signs : ∃ fd, FunD K "alike_signs" "alike_signs" (defArgs (top 19)) (defBody (top 19)) (defScope (top 19)) [] [] (He.ga K "alike_signs") fd
  g_alike_signs : mg "alike_signs" = some (.ref (He.ga K "alike_signs"))
  d_x_law_dice : ∃ fd, FunD K "_law_dice" "_law_dice" (defArgs (top 21)) (defBody (top 21)) (defScope (top 21)) [] [] (He.ga K "_law_dice") fd
  g_x_law_dice : mg "_law_dice" = some (.ref (He.ga K "_law_dice"))
  d_x_law_roll : ∃ fd, FunD K "_law_roll" "_law_roll" (defArgs (top 22)) (defBody (top 22)) (defScope (top 22)) [] [] (He.ga K "_law_roll") fd
  g_x_law_roll : mg "_law_roll" = some (.ref (He.ga K "_law_roll"))
  d_x_law_rounds : ∃ fd, FunD K "_law_rounds" "_law_rounds" (defArgs (top 23)) (defBody (top 23)) (defScope (top 23)) [] [] (He.ga K "_law_rounds") fd
  g_x_law_rounds : mg "_law_rounds" = some (.ref (He.ga K "_law_rounds"))
  d_x_law_told_in : ∃ fd, FunD K "_law_told_in" "_law_told_in" (defArgs (top 25)) (defBody (top 25)) (defScope (top 25)) [] [] (He.ga K "_law_told_in") fd
  g_x_law_told_in : mg "_law_told_in" = some (.ref (He.ga K "_law_told_in"))
  d_x_law_bits : ∃ fd, FunD K "_law_bits" "_law_bits" (defArgs (top 26)) (defBody (top 26)) (defScope (top 26)) [] [] (He.ga K "_law_bits") fd
  g_x_law_bits : mg "_law_bits" = some (.ref (He.ga K "_law_bits"))
  d_x_law_plain : ∃ fd, FunD K "_law_plain" "_law_plain" (defArgs (top 27)) (defBody (top 27)) (defScope (top 27)) [] [] (He.ga K "_law_plain") fd
  g_x_law_plain : mg "_law_plain" = some (.ref (He.ga K "_law_plain"))
  d_law : ∃ fd, FunD K "law" "law" (defArgs (top 28)) (defBody (top 28)) (defScope (top 28)) [] [] (He.ga K "law") fd
  g_law : mg "law" = some (.ref (He.ga K "law"))
  b_abs : mg "abs" = none
  b_any : mg "any" = none
  b_int : mg "int" = none
  b_len : mg "len" = none
  b_list : mg "list" = none
  b_max : mg "max" = none
  b_min : mg "min" = none
  b_range : mg "range" = none
  b_tuple : mg "tuple" = none
  b_zip : mg "zip" = none
  x_BaseError : ExnF K mg "BaseError"
  c_ALPHABETS : ∃ a vs, mg "ALPHABETS" = some (.ref a) ∧ KTab K w a tab_ALPHABETS vs
  c_MOST_SIGNS : ∃ t, mg "MOST_SIGNS" = some (.int 60 t)
  t_check_alphabet : GxR.TabB base mg (cdA K "check_alphabet") (tbA K "check_alphabet")
  i_check_alphabet : (tbA K "check_alphabet", (("check_alphabet" : Str) ++ ".<locals>." ++ "<genexpr>" : Str)) ∈ T
  t_from_base : GxR.TabB base mg (cdA K "from_base") (tbA K "from_base")
  i_from_base : (tbA K "from_base", (("from_base" : Str) ++ ".<locals>." ++ "<genexpr>" : Str)) ∈ T
  t_from_bits : GxR.TabB base mg (cdA K "from_bits") (tbA K "from_bits")
  i_from_bits : (tbA K "from_bits", (("from_bits" : Str) ++ ".<locals>." ++ "<genexpr>" : Str)) ∈ T
  t_packed_number : GxR.TabB base mg (cdA K "packed_number") (tbA K "packed_number")
  i_packed_number : (tbA K "packed_number", (("packed_number" : Str) ++ ".<locals>." ++ "<genexpr>" : Str)) ∈ T
  t_unpacked_numbers : GxR.TabB base mg (cdA K "unpacked_numbers") (tbA K "unpacked_numbers")
  i_unpacked_numbers : (tbA K "unpacked_numbers", (("unpacked_numbers" : Str) ++ ".<locals>." ++ "<genexpr>" : Str)) ∈ T
  t_alike_signs : GxR.TabB base mg (cdA K "alike_signs") (tbA K "alike_signs")
  i_alike_signs : (tbA K "alike_signs", (("alike_signs" : Str) ++ ".<locals>." ++ "<genexpr>" : Str)) ∈ T
  t_x_law_plain : LamX.TabB base mg (cdA K "_law_plain") (tbA K "_law_plain")
  i_x_law_plain : (tbA K "_law_plain", (("_law_plain" : Str) ++ ".<locals>." ++ "<lambda>" : Str)) ∈ T
  t_law : LamX.TabB base mg (cdA K "law") (tbA K "law")
  i_law : (tbA K "law", (("law" : Str) ++ ".<locals>." ++ "<lambda>" : Str)) ∈ T
  told : ToldF K mg "_law_told" "what" "BaseError" (defArgs (top 24)) (defScope (top 24)) (He.ga K "BaseError") toldRet
  tcat : ∀ c ∈ toldCat, PySem.W.exmOne K (.ref (He.ga K c)) (.ref (He.ga K "BaseError")) = some true
  tu : ∀ p ∈ T, ∀ q ∈ T, p.1 = q.1 → p.2 = q.2
theorem cDfl0 {n : Nat} {f : Fv} {ds : List D} {h : LH} : cAll n f ds h = cDfl n [] f ds h := by unfold cAll cDfl; simp
theorem Fx.u_check_alphabet {P : Program} {w : World} {K : PySem.W.Frag} {mg : Str → Option Value} {base : Heap} {T : Tb} (Z : Fx P w K mg base T) : ∀ p ∈ T, p.1 = tbA K "check_alphabet" → p.2 = (("check_alphabet" : Str) ++ ".<locals>." ++ "<genexpr>" : Str) := fun p hp e => Z.tu p hp _ Z.i_check_alphabet e
theorem Fx.u_from_base {P : Program} {w : World} {K : PySem.W.Frag} {mg : Str → Option Value} {base : Heap} {T : Tb} (Z : Fx P w K mg base T) : ∀ p ∈ T, p.1 = tbA K "from_base" → p.2 = (("from_base" : Str) ++ ".<locals>." ++ "<genexpr>" : Str) := fun p hp e => Z.tu p hp _ Z.i_from_base e
theorem Fx.u_from_bits {P : Program} {w : World} {K : PySem.W.Frag} {mg : Str → Option Value} {base : Heap} {T : Tb} (Z : Fx P w K mg base T) : ∀ p ∈ T, p.1 = tbA K "from_bits" → p.2 = (("from_bits" : Str) ++ ".<locals>." ++ "<genexpr>" : Str) := fun p hp e => Z.tu p hp _ Z.i_from_bits e
theorem Fx.u_packed_number {P : Program} {w : World} {K : PySem.W.Frag} {mg : Str → Option Value} {base : Heap} {T : Tb} (Z : Fx P w K mg base T) : ∀ p ∈ T, p.1 = tbA K "packed_number" → p.2 = (("packed_number" : Str) ++ ".<locals>." ++ "<genexpr>" : Str) := fun p hp e => Z.tu p hp _ Z.i_packed_number e
theorem Fx.u_unpacked_numbers {P : Program} {w : World} {K : PySem.W.Frag} {mg : Str → Option Value} {base : Heap} {T : Tb} (Z : Fx P w K mg base T) : ∀ p ∈ T, p.1 = tbA K "unpacked_numbers" → p.2 = (("unpacked_numbers" : Str) ++ ".<locals>." ++ "<genexpr>" : Str) := fun p hp e => Z.tu p hp _ Z.i_unpacked_numbers e
theorem Fx.u_alike_signs {P : Program} {w : World} {K : PySem.W.Frag} {mg : Str → Option Value} {base : Heap} {T : Tb} (Z : Fx P w K mg base T) : ∀ p ∈ T, p.1 = tbA K "alike_signs" → p.2 = (("alike_signs" : Str) ++ ".<locals>." ++ "<genexpr>" : Str) := fun p hp e => Z.tu p hp _ Z.i_alike_signs e
theorem Fx.u_x_law_plain {P : Program} {w : World} {K : PySem.W.Frag} {mg : Str → Option Value} {base : Heap} {T : Tb} (Z : Fx P w K mg base T) : ∀ p ∈ T, p.1 = tbA K "_law_plain" → p.2 = (("_law_plain" : Str) ++ ".<locals>." ++ "<lambda>" : Str) := fun p hp e => Z.tu p hp _ Z.i_x_law_plain e
theorem Fx.u_law {P : Program} {w : World} {K : PySem.W.Frag} {mg : Str → Option Value} {base : Heap} {T : Tb} (Z : Fx P w K mg base T) : ∀ p ∈ T, p.1 = tbA K "law" → p.2 = (("law" : Str) ++ ".<locals>." ++ "<lambda>" : Str) := fun p hp e => Z.tu p hp _ Z.i_law e
section
variable {P : Program} {w : World} {K : PySem.W.Frag} {mg : Str → Option Value} {base : Heap} {T : Tb}
/-! check_alphabet -/
abbrev st_check_alphabet : Stmt := top 6
theorem sc_check_alphabet : FnScope ["signs", "sign"] ["signs"] (defScope st_check_alphabet) := ⟨rfl, rfl, rfl, by decide +kernel, rfl, by decide +kernel, by decide +kernel⟩
def m_check_alphabet : Sv := (sIf (bOr (bTest (eBin dLt (eCall (bRes bLen) (aCons (eVar 0) aNil)) (eC (.int 2)))) (bTest (eGx tAnyR (iSeq (eVar 0)) [1] (gNm 1) bYes (eBin dGt (eMt "str" (mS1 gCount) (eVar 0) (aCons (eVar 1) aNil)) (eC (.int 1)))))) (sRaise "BaseError") sNil)
abbrev f_check_alphabet : Fv := fn 2 m_check_alphabet
abbrev g_check_alphabet : Fv := cAll 1 f_check_alphabet
theorem b_check_alphabet (Z : Fx P w K mg base T) : Body P w K mg base T ["signs", "sign"] "check_alphabet" (defScope st_check_alphabet) 5 (defBody st_check_alphabet) m_check_alphabet := fun A outer s H E hr =>
  (db_one (ds_if (DW.dt (dw_or (dt_cmp od_lt (de_callB cd_len (by exact rfl) Z.b_len (by exact rfl) (da_cons (dv 0) da_nil)) de_int) (dw_one_or (dt_val (de_any (j := 1) (hr.mono (by decide)) Z.t_check_alphabet Z.i_check_alphabet Z.u_check_alphabet (by exact rfl) (by exact rfl) Z.b_any (gxOk_by (own := [("sign", 1)]) (by rfl)) sc_check_alphabet.nd (di_seq (dv 0)) ⟨fun _ _ _ _ _ _ _ hj => (xnm 1 sc_check_alphabet.nd), fun _ _ _ _ _ _ _ hj => dts_nil, fun _ _ _ _ _ _ _ hj => (de_cmp od_gt (de_m PySem.F.plainAttrs_str PySem.F.slot_str_count PySem.F.type_str_count md_count (dv 0) (da_cons (dv 1) da_nil)) de_int)⟩))))) (db_one (ds_raise (by exact rfl) (takes_cx (CX := L2.CX P w)) Z.x_BaseError.at (by exact rfl))) db_nil))
theorem c_check_alphabet (Z : Fx P w K mg base T) : Cal P w K mg base T 6 "check_alphabet" g_check_alphabet := cal_all Z.d_check_alphabet Z.g_check_alphabet sc_check_alphabet (fun _ _ _ _ _ _ us hl => match us, hl with | [_], _ => rfl) (b_check_alphabet Z)
/-! in_base -/
abbrev st_in_base : Stmt := top 7
theorem sc_in_base : FnScope ["number", "signs", "wide", "found", "size"] ["number", "signs", "wide"] (defScope st_in_base) := ⟨rfl, rfl, rfl, by decide +kernel, rfl, by decide +kernel, by decide +kernel⟩
def m_in_base : Sv := (sSeq (sExpr (eCall g_check_alphabet (aCons (eVar 1) aNil))) (sSeq (sIf (bOr (bTest (eBin dLt (eVar 0) (eC (.int 0)))) (bNot (bTest (eChain dLe dLe (eC (.int 0)) (eVar 2) (eC (.int 60)))))) (sRaise "BaseError") sNil) (sSeq (sPar 3 4 (aCons (eC (.str [])) (aCons (eCall (bRes bLen) (aCons (eVar 1) aNil)) aNil))) (sSeq (sWh (bTest (eBin dGt (eVar 0) (eC (.int 0)))) (sSeq (sAsg (eBin dAdd (eIx (eVar 1) (eBin dMod (eVar 0) (eVar 4))) (eVar 3)) (gNm 3)) (sAug dDiv 0 (eVar 4))) fuel) (sRet (eBin dAdd (eBin dMul (eIx (eVar 1) (eC (.int 0))) (eCall (bRes bMax) (aCons (eC (.int 0)) (aCons (eBin dSub (eCall (bRes bMax) (aCons (eVar 2) (aCons (eC (.int 1)) aNil))) (eCall (bRes bLen) (aCons (eVar 3) aNil))) aNil)))) (eVar 3)))))))
abbrev f_in_base : Fv := fn 5 m_in_base
abbrev g_in_base : Fv := cAll 3 f_in_base
theorem b_in_base (Z : Fx P w K mg base T) : Body P w K mg base T ["number", "signs", "wide", "found", "size"] "in_base" (defScope st_in_base) 6 (defBody st_in_base) m_in_base := fun A outer s H E hr =>
  (db_cons (ds_expr (de_call (c_check_alphabet Z) hr (by decide) (by exact rfl) (takes_cx (CX := L2.CX P w)) (da_cons (dv 1) da_nil)))
    (db_cons (ds_if (DW.dt (dw_or (dt_cmp od_lt (dv 0) de_int) (dw_one_or (dt_not (dt_chain od_le od_le de_int (dv 2) (de_gint (by exact rfl) Z.c_MOST_SIGNS)))))) (db_one (ds_raise (by exact rfl) (takes_cx (CX := L2.CX P w)) Z.x_BaseError.at (by exact rfl))) db_nil)
    (db_cons (spar 3 4 (by exact rfl) sc_in_base.nd (da_cons (de_str []) (da_cons (de_callB cd_len (by exact rfl) Z.b_len (by exact rfl) (da_cons (dv 1) da_nil)) da_nil)))
    (db_cons (ds_while fuel owns_cx (dt_cmp od_gt (dv 0) de_int) (db_cons (sst 3 sc_in_base.nd (de_bin od_add (de_ix (hu1 hr) (dv 1) (de_bin od_mod (dv 0) (dv 4))) (dv 3)))
    (db_one (sau 0 sc_in_base.nd (dv 4) oi_div))))
    (db_one (ds_ret (de_bin od_add (de_bin od_mul (de_ix (hu1 hr) (dv 1) de_int) (de_callB (cd_max (by exact rfl)) (by exact rfl) Z.b_max (by exact rfl) (da_cons de_int (da_cons (de_bin od_sub (de_callB (cd_max (by exact rfl)) (by exact rfl) Z.b_max (by exact rfl) (da_cons (dv 2) (da_cons de_int da_nil))) (de_callB cd_len (by exact rfl) Z.b_len (by exact rfl) (da_cons (dv 3) da_nil))) da_nil)))) (dv 3))))))))
abbrev g_in_base_d2 : Fv := cDfl 3 [.int 0] f_in_base
theorem c_in_base_d2 (Z : Fx P w K mg base T) : Cal P w K mg base T 7 "in_base" g_in_base_d2 := cal_dfl1 2 0 Z.d_in_base Z.g_in_base sc_in_base (by simp) rfl (fun _ _ _ _ _ _ _ us its hl h2 => match us, its, hl, h2 with | [_, _], [_], _, _ => ⟨_, rfl, rfl⟩) (fun _ => (.cons (.int _) .nil)) (b_in_base Z)
theorem c_in_base0 (Z : Fx P w K mg base T) : Cal P w K mg base T 7 "in_base" (cDfl 3 [] f_in_base) := cal_dfl1 3 1 Z.d_in_base Z.g_in_base sc_in_base (by simp) rfl (fun _ _ _ _ _ _ _ us its hl h2 => match us, its, hl, h2 with | [_, _, _], [_], _, _ => ⟨_, rfl, rfl⟩) (fun _ => .nil) (b_in_base Z)
theorem c_in_base (Z : Fx P w K mg base T) : Cal P w K mg base T 7 "in_base" g_in_base := (c_in_base0 Z).of fun ds h => cDfl0
/-! from_base -/
abbrev st_from_base : Stmt := top 8
theorem sc_from_base : FnScope ["text", "signs", "sign", "found"] ["text", "signs"] (defScope st_from_base) := ⟨rfl, rfl, rfl, by decide +kernel, rfl, by decide +kernel, by decide +kernel⟩
def m_from_base : Sv := (sSeq (sExpr (eCall g_check_alphabet (aCons (eVar 1) aNil))) (sSeq (sIf (bOr (bNot (bTest (eChain dLe dLe (eC (.int 1)) (eCall (bRes bLen) (aCons (eVar 0) aNil)) (eC (.int 60))))) (bTest (eGx tAnyR (iSeq (eVar 0)) [2] (gNm 2) bYes (eBin dNotIn (eVar 2) (eVar 1))))) (sRaise "BaseError") sNil) (sSeq (sAsg (eC (.int 0)) (gNm 3)) (sSeq (sForI (iSeq (eVar 0)) (gNm 2) (sAsg (eBin dAdd (eBin dMul (eVar 3) (eCall (bRes bLen) (aCons (eVar 1) aNil))) (eMt "str" (mS1 gFind) (eVar 1) (aCons (eVar 2) aNil))) (gNm 3))) (sRet (eVar 3))))))
abbrev f_from_base : Fv := fn 4 m_from_base
abbrev g_from_base : Fv := cAll 2 f_from_base
theorem b_from_base (Z : Fx P w K mg base T) : Body P w K mg base T ["text", "signs", "sign", "found"] "from_base" (defScope st_from_base) 6 (defBody st_from_base) m_from_base := fun A outer s H E hr =>
  (db_cons (ds_expr (de_call (c_check_alphabet Z) hr (by decide) (by exact rfl) (takes_cx (CX := L2.CX P w)) (da_cons (dv 1) da_nil)))
    (db_cons (ds_if (DW.dt (dw_or (dt_not (dt_chain od_le od_le de_int (de_callB cd_len (by exact rfl) Z.b_len (by exact rfl) (da_cons (dv 0) da_nil)) (de_gint (by exact rfl) Z.c_MOST_SIGNS))) (dw_one_or (dt_val (de_any (j := 1) (hr.mono (by decide)) Z.t_from_base Z.i_from_base Z.u_from_base (by exact rfl) (by exact rfl) Z.b_any (gxOk_by (own := [("sign", 2)]) (by rfl)) sc_from_base.nd (di_seq (dv 0)) ⟨fun _ _ _ _ _ _ _ hj => (xnm 2 sc_from_base.nd), fun _ _ _ _ _ _ _ hj => dts_nil, fun _ _ _ _ _ _ _ hj => (de_cmp od_notIn (dv 2) (dv 1))⟩))))) (db_one (ds_raise (by exact rfl) (takes_cx (CX := L2.CX P w)) Z.x_BaseError.at (by exact rfl))) db_nil)
    (db_cons (sst 3 sc_from_base.nd de_int)
    (db_cons (ds_for owns_cx (by exact rfl) (di_seq (dv 0)) (gnm 2 sc_from_base.nd) (db_one (sst 3 sc_from_base.nd (de_bin od_add (de_bin od_mul (dv 3) (de_callB cd_len (by exact rfl) Z.b_len (by exact rfl) (da_cons (dv 1) da_nil))) (de_m PySem.F.plainAttrs_str PySem.F.slot_str_find PySem.F.type_str_find md_find (dv 1) (da_cons (dv 2) da_nil))))))
    (db_one (ds_ret (dv 3)))))))
theorem c_from_base (Z : Fx P w K mg base T) : Cal P w K mg base T 7 "from_base" g_from_base := cal_all Z.d_from_base Z.g_from_base sc_from_base (fun _ _ _ _ _ _ us hl => match us, hl with | [_, _], _ => rfl) (b_from_base Z)
/-! between_bases -/
abbrev st_between_bases : Stmt := top 9
theorem sc_between_bases : FnScope ["text", "signs", "other", "wide"] ["text", "signs", "other", "wide"] (defScope st_between_bases) := ⟨rfl, rfl, rfl, by decide +kernel, rfl, by decide +kernel, by decide +kernel⟩
def m_between_bases : Sv := (sRet (eCall g_in_base (aCons (eCall g_from_base (aCons (eVar 0) (aCons (eVar 1) aNil))) (aCons (eVar 2) (aCons (eVar 3) aNil)))))
abbrev f_between_bases : Fv := fn 4 m_between_bases
abbrev g_between_bases : Fv := cAll 4 f_between_bases
theorem b_between_bases (Z : Fx P w K mg base T) : Body P w K mg base T ["text", "signs", "other", "wide"] "between_bases" (defScope st_between_bases) 7 (defBody st_between_bases) m_between_bases := fun A outer s H E hr =>
  (db_one (ds_ret (de_call (c_in_base Z) hr (by decide) (by exact rfl) (takes_cx (CX := L2.CX P w)) (da_cons (de_call (c_from_base Z) hr (by decide) (by exact rfl) (takes_cx (CX := L2.CX P w)) (da_cons (dv 0) (da_cons (dv 1) da_nil))) (da_cons (dv 2) (da_cons (dv 3) da_nil))))))
abbrev g_between_bases_d3 : Fv := cDfl 4 [.int 0] f_between_bases
theorem c_between_bases_d3 (Z : Fx P w K mg base T) : Cal P w K mg base T 8 "between_bases" g_between_bases_d3 := cal_dfl1 3 0 Z.d_between_bases Z.g_between_bases sc_between_bases (by simp) rfl (fun _ _ _ _ _ _ _ us its hl h2 => match us, its, hl, h2 with | [_, _, _], [_], _, _ => ⟨_, rfl, rfl⟩) (fun _ => (.cons (.int _) .nil)) (b_between_bases Z)
theorem c_between_bases0 (Z : Fx P w K mg base T) : Cal P w K mg base T 8 "between_bases" (cDfl 4 [] f_between_bases) := cal_dfl1 4 1 Z.d_between_bases Z.g_between_bases sc_between_bases (by simp) rfl (fun _ _ _ _ _ _ _ us its hl h2 => match us, its, hl, h2 with | [_, _, _, _], [_], _, _ => ⟨_, rfl, rfl⟩) (fun _ => .nil) (b_between_bases Z)
theorem c_between_bases (Z : Fx P w K mg base T) : Cal P w K mg base T 8 "between_bases" g_between_bases := (c_between_bases0 Z).of fun ds h => cDfl0
/-! read_crock -/
abbrev st_read_crock : Stmt := top 10
theorem sc_read_crock : FnScope ["text", "plain"] ["text"] (defScope st_read_crock) := ⟨rfl, rfl, rfl, by decide +kernel, rfl, by decide +kernel, by decide +kernel⟩
def m_read_crock : Sv := (sSeq (sAsg (eRepl [108] [49] (eRepl [105] [49] (eRepl [111] [48] (eRepl [45] [] (eMt "str" (mS0 gLower) (eVar 0) aNil))))) (gNm 1)) (sRet (eCall g_from_base (aCons (eVar 1) (aCons (eKix tab_ALPHABETS (eC (.str [99, 114, 111, 99, 107]))) aNil)))))
abbrev f_read_crock : Fv := fn 2 m_read_crock
abbrev g_read_crock : Fv := cAll 1 f_read_crock
theorem b_read_crock (Z : Fx P w K mg base T) : Body P w K mg base T ["text", "plain"] "read_crock" (defScope st_read_crock) 7 (defBody st_read_crock) m_read_crock := fun A outer s H E hr =>
  (db_cons (sst 1 sc_read_crock.nd (DK.de (dk_repl (y := [108]) (z := [49]) (dk_repl (y := [105]) (z := [49]) (dk_repl (y := [111]) (z := [48]) (dk_repl (y := [45]) (z := []) (dk_lower (dv 0))))))))
    (db_one (ds_ret (de_call (c_from_base Z) hr (by decide) (by exact rfl) (takes_cx (CX := L2.CX P w)) (da_cons (dv 1) (da_cons (de_kix (by exact rfl) Z.c_ALPHABETS (de_str [99, 114, 111, 99, 107])) da_nil))))))
theorem c_read_crock (Z : Fx P w K mg base T) : Cal P w K mg base T 8 "read_crock" g_read_crock := cal_all Z.d_read_crock Z.g_read_crock sc_read_crock (fun _ _ _ _ _ _ us hl => match us, hl with | [_], _ => rfl) (b_read_crock Z)
/-! in_groups -/
abbrev st_in_groups : Stmt := top 11
theorem sc_in_groups : FnScope ["text", "size", "mark", "head", "parts", "spot"] ["text", "size", "mark"] (defScope st_in_groups) := ⟨rfl, rfl, rfl, by decide +kernel, rfl, by decide +kernel, by decide +kernel⟩
def m_in_groups : Sv := (sSeq (sIf (bOr (bTest (eBin dLt (eVar 1) (eC (.int 1)))) (bTest (eBin dNe (eCall (bRes bLen) (aCons (eVar 2) aNil)) (eC (.int 1))))) (sRaise "BaseError") sNil) (sSeq (sAsg (eBin dMod (eCall (bRes bLen) (aCons (eVar 0) aNil)) (eVar 1)) (gNm 3)) (sSeq (sAsg (eBin dAdd (eIf (bTest (eBin dGt (eVar 3) (eC (.int 0)))) (eLst (aCons (eSl (eVar 0) oNo (oYes (eVar 3))) aNil)) (eLst aNil)) (eLc (iRng3 (aCons (eVar 3) (aCons (eCall (bRes bLen) (aCons (eVar 0) aNil)) (aCons (eVar 1) aNil)))) [5] (gNm 5) bYes (eSl (eVar 0) (oYes (eVar 5)) (oYes (eBin dAdd (eVar 5) (eVar 1)))))) (gNm 4)) (sRet (eMt "str" (mJoin) (eVar 2) (aCons (eVar 4) aNil))))))
abbrev f_in_groups : Fv := fn 6 m_in_groups
abbrev g_in_groups : Fv := cAll 3 f_in_groups
theorem b_in_groups (Z : Fx P w K mg base T) : Body P w K mg base T ["text", "size", "mark", "head", "parts", "spot"] "in_groups" (defScope st_in_groups) 1 (defBody st_in_groups) m_in_groups := fun A outer s H E hr =>
  (db_cons (ds_if (DW.dt (dw_or (dt_cmp od_lt (dv 1) de_int) (dw_one_or (dt_cmp (od_ne (hu64 hr)) (de_callB cd_len (by exact rfl) Z.b_len (by exact rfl) (da_cons (dv 2) da_nil)) de_int)))) (db_one (ds_raise (by exact rfl) (takes_cx (CX := L2.CX P w)) Z.x_BaseError.at (by exact rfl))) db_nil)
    (db_cons (sst 3 sc_in_groups.nd (de_bin od_mod (de_callB cd_len (by exact rfl) Z.b_len (by exact rfl) (da_cons (dv 0) da_nil)) (dv 1)))
    (db_cons (sst 4 sc_in_groups.nd (de_bin od_add (de_if (dt_cmp od_gt (dv 3) de_int) (de_lst (da_cons (de_sl (dv 0) do_no (do_yes (dv 3))) da_nil)) (de_lst da_nil)) (de_lc (by exact rfl) sc_in_groups.nd (di_range3 (by exact rfl) Z.b_range (da_cons (dv 3) (da_cons (de_callB cd_len (by exact rfl) Z.b_len (by exact rfl) (da_cons (dv 0) da_nil)) (da_cons (dv 1) da_nil)))) (blkOk_by (own := [("spot", 5)]) (by rfl)) ⟨fun _ _ _ _ _ => (xnm 5 sc_in_groups.nd), fun _ _ _ _ _ => dts_nil, fun _ _ _ _ _ => (de_sl (dv 0) (do_yes (dv 5)) (do_yes (de_bin od_add (dv 5) (dv 1))))⟩)))
    (db_one (ds_ret (de_m PySem.F.plainAttrs_str PySem.F.slot_str_join PySem.F.type_str_join md_join (dv 2) (da_cons (dv 4) da_nil)))))))
abbrev g_in_groups_d2 : Fv := cDfl 3 [.str [45]] f_in_groups
theorem c_in_groups_d2 (Z : Fx P w K mg base T) : Cal P w K mg base T 2 "in_groups" g_in_groups_d2 := cal_dfl1 2 0 Z.d_in_groups Z.g_in_groups sc_in_groups (by simp) rfl (fun _ _ _ _ _ _ _ us its hl h2 => match us, its, hl, h2 with | [_, _], [_], _, _ => ⟨_, rfl, rfl⟩) (fun _ => (.cons (.str _) .nil)) (b_in_groups Z)
theorem c_in_groups0 (Z : Fx P w K mg base T) : Cal P w K mg base T 2 "in_groups" (cDfl 3 [] f_in_groups) := cal_dfl1 3 1 Z.d_in_groups Z.g_in_groups sc_in_groups (by simp) rfl (fun _ _ _ _ _ _ _ us its hl h2 => match us, its, hl, h2 with | [_, _, _], [_], _, _ => ⟨_, rfl, rfl⟩) (fun _ => .nil) (b_in_groups Z)
theorem c_in_groups (Z : Fx P w K mg base T) : Cal P w K mg base T 2 "in_groups" g_in_groups := (c_in_groups0 Z).of fun ds h => cDfl0
/-! signs_needed -/
abbrev st_signs_needed : Stmt := top 12
theorem sc_signs_needed : FnScope ["many", "size", "found", "room"] ["many", "size"] (defScope st_signs_needed) := ⟨rfl, rfl, rfl, by decide +kernel, rfl, by decide +kernel, by decide +kernel⟩
def m_signs_needed : Sv := (sSeq (sIf (bOr (bTest (eBin dLt (eVar 0) (eC (.int 1)))) (bTest (eBin dLt (eVar 1) (eC (.int 2))))) (sRaise "BaseError") sNil) (sSeq (sPar 2 3 (aCons (eC (.int 1)) (aCons (eVar 1) aNil))) (sSeq (sWh (bTest (eBin dLt (eVar 3) (eVar 0))) (sSeq (sAug dIMul 3 (eVar 1)) (sAug dIAdd 2 (eC (.int 1)))) fuel) (sRet (eVar 2)))))
abbrev f_signs_needed : Fv := fn 4 m_signs_needed
abbrev g_signs_needed : Fv := cAll 2 f_signs_needed
theorem b_signs_needed (Z : Fx P w K mg base T) : Body P w K mg base T ["many", "size", "found", "room"] "signs_needed" (defScope st_signs_needed) 1 (defBody st_signs_needed) m_signs_needed := fun A outer s H E hr =>
  (db_cons (ds_if (DW.dt (dw_or (dt_cmp od_lt (dv 0) de_int) (dw_one_or (dt_cmp od_lt (dv 1) de_int)))) (db_one (ds_raise (by exact rfl) (takes_cx (CX := L2.CX P w)) Z.x_BaseError.at (by exact rfl))) db_nil)
    (db_cons (spar 2 3 (by exact rfl) sc_signs_needed.nd (da_cons de_int (da_cons (dv 1) da_nil)))
    (db_cons (ds_while fuel owns_cx (dt_cmp od_lt (dv 3) (dv 0)) (db_cons (sau 3 sc_signs_needed.nd (dv 1) oi_mul)
    (db_one (sau 2 sc_signs_needed.nd de_int oi_addD))))
    (db_one (ds_ret (dv 2))))))
theorem c_signs_needed (Z : Fx P w K mg base T) : Cal P w K mg base T 2 "signs_needed" g_signs_needed := cal_all Z.d_signs_needed Z.g_signs_needed sc_signs_needed (fun _ _ _ _ _ _ us hl => match us, hl with | [_, _], _ => rfl) (b_signs_needed Z)
/-! bits_of -/
abbrev st_bits_of : Stmt := top 13
theorem sc_bits_of : FnScope ["number", "wide", "found", "turn"] ["number", "wide"] (defScope st_bits_of) := ⟨rfl, rfl, rfl, by decide +kernel, rfl, by decide +kernel, by decide +kernel⟩
def m_bits_of : Sv := (sSeq (sIf (bOr (bTest (eBin dLt (eVar 0) (eC (.int 0)))) (bNot (bTest (eChain dLe dLe (eC (.int 1)) (eVar 1) (eC (.int 200)))))) (sRaise "BaseError") sNil) (sSeq (sAsg (eLst aNil) (gNm 2)) (sSeq (sForI (iRng1 (aCons (eVar 1) aNil)) (gNm 3) (sSeq (sAsg (eBin dAdd (eLst (aCons (eBin dMod (eVar 0) (eC (.int 2))) aNil)) (eVar 2)) (gNm 2)) (sAug dDiv 0 (eC (.int 2))))) (sSeq (sIf (bTest (eBin dGt (eVar 0) (eC (.int 0)))) (sRaise "BaseError") sNil) (sRet (eCall (bRes bTuple) (aCons (eVar 2) aNil)))))))
abbrev f_bits_of : Fv := fn 4 m_bits_of
abbrev g_bits_of : Fv := cAll 2 f_bits_of
theorem b_bits_of (Z : Fx P w K mg base T) : Body P w K mg base T ["number", "wide", "found", "turn"] "bits_of" (defScope st_bits_of) 1 (defBody st_bits_of) m_bits_of := fun A outer s H E hr =>
  (db_cons (ds_if (DW.dt (dw_or (dt_cmp od_lt (dv 0) de_int) (dw_one_or (dt_not (dt_chain od_le od_le de_int (dv 1) de_int))))) (db_one (ds_raise (by exact rfl) (takes_cx (CX := L2.CX P w)) Z.x_BaseError.at (by exact rfl))) db_nil)
    (db_cons (sst 2 sc_bits_of.nd (de_lst da_nil))
    (db_cons (ds_for owns_cx (by exact rfl) (di_range1 (by exact rfl) Z.b_range (da_cons (dv 1) da_nil)) (gnm 3 sc_bits_of.nd) (db_cons (sst 2 sc_bits_of.nd (de_bin od_add (de_lst (da_cons (de_bin od_mod (dv 0) de_int) da_nil)) (dv 2)))
    (db_one (sau 0 sc_bits_of.nd de_int oi_div))))
    (db_cons (ds_if (dt_cmp od_gt (dv 0) de_int) (db_one (ds_raise (by exact rfl) (takes_cx (CX := L2.CX P w)) Z.x_BaseError.at (by exact rfl))) db_nil)
    (db_one (ds_ret (de_callT cd_tuple (by exact rfl) Z.b_tuple (by exact rfl) (da_cons (dv 2) da_nil))))))))
theorem c_bits_of (Z : Fx P w K mg base T) : Cal P w K mg base T 2 "bits_of" g_bits_of := cal_all Z.d_bits_of Z.g_bits_of sc_bits_of (fun _ _ _ _ _ _ us hl => match us, hl with | [_, _], _ => rfl) (b_bits_of Z)
/-! from_bits -/
abbrev st_from_bits : Stmt := top 14
theorem sc_from_bits : FnScope ["bits", "bit", "found"] ["bits"] (defScope st_from_bits) := ⟨rfl, rfl, rfl, by decide +kernel, rfl, by decide +kernel, by decide +kernel⟩
def m_from_bits : Sv := (sSeq (sIf (bOr (bTest (eBin dEq (eCall (bRes bLen) (aCons (eVar 0) aNil)) (eC (.int 0)))) (bTest (eGx tAnyR (iSeq (eVar 0)) [1] (gNm 1) bYes (eBin dNotIn (eVar 1) (eTup (aCons (eC (.int 0)) (aCons (eC (.int 1)) aNil))))))) (sRaise "BaseError") sNil) (sSeq (sAsg (eC (.int 0)) (gNm 2)) (sSeq (sForI (iSeq (eVar 0)) (gNm 1) (sAsg (eBin dAdd (eBin dMul (eC (.int 2)) (eVar 2)) (eVar 1)) (gNm 2))) (sRet (eVar 2)))))
abbrev f_from_bits : Fv := fn 3 m_from_bits
abbrev g_from_bits : Fv := cAll 1 f_from_bits
theorem b_from_bits (Z : Fx P w K mg base T) : Body P w K mg base T ["bits", "bit", "found"] "from_bits" (defScope st_from_bits) 5 (defBody st_from_bits) m_from_bits := fun A outer s H E hr =>
  (db_cons (ds_if (DW.dt (dw_or (dt_cmp (od_eq (hu64 hr)) (de_callB cd_len (by exact rfl) Z.b_len (by exact rfl) (da_cons (dv 0) da_nil)) de_int) (dw_one_or (dt_val (de_any (j := 1) (hr.mono (by decide)) Z.t_from_bits Z.i_from_bits Z.u_from_bits (by exact rfl) (by exact rfl) Z.b_any (gxOk_by (own := [("bit", 1)]) (by rfl)) sc_from_bits.nd (di_seq (dv 0)) ⟨fun _ _ _ _ _ _ _ hj => (xnm 1 sc_from_bits.nd), fun _ _ _ _ _ _ _ hj => dts_nil, fun _ _ _ _ _ _ _ hj => (de_cmp od_notIn (dv 1) (de_tup (da_cons de_int (da_cons de_int da_nil))))⟩))))) (db_one (ds_raise (by exact rfl) (takes_cx (CX := L2.CX P w)) Z.x_BaseError.at (by exact rfl))) db_nil)
    (db_cons (sst 2 sc_from_bits.nd de_int)
    (db_cons (ds_for owns_cx (by exact rfl) (di_seq (dv 0)) (gnm 1 sc_from_bits.nd) (db_one (sst 2 sc_from_bits.nd (de_bin od_add (de_bin od_mul de_int (dv 2)) (dv 1)))))
    (db_one (ds_ret (dv 2))))))
theorem c_from_bits (Z : Fx P w K mg base T) : Cal P w K mg base T 6 "from_bits" g_from_bits := cal_all Z.d_from_bits Z.g_from_bits sc_from_bits (fun _ _ _ _ _ _ us hl => match us, hl with | [_], _ => rfl) (b_from_bits Z)
/-! power_of -/
abbrev st_power_of : Stmt := top 17
theorem sc_power_of : FnScope ["base", "many", "found", "turn"] ["base", "many"] (defScope st_power_of) := ⟨rfl, rfl, rfl, by decide +kernel, rfl, by decide +kernel, by decide +kernel⟩
def m_power_of : Sv := (sSeq (sAsg (eC (.int 1)) (gNm 2)) (sSeq (sForI (iRng1 (aCons (eVar 1) aNil)) (gNm 3) (sAug dIMul 2 (eVar 0))) (sRet (eVar 2))))
abbrev f_power_of : Fv := fn 4 m_power_of
abbrev g_power_of : Fv := cAll 2 f_power_of
theorem b_power_of (Z : Fx P w K mg base T) : Body P w K mg base T ["base", "many", "found", "turn"] "power_of" (defScope st_power_of) 1 (defBody st_power_of) m_power_of := fun A outer s H E hr =>
  (db_cons (sst 2 sc_power_of.nd de_int)
    (db_cons (ds_for owns_cx (by exact rfl) (di_range1 (by exact rfl) Z.b_range (da_cons (dv 1) da_nil)) (gnm 3 sc_power_of.nd) (db_one (sau 2 sc_power_of.nd (dv 0) oi_mul)))
    (db_one (ds_ret (dv 2)))))
theorem c_power_of (Z : Fx P w K mg base T) : Cal P w K mg base T 2 "power_of" g_power_of := cal_all Z.d_power_of Z.g_power_of sc_power_of (fun _ _ _ _ _ _ us hl => match us, hl with | [_, _], _ => rfl) (b_power_of Z)
/-! packed_number -/
abbrev st_packed_number : Stmt := top 15
theorem sc_packed_number : FnScope ["numbers", "widths", "wide", "found", "number"] ["numbers", "widths"] (defScope st_packed_number) := ⟨rfl, rfl, rfl, by decide +kernel, rfl, by decide +kernel, by decide +kernel⟩
def m_packed_number : Sv := (sSeq (sIf (bOr (bTest (eBin dNe (eCall (bRes bLen) (aCons (eVar 0) aNil)) (eCall (bRes bLen) (aCons (eVar 1) aNil)))) (bTest (eGx tAnyR (iSeq (eVar 1)) [2] (gNm 2) bYes (eBin dLt (eVar 2) (eC (.int 1)))))) (sRaise "BaseError") sNil) (sSeq (sAsg (eC (.int 0)) (gNm 3)) (sSeq (sForI (iZipD (aCons (eVar 0) (aCons (eVar 1) aNil))) (gTp 2 (gCns (gNm 4) (gCns (gNm 2) gNils))) (sSeq (sIf (bNot (bTest (eChain dLe dLt (eC (.int 0)) (eVar 4) (eCall g_power_of (aCons (eC (.int 2)) (aCons (eVar 2) aNil)))))) (sRaise "BaseError") sNil) (sAsg (eBin dAdd (eBin dMul (eVar 3) (eCall g_power_of (aCons (eC (.int 2)) (aCons (eVar 2) aNil)))) (eVar 4)) (gNm 3)))) (sRet (eVar 3)))))
abbrev f_packed_number : Fv := fn 5 m_packed_number
abbrev g_packed_number : Fv := cAll 2 f_packed_number
theorem b_packed_number (Z : Fx P w K mg base T) : Body P w K mg base T ["numbers", "widths", "wide", "found", "number"] "packed_number" (defScope st_packed_number) 5 (defBody st_packed_number) m_packed_number := fun A outer s H E hr =>
  (db_cons (ds_if (DW.dt (dw_or (dt_cmp (od_ne (hu64 hr)) (de_callB cd_len (by exact rfl) Z.b_len (by exact rfl) (da_cons (dv 0) da_nil)) (de_callB cd_len (by exact rfl) Z.b_len (by exact rfl) (da_cons (dv 1) da_nil))) (dw_one_or (dt_val (de_any (j := 1) (hr.mono (by decide)) Z.t_packed_number Z.i_packed_number Z.u_packed_number (by exact rfl) (by exact rfl) Z.b_any (gxOk_by (own := [("wide", 2)]) (by rfl)) sc_packed_number.nd (di_seq (dv 1)) ⟨fun _ _ _ _ _ _ _ hj => (xnm 2 sc_packed_number.nd), fun _ _ _ _ _ _ _ hj => dts_nil, fun _ _ _ _ _ _ _ hj => (de_cmp od_lt (dv 2) de_int)⟩))))) (db_one (ds_raise (by exact rfl) (takes_cx (CX := L2.CX P w)) Z.x_BaseError.at (by exact rfl))) db_nil)
    (db_cons (sst 3 sc_packed_number.nd de_int)
    (db_cons (ds_for owns_cx (by exact rfl) (di_zip (by exact rfl) Z.b_zip (da_cons (dv 0) (da_cons (dv 1) da_nil))) (dg_tup (by exact rfl) (dgs_cons (gnm 4 sc_packed_number.nd) (dgs_cons (gnm 2 sc_packed_number.nd) dgs_nil))) (db_cons (ds_if (dt_not (dt_chain od_le od_lt de_int (dv 4) (de_call (c_power_of Z) hr (by decide) (by exact rfl) (takes_cx (CX := L2.CX P w)) (da_cons de_int (da_cons (dv 2) da_nil))))) (db_one (ds_raise (by exact rfl) (takes_cx (CX := L2.CX P w)) Z.x_BaseError.at (by exact rfl))) db_nil)
    (db_one (sst 3 sc_packed_number.nd (de_bin od_add (de_bin od_mul (dv 3) (de_call (c_power_of Z) hr (by decide) (by exact rfl) (takes_cx (CX := L2.CX P w)) (da_cons de_int (da_cons (dv 2) da_nil)))) (dv 4))))))
    (db_one (ds_ret (dv 3))))))
theorem c_packed_number (Z : Fx P w K mg base T) : Cal P w K mg base T 6 "packed_number" g_packed_number := cal_all Z.d_packed_number Z.g_packed_number sc_packed_number (fun _ _ _ _ _ _ us hl => match us, hl with | [_, _], _ => rfl) (b_packed_number Z)
/-! unpacked_numbers -/
abbrev st_unpacked_numbers : Stmt := top 16
theorem sc_unpacked_numbers : FnScope ["number", "widths", "wide", "found"] ["number", "widths"] (defScope st_unpacked_numbers) := ⟨rfl, rfl, rfl, by decide +kernel, rfl, by decide +kernel, by decide +kernel⟩
def m_unpacked_numbers : Sv := (sSeq (sIf (bOr (bTest (eBin dEq (eCall (bRes bLen) (aCons (eVar 1) aNil)) (eC (.int 0)))) (bOr (bTest (eGx tAnyR (iSeq (eVar 1)) [2] (gNm 2) bYes (eBin dLt (eVar 2) (eC (.int 1))))) (bTest (eBin dLt (eVar 0) (eC (.int 0)))))) (sRaise "BaseError") sNil) (sSeq (sAsg (eLst aNil) (gNm 3)) (sSeq (sForI (iSeq (eRevA (eVar 1))) (gNm 2) (sSeq (sAsg (eBin dAdd (eLst (aCons (eBin dMod (eVar 0) (eCall g_power_of (aCons (eC (.int 2)) (aCons (eVar 2) aNil)))) aNil)) (eVar 3)) (gNm 3)) (sAug dDiv 0 (eCall g_power_of (aCons (eC (.int 2)) (aCons (eVar 2) aNil)))))) (sSeq (sIf (bTest (eBin dGt (eVar 0) (eC (.int 0)))) (sRaise "BaseError") sNil) (sRet (eCall (bRes bTuple) (aCons (eVar 3) aNil)))))))
abbrev f_unpacked_numbers : Fv := fn 4 m_unpacked_numbers
abbrev g_unpacked_numbers : Fv := cAll 2 f_unpacked_numbers
theorem b_unpacked_numbers (Z : Fx P w K mg base T) : Body P w K mg base T ["number", "widths", "wide", "found"] "unpacked_numbers" (defScope st_unpacked_numbers) 5 (defBody st_unpacked_numbers) m_unpacked_numbers := fun A outer s H E hr =>
  (db_cons (ds_if (DW.dt (dw_or (dt_cmp (od_eq (hu64 hr)) (de_callB cd_len (by exact rfl) Z.b_len (by exact rfl) (da_cons (dv 1) da_nil)) de_int) (dw_or (dt_val (de_any (j := 1) (hr.mono (by decide)) Z.t_unpacked_numbers Z.i_unpacked_numbers Z.u_unpacked_numbers (by exact rfl) (by exact rfl) Z.b_any (gxOk_by (own := [("wide", 2)]) (by rfl)) sc_unpacked_numbers.nd (di_seq (dv 1)) ⟨fun _ _ _ _ _ _ _ hj => (xnm 2 sc_unpacked_numbers.nd), fun _ _ _ _ _ _ _ hj => dts_nil, fun _ _ _ _ _ _ _ hj => (de_cmp od_lt (dv 2) de_int)⟩)) (dw_one_or (dt_cmp od_lt (dv 0) de_int))))) (db_one (ds_raise (by exact rfl) (takes_cx (CX := L2.CX P w)) Z.x_BaseError.at (by exact rfl))) db_nil)
    (db_cons (sst 3 sc_unpacked_numbers.nd (de_lst da_nil))
    (db_cons (ds_for owns_cx (by exact rfl) (di_seq (de_rev (dv 1))) (gnm 2 sc_unpacked_numbers.nd) (db_cons (sst 3 sc_unpacked_numbers.nd (de_bin od_add (de_lst (da_cons (de_bin od_mod (dv 0) (de_call (c_power_of Z) hr (by decide) (by exact rfl) (takes_cx (CX := L2.CX P w)) (da_cons de_int (da_cons (dv 2) da_nil)))) da_nil)) (dv 3)))
    (db_one (sau 0 sc_unpacked_numbers.nd (de_call (c_power_of Z) hr (by decide) (by exact rfl) (takes_cx (CX := L2.CX P w)) (da_cons de_int (da_cons (dv 2) da_nil))) oi_div))))
    (db_cons (ds_if (dt_cmp od_gt (dv 0) de_int) (db_one (ds_raise (by exact rfl) (takes_cx (CX := L2.CX P w)) Z.x_BaseError.at (by exact rfl))) db_nil)
    (db_one (ds_ret (de_callT cd_tuple (by exact rfl) Z.b_tuple (by exact rfl) (da_cons (dv 3) da_nil))))))))
theorem c_unpacked_numbers (Z : Fx P w K mg base T) : Cal P w K mg base T 6 "unpacked_numbers" g_unpacked_numbers := cal_all Z.d_unpacked_numbers Z.g_unpacked_numbers sc_unpacked_numbers (fun _ _ _ _ _ _ us hl => match us, hl with | [_, _], _ => rfl) (b_unpacked_numbers Z)
/-! next_text -/
abbrev st_next_text : Stmt := top 18
theorem sc_next_text : FnScope ["text", "signs"] ["text", "signs"] (defScope st_next_text) := ⟨rfl, rfl, rfl, by decide +kernel, rfl, by decide +kernel, by decide +kernel⟩
def m_next_text : Sv := (sRet (eCall g_in_base (aCons (eBin dAdd (eCall g_from_base (aCons (eVar 0) (aCons (eVar 1) aNil))) (eC (.int 1))) (aCons (eVar 1) (aCons (eCall (bRes bMin) (aCons (eC (.int 60)) (aCons (eCall (bRes bLen) (aCons (eVar 0) aNil)) aNil))) aNil)))))
abbrev f_next_text : Fv := fn 2 m_next_text
abbrev g_next_text : Fv := cAll 2 f_next_text
theorem b_next_text (Z : Fx P w K mg base T) : Body P w K mg base T ["text", "signs"] "next_text" (defScope st_next_text) 7 (defBody st_next_text) m_next_text := fun A outer s H E hr =>
  (db_one (ds_ret (de_call (c_in_base Z) hr (by decide) (by exact rfl) (takes_cx (CX := L2.CX P w)) (da_cons (de_bin od_add (de_call (c_from_base Z) hr (by decide) (by exact rfl) (takes_cx (CX := L2.CX P w)) (da_cons (dv 0) (da_cons (dv 1) da_nil))) de_int) (da_cons (dv 1) (da_cons (de_callB (cd_min (by exact rfl)) (by exact rfl) Z.b_min (by exact rfl) (da_cons (de_gint (by exact rfl) Z.c_MOST_SIGNS) (da_cons (de_callB cd_len (by exact rfl) Z.b_len (by exact rfl) (da_cons (dv 0) da_nil)) da_nil))) da_nil))))))
theorem c_next_text (Z : Fx P w K mg base T) : Cal P w K mg base T 8 "next_text" g_next_text := cal_all Z.d_next_text Z.g_next_text sc_next_text (fun _ _ _ _ _ _ us hl => match us, hl with | [_, _], _ => rfl) (b_next_text Z)
/-! alike_signs -/
abbrev st_alike_signs : Stmt := top 19
theorem sc_alike_signs : FnScope ["signs", "pairs", "pair"] ["signs"] (defScope st_alike_signs) := ⟨rfl, rfl, rfl, by decide +kernel, rfl, by decide +kernel, by decide +kernel⟩
def m_alike_signs : Sv := (sSeq (sAsg (eTup (aCons (eC (.str [48, 79])) (aCons (eC (.str [48, 111])) (aCons (eC (.str [79, 111])) (aCons (eC (.str [49, 108])) (aCons (eC (.str [49, 73])) (aCons (eC (.str [108, 73])) (aCons (eC (.str [53, 83])) (aCons (eC (.str [50, 90])) (aCons (eC (.str [56, 66])) aNil)))))))))) (gNm 1)) (sRet (eGx tTup (iSeq (eVar 1)) [2] (gNm 2) (bAnd (bTest (eBin dIn (eIx (eVar 2) (eC (.int 0))) (eVar 0))) (bTest (eBin dIn (eIx (eVar 2) (eC (.int 1))) (eVar 0)))) (eVar 2))))
abbrev f_alike_signs : Fv := fn 3 m_alike_signs
abbrev g_alike_signs : Fv := cAll 1 f_alike_signs
theorem b_alike_signs (Z : Fx P w K mg base T) : Body P w K mg base T ["signs", "pairs", "pair"] "alike_signs" (defScope st_alike_signs) 7 (defBody st_alike_signs) m_alike_signs := fun A outer s H E hr =>
  (db_cons (sst 1 sc_alike_signs.nd (de_tup (da_cons (de_str [48, 79]) (da_cons (de_str [48, 111]) (da_cons (de_str [79, 111]) (da_cons (de_str [49, 108]) (da_cons (de_str [49, 73]) (da_cons (de_str [108, 73]) (da_cons (de_str [53, 83]) (da_cons (de_str [50, 90]) (da_cons (de_str [56, 66]) da_nil)))))))))))
    (db_one (ds_ret (de_tupGx (j := 1) (hr.mono (by decide)) Z.t_alike_signs Z.i_alike_signs Z.u_alike_signs (by exact rfl) (by exact rfl) Z.b_tuple (gxOk_by (own := [("pair", 2)]) (by rfl)) sc_alike_signs.nd (di_seq (dv 1)) ⟨fun _ _ _ _ _ _ _ hj => (xnm 2 sc_alike_signs.nd), fun _ _ _ _ _ _ _ hj => (dts_one (DW.dt (dw_and (dt_cmp od_in (de_ix (hu1 hj) (dv 2) de_int) (dv 0)) (dw_one_and (dt_cmp od_in (de_ix (hu1 hj) (dv 2) de_int) (dv 0)))))), fun _ _ _ _ _ _ _ hj => (dv 2)⟩))))
theorem c_alike_signs (Z : Fx P w K mg base T) : Cal P w K mg base T 8 "alike_signs" g_alike_signs := cal_all Z.d_alike_signs Z.g_alike_signs sc_alike_signs (fun _ _ _ _ _ _ us hl => match us, hl with | [_], _ => rfl) (b_alike_signs Z)
/-! _law_dice -/
abbrev st_x_law_dice : Stmt := top 21
theorem sc_x_law_dice : FnScope ["cell"] ["cell"] (defScope st_x_law_dice) := ⟨rfl, rfl, rfl, by decide +kernel, rfl, by decide +kernel, by decide +kernel⟩
def m_x_law_dice : Sv := (sSeq (sIf (bTest (eChain dLt dLt (eBin dSub (eC (.int 0)) (eC (.int 10))) (eVar 0) (eC (.int 10)))) (sRet (eNew (aCons (eCall (bRes bAbs) (aCons (eVar 0) aNil)) (aCons (eC (.int 0)) (aCons (eC (.int 2)) aNil))))) sNil) (sRet (eNew (aCons (eVar 0) (aCons (eBin dAdd (eC (.int 1)) (eBin dMod (eCall (bRes bInt) (aCons (eVar 0) aNil)) (eC (.int 1009)))) (aCons (eCall (bRes bInt) (aCons (eBin dGe (eVar 0) (eBin dPow (eC (.int 10)) (eC (.int 18)))) aNil)) aNil))))))
abbrev f_x_law_dice : Fv := fn 1 m_x_law_dice
abbrev g_x_law_dice : Fv := cAll 1 f_x_law_dice
theorem b_x_law_dice (Z : Fx P w K mg base T) : Body P w K mg base T ["cell"] "_law_dice" (defScope st_x_law_dice) 1 (defBody st_x_law_dice) m_x_law_dice := fun A outer s H E hr =>
  (db_cons (ds_if (dt_chain od_lt od_lt (de_bin od_sub de_int de_int) (dv 0) de_int) (db_one (ds_ret (de_new (da_cons (de_callB cd_abs (by exact rfl) Z.b_abs (by exact rfl) (da_cons (dv 0) da_nil)) (da_cons de_int (da_cons de_int da_nil)))))) db_nil)
    (db_one (ds_ret (de_new (da_cons (dv 0) (da_cons (de_bin od_add de_int (de_bin od_mod (de_callT cd_int (by exact rfl) Z.b_int (by exact rfl) (da_cons (dv 0) da_nil)) de_int)) (da_cons (de_callT cd_int (by exact rfl) Z.b_int (by exact rfl) (da_cons (de_cmp od_ge (dv 0) (de_bin od_pow de_int de_int)) da_nil)) da_nil)))))))
theorem c_x_law_dice (Z : Fx P w K mg base T) : Cal P w K mg base T 2 "_law_dice" g_x_law_dice := cal_all Z.d_x_law_dice Z.g_x_law_dice sc_x_law_dice (fun _ _ _ _ _ _ us hl => match us, hl with | [_], _ => rfl) (b_x_law_dice Z)
/-! _law_roll -/
abbrev st_x_law_roll : Stmt := top 22
theorem sc_x_law_roll : FnScope ["dice", "many", "found"] ["dice", "many"] (defScope st_x_law_roll) := ⟨rfl, rfl, rfl, by decide +kernel, rfl, by decide +kernel, by decide +kernel⟩
def m_x_law_roll (r : Av → Ev) : Sv := (sSeq (sIf (bOr (bTest (eBin dEq (eIx (eVar 0) (eC (.int 2))) (eC (.int 2)))) (bAnd (bTest (eBin dEq (eIx (eVar 0) (eC (.int 2))) (eC (.int 1)))) (bTest (eBin dGt (eIx (eVar 0) (eC (.int 0))) (eC (.int 0)))))) (sSeq (sAsg (eBin dMod (eCall (bRes bInt) (aCons (eIx (eVar 0) (eC (.int 0))) aNil)) (eVar 1)) (gNm 2)) (sSeq (sAsg (eBin dDiv (eIx (eVar 0) (eC (.int 0))) (eVar 1)) (gSubH (eVar 0) (eC (.int 0)))) (sRet (eVar 2)))) sNil) (sSeq (sAsg (eC (.int 0)) (gSubH (eVar 0) (eC (.int 2)))) (sSeq (sIf (bTest (eBin dGt (eVar 1) (eC (.int 100000000)))) (sRet (eBin dMod (eCall (bRes bInt) (aCons (eBin dAdd (eBin dMul (r (aCons (eVar 0) (aCons (eBin dAdd (eBin dDiv (eVar 1) (eC (.int 100000000))) (eC (.int 1))) aNil))) (eC (.int 100000000))) (r (aCons (eVar 0) (aCons (eC (.int 100000000)) aNil)))) aNil)) (eVar 1))) sNil) (sSeq (sAsg (eBin dMod (eCall (bRes bInt) (aCons (eBin dAdd (eBin dAdd (eBin dMul (eIx (eVar 0) (eC (.int 0))) (eC (.int 48271))) (eBin dMul (eIx (eVar 0) (eC (.int 1))) (eC (.int 69621)))) (eC (.int 11))) aNil)) (eC (.int 2147483647))) (gSubH (eVar 0) (eC (.int 0)))) (sSeq (sAsg (eBin dAdd (eIx (eVar 0) (eC (.int 1))) (eC (.int 1))) (gSubH (eVar 0) (eC (.int 1)))) (sRet (eBin dMod (eCall (bRes bInt) (aCons (eBin dDiv (eIx (eVar 0) (eC (.int 0))) (eC (.int 7))) aNil)) (eVar 1))))))))
abbrev e_x_law_roll : Av → Ev := fun _ _ _ => .err
theorem b0_x_law_roll (Z : Fx P w K mg base T) : Body P w K mg base T ["dice", "many", "found"] "_law_roll" (defScope st_x_law_roll) 1 (defBody st_x_law_roll) (m_x_law_roll e_x_law_roll) := fun A outer s H E hr =>
  (db_cons (ds_if (DW.dt (dw_or (dt_cmp (od_eq (hu64 hr)) (de_ix (hu1 hr) (dv 0) de_int) de_int) (dw_one_or (DW.dt (dw_and (dt_cmp (od_eq (hu64 hr)) (de_ix (hu1 hr) (dv 0) de_int) de_int) (dw_one_and (dt_cmp od_gt (de_ix (hu1 hr) (dv 0) de_int) de_int))))))) (db_cons (sst 2 sc_x_law_roll.nd (de_bin od_mod (de_callT cd_int (by exact rfl) Z.b_int (by exact rfl) (da_cons (de_ix (hu1 hr) (dv 0) de_int) da_nil)) (dv 1)))
    (db_cons (ds_asg (de_bin od_div (de_ix (hu1 hr) (dv 0) de_int) (dv 1)) (dg_sub (hu1 hr) (dv 0) de_int))
    (db_one (ds_ret (dv 2))))) db_nil)
    (db_cons (ds_asg de_int (dg_sub (hu1 hr) (dv 0) de_int))
    (db_cons (ds_if (dt_cmp od_gt (dv 1) de_int) (db_one (ds_ret (de_bin od_mod (de_callT cd_int (by exact rfl) Z.b_int (by exact rfl) (da_cons (de_bin od_add (de_bin od_mul de_err de_int) de_err) da_nil)) (dv 1)))) db_nil)
    (db_cons (ds_asg (de_bin od_mod (de_callT cd_int (by exact rfl) Z.b_int (by exact rfl) (da_cons (de_bin od_add (de_bin od_add (de_bin od_mul (de_ix (hu1 hr) (dv 0) de_int) de_int) (de_bin od_mul (de_ix (hu1 hr) (dv 0) de_int) de_int)) de_int) da_nil)) de_int) (dg_sub (hu1 hr) (dv 0) de_int))
    (db_cons (ds_asg (de_bin od_add (de_ix (hu1 hr) (dv 0) de_int) de_int) (dg_sub (hu1 hr) (dv 0) de_int))
    (db_one (ds_ret (de_bin od_mod (de_callT cd_int (by exact rfl) Z.b_int (by exact rfl) (da_cons (de_bin od_div (de_ix (hu1 hr) (dv 0) de_int) de_int) da_nil)) (dv 1)))))))))
theorem b1_x_law_roll (Z : Fx P w K mg base T) {g : Fv} {i : Nat} (hc : Cal P w K mg base T i "_law_roll" g) : Body P w K mg base T ["dice", "many", "found"] "_law_roll" (defScope st_x_law_roll) i (defBody st_x_law_roll) (m_x_law_roll (eCall g)) := fun A outer s H E hr =>
  (db_cons (ds_if (DW.dt (dw_or (dt_cmp (od_eq (hu64 hr)) (de_ix (hu1 hr) (dv 0) de_int) de_int) (dw_one_or (DW.dt (dw_and (dt_cmp (od_eq (hu64 hr)) (de_ix (hu1 hr) (dv 0) de_int) de_int) (dw_one_and (dt_cmp od_gt (de_ix (hu1 hr) (dv 0) de_int) de_int))))))) (db_cons (sst 2 sc_x_law_roll.nd (de_bin od_mod (de_callT cd_int (by exact rfl) Z.b_int (by exact rfl) (da_cons (de_ix (hu1 hr) (dv 0) de_int) da_nil)) (dv 1)))
    (db_cons (ds_asg (de_bin od_div (de_ix (hu1 hr) (dv 0) de_int) (dv 1)) (dg_sub (hu1 hr) (dv 0) de_int))
    (db_one (ds_ret (dv 2))))) db_nil)
    (db_cons (ds_asg de_int (dg_sub (hu1 hr) (dv 0) de_int))
    (db_cons (ds_if (dt_cmp od_gt (dv 1) de_int) (db_one (ds_ret (de_bin od_mod (de_callT cd_int (by exact rfl) Z.b_int (by exact rfl) (da_cons (de_bin od_add (de_bin od_mul (de_call hc hr (by exact Nat.le_refl _) (by exact rfl) (takes_cx (CX := L2.CX P w)) (da_cons (dv 0) (da_cons (de_bin od_add (de_bin od_div (dv 1) de_int) de_int) da_nil))) de_int) (de_call hc hr (by exact Nat.le_refl _) (by exact rfl) (takes_cx (CX := L2.CX P w)) (da_cons (dv 0) (da_cons de_int da_nil)))) da_nil)) (dv 1)))) db_nil)
    (db_cons (ds_asg (de_bin od_mod (de_callT cd_int (by exact rfl) Z.b_int (by exact rfl) (da_cons (de_bin od_add (de_bin od_add (de_bin od_mul (de_ix (hu1 hr) (dv 0) de_int) de_int) (de_bin od_mul (de_ix (hu1 hr) (dv 0) de_int) de_int)) de_int) da_nil)) de_int) (dg_sub (hu1 hr) (dv 0) de_int))
    (db_cons (ds_asg (de_bin od_add (de_ix (hu1 hr) (dv 0) de_int) de_int) (dg_sub (hu1 hr) (dv 0) de_int))
    (db_one (ds_ret (de_bin od_mod (de_callT cd_int (by exact rfl) Z.b_int (by exact rfl) (da_cons (de_bin od_div (de_ix (hu1 hr) (dv 0) de_int) de_int) da_nil)) (dv 1)))))))))
def gr_x_law_roll : Nat → Fv
  | 0 => cAll 2 (fn 3 (m_x_law_roll e_x_law_roll))
  | n + 1 => cAll 2 (fn 3 (m_x_law_roll (eCall (gr_x_law_roll n))))
theorem cr_x_law_roll (Z : Fx P w K mg base T) : ∀ i : Nat, Cal P w K mg base T (2 + i) "_law_roll" (gr_x_law_roll i)
  | 0 => cal_all Z.d_x_law_roll Z.g_x_law_roll sc_x_law_roll (fun _ _ _ _ _ _ us hl => match us, hl with | [_, _], _ => rfl) (b0_x_law_roll Z)
  | i + 1 => cal_all Z.d_x_law_roll Z.g_x_law_roll sc_x_law_roll (fun _ _ _ _ _ _ us hl => match us, hl with | [_, _], _ => rfl) (b1_x_law_roll Z (cr_x_law_roll Z i))
abbrev g_x_law_roll : Fv := gr_x_law_roll 4
theorem c_x_law_roll (Z : Fx P w K mg base T) : Cal P w K mg base T 6 "_law_roll" g_x_law_roll := cr_x_law_roll Z 4
/-! _law_rounds -/
abbrev st_x_law_rounds : Stmt := top 23
theorem sc_x_law_rounds : FnScope ["script", "most", "cells", "cell"] ["script", "most"] (defScope st_x_law_rounds) := ⟨rfl, rfl, rfl, by decide +kernel, rfl, by decide +kernel, by decide +kernel⟩
def m_x_law_rounds : Sv := (sSeq (sAsg (eSl (eVar 0) oNo (oYes (eVar 1))) (gNm 2)) (sSeq (sIf (bTest (eBin dEq (eVar 2) (eLst aNil))) (sAsg (eLst (aCons (eC (.int 0)) aNil)) (gNm 2)) sNil) (sRet (eLc (iSeq (eVar 2)) [3] (gNm 3) bYes (eCall g_x_law_dice (aCons (eVar 3) aNil))))))
abbrev f_x_law_rounds : Fv := fn 4 m_x_law_rounds
abbrev g_x_law_rounds : Fv := cAll 2 f_x_law_rounds
theorem b_x_law_rounds (Z : Fx P w K mg base T) : Body P w K mg base T ["script", "most", "cells", "cell"] "_law_rounds" (defScope st_x_law_rounds) 2 (defBody st_x_law_rounds) m_x_law_rounds := fun A outer s H E hr =>
  (db_cons (sst 2 sc_x_law_rounds.nd (de_sl (dv 0) do_no (do_yes (dv 1))))
    (db_cons (ds_if (dt_cmp (od_eq (hu64 hr)) (dv 2) (de_lst da_nil)) (db_one (sst 2 sc_x_law_rounds.nd (de_lst (da_cons de_int da_nil)))) db_nil)
    (db_one (ds_ret (de_lc (by exact rfl) sc_x_law_rounds.nd (di_seq (dv 2)) (blkOk_by (own := [("cell", 3)]) (by rfl)) ⟨fun _ _ _ _ _ => (xnm 3 sc_x_law_rounds.nd), fun _ _ _ _ _ => dts_nil, fun _ _ _ _ _ => (de_call (c_x_law_dice Z) hr (by decide) (by exact rfl) LamX.takes0 (da_cons (dv 3) da_nil))⟩)))))
theorem c_x_law_rounds (Z : Fx P w K mg base T) : Cal P w K mg base T 3 "_law_rounds" g_x_law_rounds := cal_all Z.d_x_law_rounds Z.g_x_law_rounds sc_x_law_rounds (fun _ _ _ _ _ _ us hl => match us, hl with | [_, _], _ => rfl) (b_x_law_rounds Z)
/-! _law_told_in -/
abbrev st_x_law_told_in : Stmt := top 25
theorem sc_x_law_told_in : FnScope ["number", "signs", "wide", "found"] ["number", "signs", "wide"] (defScope st_x_law_told_in) := ⟨rfl, rfl, rfl, by decide +kernel, rfl, by decide +kernel, by decide +kernel⟩
def m_x_law_told_in : Sv := (sSeq (sAsg (eC (.str [])) (gNm 3)) (sSeq (sWh (bTest (eBin dGt (eVar 0) (eC (.int 0)))) (sPar 3 0 (aCons (eBin dAdd (eIx (eVar 1) (eBin dMod (eVar 0) (eCall (bRes bLen) (aCons (eVar 1) aNil)))) (eVar 3)) (aCons (eBin dDiv (eVar 0) (eCall (bRes bLen) (aCons (eVar 1) aNil))) aNil))) fuel) (sRet (eBin dAdd (eBin dMul (eIx (eVar 1) (eC (.int 0))) (eBin dSub (eCall (bRes bMax) (aCons (eVar 2) (aCons (eC (.int 1)) aNil))) (eCall (bRes bLen) (aCons (eVar 3) aNil)))) (eVar 3)))))
abbrev f_x_law_told_in : Fv := fn 4 m_x_law_told_in
abbrev g_x_law_told_in : Fv := cAll 3 f_x_law_told_in
theorem b_x_law_told_in (Z : Fx P w K mg base T) : Body P w K mg base T ["number", "signs", "wide", "found"] "_law_told_in" (defScope st_x_law_told_in) 1 (defBody st_x_law_told_in) m_x_law_told_in := fun A outer s H E hr =>
  (db_cons (sst 3 sc_x_law_told_in.nd (de_str []))
    (db_cons (ds_while fuel owns_cx (dt_cmp od_gt (dv 0) de_int) (db_one (spar 3 0 (by exact rfl) sc_x_law_told_in.nd (da_cons (de_bin od_add (de_ix (hu1 hr) (dv 1) (de_bin od_mod (dv 0) (de_callB cd_len (by exact rfl) Z.b_len (by exact rfl) (da_cons (dv 1) da_nil)))) (dv 3)) (da_cons (de_bin od_div (dv 0) (de_callB cd_len (by exact rfl) Z.b_len (by exact rfl) (da_cons (dv 1) da_nil))) da_nil)))))
    (db_one (ds_ret (de_bin od_add (de_bin od_mul (de_ix (hu1 hr) (dv 1) de_int) (de_bin od_sub (de_callB (cd_max (by exact rfl)) (by exact rfl) Z.b_max (by exact rfl) (da_cons (dv 2) (da_cons de_int da_nil))) (de_callB cd_len (by exact rfl) Z.b_len (by exact rfl) (da_cons (dv 3) da_nil)))) (dv 3))))))
theorem c_x_law_told_in (Z : Fx P w K mg base T) : Cal P w K mg base T 2 "_law_told_in" g_x_law_told_in := cal_all Z.d_x_law_told_in Z.g_x_law_told_in sc_x_law_told_in (fun _ _ _ _ _ _ us hl => match us, hl with | [_, _, _], _ => rfl) (b_x_law_told_in Z)
/-! _law_bits -/
abbrev st_x_law_bits : Stmt := top 26
theorem sc_x_law_bits : FnScope ["number", "wide", "k"] ["number", "wide"] (defScope st_x_law_bits) := ⟨rfl, rfl, rfl, by decide +kernel, rfl, by decide +kernel, by decide +kernel⟩
def m_x_law_bits : Sv := (sRet (eCall (bRes bTuple) (aCons (eLc (iRng1 (aCons (eVar 1) aNil)) [2] (gNm 2) bYes (eBin dMod (eBin dDiv (eVar 0) (eCall g_power_of (aCons (eC (.int 2)) (aCons (eBin dSub (eBin dSub (eVar 1) (eC (.int 1))) (eVar 2)) aNil)))) (eC (.int 2)))) aNil)))
abbrev f_x_law_bits : Fv := fn 3 m_x_law_bits
abbrev g_x_law_bits : Fv := cAll 2 f_x_law_bits
theorem b_x_law_bits (Z : Fx P w K mg base T) : Body P w K mg base T ["number", "wide", "k"] "_law_bits" (defScope st_x_law_bits) 2 (defBody st_x_law_bits) m_x_law_bits := fun A outer s H E hr =>
  (db_one (ds_ret (de_callT cd_tuple (by exact rfl) Z.b_tuple (by exact rfl) (da_cons (de_lc (by exact rfl) sc_x_law_bits.nd (di_range1 (by exact rfl) Z.b_range (da_cons (dv 1) da_nil)) (blkOk_by (own := [("k", 2)]) (by rfl)) ⟨fun _ _ _ _ _ => (xnm 2 sc_x_law_bits.nd), fun _ _ _ _ _ => dts_nil, fun _ _ _ _ _ => (de_bin od_mod (de_bin od_div (dv 0) (de_call (c_power_of Z) hr (by decide) (by exact rfl) LamX.takes0 (da_cons de_int (da_cons (de_bin od_sub (de_bin od_sub (dv 1) de_int) (dv 2)) da_nil)))) de_int)⟩) da_nil))))
theorem c_x_law_bits (Z : Fx P w K mg base T) : Cal P w K mg base T 3 "_law_bits" g_x_law_bits := cal_all Z.d_x_law_bits Z.g_x_law_bits sc_x_law_bits (fun _ _ _ _ _ _ us hl => match us, hl with | [_, _], _ => rfl) (b_x_law_bits Z)
/-! _law_plain -/
abbrev st_x_law_plain : Stmt := top 27
theorem sc_x_law_plain : FnScope ["bad", "f", "told"] [] (defScope st_x_law_plain) := ⟨rfl, rfl, rfl, by decide +kernel, rfl, by decide +kernel, by decide +kernel⟩
def m_x_law_plain : Sv := (sSeq (sForget 0) (sSeq (sIf (bTest (eBin dNe (eBad 1 toldCat toldRet [66, 97, 115, 101, 69, 114, 114, 111, 114] ((((([(eCall g_check_alphabet (aCons (eC (.str [97])) aNil)), (eCall g_check_alphabet (aCons (eC (.str [97, 97])) aNil)), (eCall g_in_base_d2 (aCons (eUn dNeg (eC (.int 1))) (aCons (eC (.str [48, 49])) aNil))), (eCall g_in_base (aCons (eC (.int 1)) (aCons (eC (.str [48, 49])) (aCons (eC (.int 61)) aNil)))), (eCall g_in_base_d2 (aCons (eC (.int 1)) (aCons (eC (.str [48])) aNil)))] ++ [(eCall g_from_base (aCons (eC (.str [])) (aCons (eC (.str [48, 49])) aNil))), (eCall g_from_base (aCons (eC (.str [50])) (aCons (eC (.str [48, 49])) aNil))), (eCall g_from_base (aCons (eBin dMul (eC (.str [48])) (eC (.int 61))) (aCons (eC (.str [48, 49])) aNil))), (eCall g_read_crock (aCons (eC (.str [117])) aNil))]) ++ [(eCall g_in_groups_d2 (aCons (eC (.str [97])) (aCons (eC (.int 0)) aNil))), (eCall g_in_groups (aCons (eC (.str [97])) (aCons (eC (.int 1)) (aCons (eC (.str [45, 45])) aNil)))), (eCall g_signs_needed (aCons (eC (.int 0)) (aCons (eC (.int 2)) aNil))), (eCall g_signs_needed (aCons (eC (.int 1)) (aCons (eC (.int 1)) aNil))), (eCall g_bits_of (aCons (eUn dNeg (eC (.int 1))) (aCons (eC (.int 4)) aNil)))]) ++ [(eCall g_bits_of (aCons (eC (.int 16)) (aCons (eC (.int 4)) aNil))), (eCall g_bits_of (aCons (eC (.int 1)) (aCons (eC (.int 0)) aNil))), (eCall g_bits_of (aCons (eC (.int 1)) (aCons (eC (.int 201)) aNil))), (eCall g_from_bits (aCons (eTup aNil) aNil)), (eCall g_from_bits (aCons (eTup (aCons (eC (.int 2)) aNil)) aNil))]) ++ [(eCall g_packed_number (aCons (eTup (aCons (eC (.int 1)) aNil)) (aCons (eTup (aCons (eC (.int 1)) (aCons (eC (.int 2)) aNil))) aNil))), (eCall g_packed_number (aCons (eTup (aCons (eC (.int 2)) aNil)) (aCons (eTup (aCons (eC (.int 1)) aNil)) aNil))), (eCall g_packed_number (aCons (eTup (aCons (eC (.int 1)) aNil)) (aCons (eTup (aCons (eC (.int 0)) aNil)) aNil))), (eCall g_unpacked_numbers (aCons (eC (.int 1)) (aCons (eTup aNil) aNil)))]) ++ [(eCall g_unpacked_numbers (aCons (eUn dNeg (eC (.int 1))) (aCons (eTup (aCons (eC (.int 1)) aNil)) aNil))), (eCall g_unpacked_numbers (aCons (eC (.int 2)) (aCons (eTup (aCons (eC (.int 1)) aNil)) aNil))), (eCall g_next_text (aCons (eC (.str [])) (aCons (eC (.str [48, 49])) aNil)))])) (eLst aNil))) (sRet (eC (.bl false))) sNil) (sSeq (sIf (bTest (eBin dNe (eTup (aCons (eC (.int 60)) (aCons (eC (.int (tab_ALPHABETS.length : Nat))) (aCons (eCall g_power_of (aCons (eC (.int 3)) (aCons (eC (.int 4)) aNil))) aNil)))) (eTup (aCons (eC (.int 60)) (aCons (eC (.int 8)) (aCons (eC (.int 81)) aNil)))))) (sRet (eC (.bl false))) sNil) (sSeq (sAsg (eLst (aCons (eCall g_in_base (aCons (eC (.int 255)) (aCons (eKix tab_ALPHABETS (eC (.str [115, 105, 120, 116, 101, 101, 110]))) (aCons (eC (.int 4)) aNil)))) (aCons (eCall g_from_base (aCons (eC (.str [102, 102])) (aCons (eKix tab_ALPHABETS (eC (.str [115, 105, 120, 116, 101, 101, 110]))) aNil))) (aCons (eCall g_between_bases_d3 (aCons (eC (.str [102, 102])) (aCons (eKix tab_ALPHABETS (eC (.str [115, 105, 120, 116, 101, 101, 110]))) (aCons (eC (.str [48, 49])) aNil)))) aNil)))) (gNm 2)) (sSeq (sAsg (eBin dAdd (eVar 2) (eLst (aCons (eCall g_read_crock (aCons (eC (.str [79, 49, 45, 105, 76])) aNil)) (aCons (eCall g_in_groups_d2 (aCons (eC (.str [49, 50, 51, 52, 53, 54, 55])) (aCons (eC (.int 3)) aNil))) (aCons (eCall g_signs_needed (aCons (eC (.int 1000)) (aCons (eC (.int 32)) aNil))) (aCons (eCall g_bits_of (aCons (eC (.int 5)) (aCons (eC (.int 4)) aNil))) (aCons (eCall g_from_bits (aCons (eTup (aCons (eC (.int 1)) (aCons (eC (.int 0)) (aCons (eC (.int 1)) aNil)))) aNil)) (aCons (eCall g_packed_number (aCons (eTup (aCons (eC (.int 1)) (aCons (eC (.int 2)) aNil))) (aCons (eTup (aCons (eC (.int 3)) (aCons (eC (.int 4)) aNil))) aNil))) aNil)))))))) (gNm 2)) (sSeq (sAsg (eBin dAdd (eVar 2) (eLst (aCons (eCall g_unpacked_numbers (aCons (eC (.int 18)) (aCons (eTup (aCons (eC (.int 3)) (aCons (eC (.int 4)) aNil))) aNil))) (aCons (eCall g_next_text (aCons (eC (.str [48, 122])) (aCons (eKix tab_ALPHABETS (eC (.str [99, 114, 111, 99, 107]))) aNil))) (aCons (eCall g_alike_signs (aCons (eKix tab_ALPHABETS (eC (.str [112, 108, 97, 105, 110]))) aNil)) aNil))))) (gNm 2)) (sRet (eBin dEq (eVar 2) (eLst (aCons (eC (.str [48, 48, 102, 102])) (aCons (eC (.int 255)) (aCons (eC (.str [49, 49, 49, 49, 49, 49, 49, 49])) (aCons (eC (.int 1057)) (aCons (eC (.str [49, 45, 50, 51, 52, 45, 53, 54, 55])) (aCons (eC (.int 2)) (aCons (eTup (aCons (eC (.int 0)) (aCons (eC (.int 1)) (aCons (eC (.int 0)) (aCons (eC (.int 1)) aNil))))) (aCons (eC (.int 5)) (aCons (eC (.int 18)) (aCons (eTup (aCons (eC (.int 1)) (aCons (eC (.int 2)) aNil))) (aCons (eC (.str [49, 48])) (aCons (eTup (aCons (eC (.str [53, 83])) (aCons (eC (.str [50, 90])) (aCons (eC (.str [56, 66])) aNil)))) aNil)))))))))))))))))))))
abbrev f_x_law_plain : Fv := fn 3 m_x_law_plain
abbrev g_x_law_plain : Fv := cAll 0 f_x_law_plain
theorem b_x_law_plain (Z : Fx P w K mg base T) : Body P w K mg base T ["bad", "f", "told"] "_law_plain" (defScope st_x_law_plain) 10 (defBody st_x_law_plain) m_x_law_plain := fun A outer s H E hr =>
  (lb_start 0 sc_x_law_plain.nd (by rfl) (dls_cons Z.t_x_law_plain (by exact rfl) Z.i_x_law_plain Z.u_x_law_plain ⟨LamX.lamS_by (by rfl), (by exact rfl), fun _ _ _ _ _ => (by exact rfl), fun _ _ _ _ _ _ _ hj => (de_call (c_check_alphabet Z) hj (by decide) (by exact rfl) (takes_of (by exact rfl) (by exact rfl) (by exact rfl) (by exact rfl)) (da_cons (de_str [97]) da_nil))⟩
      (dls_cons Z.t_x_law_plain (by exact rfl) Z.i_x_law_plain Z.u_x_law_plain ⟨LamX.lamS_by (by rfl), (by exact rfl), fun _ _ _ _ _ => (by exact rfl), fun _ _ _ _ _ _ _ hj => (de_call (c_check_alphabet Z) hj (by decide) (by exact rfl) (takes_of (by exact rfl) (by exact rfl) (by exact rfl) (by exact rfl)) (da_cons (de_str [97, 97]) da_nil))⟩
      (dls_cons Z.t_x_law_plain (by exact rfl) Z.i_x_law_plain Z.u_x_law_plain ⟨LamX.lamS_by (by rfl), (by exact rfl), fun _ _ _ _ _ => (by exact rfl), fun _ _ _ _ _ _ _ hj => (de_call (c_in_base_d2 Z) hj (by decide) (by exact rfl) (takes_of (by exact rfl) (by exact rfl) (by exact rfl) (by exact rfl)) (da_cons (de_neg de_int) (da_cons (de_str [48, 49]) da_nil)))⟩
      (dls_cons Z.t_x_law_plain (by exact rfl) Z.i_x_law_plain Z.u_x_law_plain ⟨LamX.lamS_by (by rfl), (by exact rfl), fun _ _ _ _ _ => (by exact rfl), fun _ _ _ _ _ _ _ hj => (de_call (c_in_base Z) hj (by decide) (by exact rfl) (takes_of (by exact rfl) (by exact rfl) (by exact rfl) (by exact rfl)) (da_cons de_int (da_cons (de_str [48, 49]) (da_cons de_int da_nil))))⟩
      (dls_cons Z.t_x_law_plain (by exact rfl) Z.i_x_law_plain Z.u_x_law_plain ⟨LamX.lamS_by (by rfl), (by exact rfl), fun _ _ _ _ _ => (by exact rfl), fun _ _ _ _ _ _ _ hj => (de_call (c_in_base_d2 Z) hj (by decide) (by exact rfl) (takes_of (by exact rfl) (by exact rfl) (by exact rfl) (by exact rfl)) (da_cons de_int (da_cons (de_str [48]) da_nil)))⟩
      dls_nil)))))
    (lb_more sc_x_law_plain.nd (by rfl) (dls_cons Z.t_x_law_plain (by exact rfl) Z.i_x_law_plain Z.u_x_law_plain ⟨LamX.lamS_by (by rfl), (by exact rfl), fun _ _ _ _ _ => (by exact rfl), fun _ _ _ _ _ _ _ hj => (de_call (c_from_base Z) hj (by decide) (by exact rfl) (takes_of (by exact rfl) (by exact rfl) (by exact rfl) (by exact rfl)) (da_cons (de_str []) (da_cons (de_str [48, 49]) da_nil)))⟩
      (dls_cons Z.t_x_law_plain (by exact rfl) Z.i_x_law_plain Z.u_x_law_plain ⟨LamX.lamS_by (by rfl), (by exact rfl), fun _ _ _ _ _ => (by exact rfl), fun _ _ _ _ _ _ _ hj => (de_call (c_from_base Z) hj (by decide) (by exact rfl) (takes_of (by exact rfl) (by exact rfl) (by exact rfl) (by exact rfl)) (da_cons (de_str [50]) (da_cons (de_str [48, 49]) da_nil)))⟩
      (dls_cons Z.t_x_law_plain (by exact rfl) Z.i_x_law_plain Z.u_x_law_plain ⟨LamX.lamS_by (by rfl), (by exact rfl), fun _ _ _ _ _ => (by exact rfl), fun _ _ _ _ _ _ _ hj => (de_call (c_from_base Z) hj (by decide) (by exact rfl) (takes_of (by exact rfl) (by exact rfl) (by exact rfl) (by exact rfl)) (da_cons (de_bin od_mul (de_str [48]) de_int) (da_cons (de_str [48, 49]) da_nil)))⟩
      (dls_cons Z.t_x_law_plain (by exact rfl) Z.i_x_law_plain Z.u_x_law_plain ⟨LamX.lamS_by (by rfl), (by exact rfl), fun _ _ _ _ _ => (by exact rfl), fun _ _ _ _ _ _ _ hj => (de_call (c_read_crock Z) hj (by decide) (by exact rfl) (takes_of (by exact rfl) (by exact rfl) (by exact rfl) (by exact rfl)) (da_cons (de_str [117]) da_nil))⟩
      dls_nil))))
    (lb_more sc_x_law_plain.nd (by rfl) (dls_cons Z.t_x_law_plain (by exact rfl) Z.i_x_law_plain Z.u_x_law_plain ⟨LamX.lamS_by (by rfl), (by exact rfl), fun _ _ _ _ _ => (by exact rfl), fun _ _ _ _ _ _ _ hj => (de_call (c_in_groups_d2 Z) hj (by decide) (by exact rfl) (takes_of (by exact rfl) (by exact rfl) (by exact rfl) (by exact rfl)) (da_cons (de_str [97]) (da_cons de_int da_nil)))⟩
      (dls_cons Z.t_x_law_plain (by exact rfl) Z.i_x_law_plain Z.u_x_law_plain ⟨LamX.lamS_by (by rfl), (by exact rfl), fun _ _ _ _ _ => (by exact rfl), fun _ _ _ _ _ _ _ hj => (de_call (c_in_groups Z) hj (by decide) (by exact rfl) (takes_of (by exact rfl) (by exact rfl) (by exact rfl) (by exact rfl)) (da_cons (de_str [97]) (da_cons de_int (da_cons (de_str [45, 45]) da_nil))))⟩
      (dls_cons Z.t_x_law_plain (by exact rfl) Z.i_x_law_plain Z.u_x_law_plain ⟨LamX.lamS_by (by rfl), (by exact rfl), fun _ _ _ _ _ => (by exact rfl), fun _ _ _ _ _ _ _ hj => (de_call (c_signs_needed Z) hj (by decide) (by exact rfl) (takes_of (by exact rfl) (by exact rfl) (by exact rfl) (by exact rfl)) (da_cons de_int (da_cons de_int da_nil)))⟩
      (dls_cons Z.t_x_law_plain (by exact rfl) Z.i_x_law_plain Z.u_x_law_plain ⟨LamX.lamS_by (by rfl), (by exact rfl), fun _ _ _ _ _ => (by exact rfl), fun _ _ _ _ _ _ _ hj => (de_call (c_signs_needed Z) hj (by decide) (by exact rfl) (takes_of (by exact rfl) (by exact rfl) (by exact rfl) (by exact rfl)) (da_cons de_int (da_cons de_int da_nil)))⟩
      (dls_cons Z.t_x_law_plain (by exact rfl) Z.i_x_law_plain Z.u_x_law_plain ⟨LamX.lamS_by (by rfl), (by exact rfl), fun _ _ _ _ _ => (by exact rfl), fun _ _ _ _ _ _ _ hj => (de_call (c_bits_of Z) hj (by decide) (by exact rfl) (takes_of (by exact rfl) (by exact rfl) (by exact rfl) (by exact rfl)) (da_cons (de_neg de_int) (da_cons de_int da_nil)))⟩
      dls_nil)))))
    (lb_more sc_x_law_plain.nd (by rfl) (dls_cons Z.t_x_law_plain (by exact rfl) Z.i_x_law_plain Z.u_x_law_plain ⟨LamX.lamS_by (by rfl), (by exact rfl), fun _ _ _ _ _ => (by exact rfl), fun _ _ _ _ _ _ _ hj => (de_call (c_bits_of Z) hj (by decide) (by exact rfl) (takes_of (by exact rfl) (by exact rfl) (by exact rfl) (by exact rfl)) (da_cons de_int (da_cons de_int da_nil)))⟩
      (dls_cons Z.t_x_law_plain (by exact rfl) Z.i_x_law_plain Z.u_x_law_plain ⟨LamX.lamS_by (by rfl), (by exact rfl), fun _ _ _ _ _ => (by exact rfl), fun _ _ _ _ _ _ _ hj => (de_call (c_bits_of Z) hj (by decide) (by exact rfl) (takes_of (by exact rfl) (by exact rfl) (by exact rfl) (by exact rfl)) (da_cons de_int (da_cons de_int da_nil)))⟩
      (dls_cons Z.t_x_law_plain (by exact rfl) Z.i_x_law_plain Z.u_x_law_plain ⟨LamX.lamS_by (by rfl), (by exact rfl), fun _ _ _ _ _ => (by exact rfl), fun _ _ _ _ _ _ _ hj => (de_call (c_bits_of Z) hj (by decide) (by exact rfl) (takes_of (by exact rfl) (by exact rfl) (by exact rfl) (by exact rfl)) (da_cons de_int (da_cons de_int da_nil)))⟩
      (dls_cons Z.t_x_law_plain (by exact rfl) Z.i_x_law_plain Z.u_x_law_plain ⟨LamX.lamS_by (by rfl), (by exact rfl), fun _ _ _ _ _ => (by exact rfl), fun _ _ _ _ _ _ _ hj => (de_call (c_from_bits Z) hj (by decide) (by exact rfl) (takes_of (by exact rfl) (by exact rfl) (by exact rfl) (by exact rfl)) (da_cons (de_tup da_nil) da_nil))⟩
      (dls_cons Z.t_x_law_plain (by exact rfl) Z.i_x_law_plain Z.u_x_law_plain ⟨LamX.lamS_by (by rfl), (by exact rfl), fun _ _ _ _ _ => (by exact rfl), fun _ _ _ _ _ _ _ hj => (de_call (c_from_bits Z) hj (by decide) (by exact rfl) (takes_of (by exact rfl) (by exact rfl) (by exact rfl) (by exact rfl)) (da_cons (de_tup (da_cons de_int da_nil)) da_nil))⟩
      dls_nil)))))
    (lb_more sc_x_law_plain.nd (by rfl) (dls_cons Z.t_x_law_plain (by exact rfl) Z.i_x_law_plain Z.u_x_law_plain ⟨LamX.lamS_by (by rfl), (by exact rfl), fun _ _ _ _ _ => (by exact rfl), fun _ _ _ _ _ _ _ hj => (de_call (c_packed_number Z) hj (by decide) (by exact rfl) (takes_of (by exact rfl) (by exact rfl) (by exact rfl) (by exact rfl)) (da_cons (de_tup (da_cons de_int da_nil)) (da_cons (de_tup (da_cons de_int (da_cons de_int da_nil))) da_nil)))⟩
      (dls_cons Z.t_x_law_plain (by exact rfl) Z.i_x_law_plain Z.u_x_law_plain ⟨LamX.lamS_by (by rfl), (by exact rfl), fun _ _ _ _ _ => (by exact rfl), fun _ _ _ _ _ _ _ hj => (de_call (c_packed_number Z) hj (by decide) (by exact rfl) (takes_of (by exact rfl) (by exact rfl) (by exact rfl) (by exact rfl)) (da_cons (de_tup (da_cons de_int da_nil)) (da_cons (de_tup (da_cons de_int da_nil)) da_nil)))⟩
      (dls_cons Z.t_x_law_plain (by exact rfl) Z.i_x_law_plain Z.u_x_law_plain ⟨LamX.lamS_by (by rfl), (by exact rfl), fun _ _ _ _ _ => (by exact rfl), fun _ _ _ _ _ _ _ hj => (de_call (c_packed_number Z) hj (by decide) (by exact rfl) (takes_of (by exact rfl) (by exact rfl) (by exact rfl) (by exact rfl)) (da_cons (de_tup (da_cons de_int da_nil)) (da_cons (de_tup (da_cons de_int da_nil)) da_nil)))⟩
      (dls_cons Z.t_x_law_plain (by exact rfl) Z.i_x_law_plain Z.u_x_law_plain ⟨LamX.lamS_by (by rfl), (by exact rfl), fun _ _ _ _ _ => (by exact rfl), fun _ _ _ _ _ _ _ hj => (de_call (c_unpacked_numbers Z) hj (by decide) (by exact rfl) (takes_of (by exact rfl) (by exact rfl) (by exact rfl) (by exact rfl)) (da_cons de_int (da_cons (de_tup da_nil) da_nil)))⟩
      dls_nil))))
    (lb_more sc_x_law_plain.nd (by rfl) (dls_cons Z.t_x_law_plain (by exact rfl) Z.i_x_law_plain Z.u_x_law_plain ⟨LamX.lamS_by (by rfl), (by exact rfl), fun _ _ _ _ _ => (by exact rfl), fun _ _ _ _ _ _ _ hj => (de_call (c_unpacked_numbers Z) hj (by decide) (by exact rfl) (takes_of (by exact rfl) (by exact rfl) (by exact rfl) (by exact rfl)) (da_cons (de_neg de_int) (da_cons (de_tup (da_cons de_int da_nil)) da_nil)))⟩
      (dls_cons Z.t_x_law_plain (by exact rfl) Z.i_x_law_plain Z.u_x_law_plain ⟨LamX.lamS_by (by rfl), (by exact rfl), fun _ _ _ _ _ => (by exact rfl), fun _ _ _ _ _ _ _ hj => (de_call (c_unpacked_numbers Z) hj (by decide) (by exact rfl) (takes_of (by exact rfl) (by exact rfl) (by exact rfl) (by exact rfl)) (da_cons de_int (da_cons (de_tup (da_cons de_int da_nil)) da_nil)))⟩
      (dls_cons Z.t_x_law_plain (by exact rfl) Z.i_x_law_plain Z.u_x_law_plain ⟨LamX.lamS_by (by rfl), (by exact rfl), fun _ _ _ _ _ => (by exact rfl), fun _ _ _ _ _ _ _ hj => (de_call (c_next_text Z) hj (by decide) (by exact rfl) (takes_of (by exact rfl) (by exact rfl) (by exact rfl) (by exact rfl)) (da_cons (de_str []) (da_cons (de_str [48, 49]) da_nil)))⟩
      dls_nil)))
    (lb_if (dtb_bad (k := 8) 0 1 [66, 97, 115, 101, 69, 114, 114, 111, 114] Z.told Z.tcat sc_x_law_plain.nd (hr.mono (by decide))) (db_one (ds_ret de_bl)) db_nil
    (db_cons (ds_if (dt_cmp (od_ne (hu64 hr)) (de_tup (da_cons (de_gint (by exact rfl) Z.c_MOST_SIGNS) (da_cons (de_klen (by exact rfl) Z.c_ALPHABETS (by exact rfl) Z.b_len) (da_cons (de_call (c_power_of Z) hr (by decide) (by exact rfl) (takes_cx (CX := L2.CX P w)) (da_cons de_int (da_cons de_int da_nil))) da_nil)))) (de_tup (da_cons de_int (da_cons de_int (da_cons de_int da_nil))))) (db_one (ds_ret de_bl)) db_nil)
    (db_cons (sst 2 sc_x_law_plain.nd (de_lst (da_cons (de_call (c_in_base Z) hr (by decide) (by exact rfl) (takes_cx (CX := L2.CX P w)) (da_cons de_int (da_cons (de_kix (by exact rfl) Z.c_ALPHABETS (de_str [115, 105, 120, 116, 101, 101, 110])) (da_cons de_int da_nil)))) (da_cons (de_call (c_from_base Z) hr (by decide) (by exact rfl) (takes_cx (CX := L2.CX P w)) (da_cons (de_str [102, 102]) (da_cons (de_kix (by exact rfl) Z.c_ALPHABETS (de_str [115, 105, 120, 116, 101, 101, 110])) da_nil))) (da_cons (de_call (c_between_bases_d3 Z) hr (by decide) (by exact rfl) (takes_cx (CX := L2.CX P w)) (da_cons (de_str [102, 102]) (da_cons (de_kix (by exact rfl) Z.c_ALPHABETS (de_str [115, 105, 120, 116, 101, 101, 110])) (da_cons (de_str [48, 49]) da_nil)))) da_nil)))))
    (db_cons (sst 2 sc_x_law_plain.nd (de_bin od_add (dv 2) (de_lst (da_cons (de_call (c_read_crock Z) hr (by decide) (by exact rfl) (takes_cx (CX := L2.CX P w)) (da_cons (de_str [79, 49, 45, 105, 76]) da_nil)) (da_cons (de_call (c_in_groups_d2 Z) hr (by decide) (by exact rfl) (takes_cx (CX := L2.CX P w)) (da_cons (de_str [49, 50, 51, 52, 53, 54, 55]) (da_cons de_int da_nil))) (da_cons (de_call (c_signs_needed Z) hr (by decide) (by exact rfl) (takes_cx (CX := L2.CX P w)) (da_cons de_int (da_cons de_int da_nil))) (da_cons (de_call (c_bits_of Z) hr (by decide) (by exact rfl) (takes_cx (CX := L2.CX P w)) (da_cons de_int (da_cons de_int da_nil))) (da_cons (de_call (c_from_bits Z) hr (by decide) (by exact rfl) (takes_cx (CX := L2.CX P w)) (da_cons (de_tup (da_cons de_int (da_cons de_int (da_cons de_int da_nil)))) da_nil)) (da_cons (de_call (c_packed_number Z) hr (by decide) (by exact rfl) (takes_cx (CX := L2.CX P w)) (da_cons (de_tup (da_cons de_int (da_cons de_int da_nil))) (da_cons (de_tup (da_cons de_int (da_cons de_int da_nil))) da_nil))) da_nil)))))))))
    (db_cons (sst 2 sc_x_law_plain.nd (de_bin od_add (dv 2) (de_lst (da_cons (de_call (c_unpacked_numbers Z) hr (by decide) (by exact rfl) (takes_cx (CX := L2.CX P w)) (da_cons de_int (da_cons (de_tup (da_cons de_int (da_cons de_int da_nil))) da_nil))) (da_cons (de_call (c_next_text Z) hr (by decide) (by exact rfl) (takes_cx (CX := L2.CX P w)) (da_cons (de_str [48, 122]) (da_cons (de_kix (by exact rfl) Z.c_ALPHABETS (de_str [99, 114, 111, 99, 107])) da_nil))) (da_cons (de_call (c_alike_signs Z) hr (by decide) (by exact rfl) (takes_cx (CX := L2.CX P w)) (da_cons (de_kix (by exact rfl) Z.c_ALPHABETS (de_str [112, 108, 97, 105, 110])) da_nil)) da_nil))))))
    (db_one (ds_ret (de_cmp (od_eq (hu64 hr)) (dv 2) (de_lst (da_cons (de_str [48, 48, 102, 102]) (da_cons de_int (da_cons (de_str [49, 49, 49, 49, 49, 49, 49, 49]) (da_cons de_int (da_cons (de_str [49, 45, 50, 51, 52, 45, 53, 54, 55]) (da_cons de_int (da_cons (de_tup (da_cons de_int (da_cons de_int (da_cons de_int (da_cons de_int da_nil))))) (da_cons de_int (da_cons de_int (da_cons (de_tup (da_cons de_int (da_cons de_int da_nil))) (da_cons (de_str [49, 48]) (da_cons (de_tup (da_cons (de_str [53, 83]) (da_cons (de_str [50, 90]) (da_cons (de_str [56, 66]) da_nil)))) da_nil)))))))))))))))))))))))))))
theorem c_x_law_plain (Z : Fx P w K mg base T) : Cal P w K mg base T 11 "_law_plain" g_x_law_plain := cal_all Z.d_x_law_plain Z.g_x_law_plain sc_x_law_plain (fun _ _ _ _ _ _ us hl => match us, hl with | [], _ => rfl) (b_x_law_plain Z)
/-! law -/
abbrev st_law : Stmt := top 28
theorem sc_law : FnScope ["script", "names", "dice", "signs", "other", "wide", "one", "two", "k", "text", "told", "mixed", "sign", "size", "plain", "parts", "many", "base", "need", "bits", "due", "widths", "numbers", "width", "whole", "number", "pairs", "pair"] ["script"] (defScope st_law) := ⟨rfl, rfl, rfl, by decide +kernel, rfl, by decide +kernel, by decide +kernel⟩
def m_law : Sv := (sSeq (sAsg (eC (.lst (tab_ALPHABETS.map fun q => .str q.1))) (gNm 1)) (sSeq (sForI (iSeq (eCall g_x_law_rounds (aCons (eVar 0) (aCons (eC (.int 1)) aNil)))) (gNm 2) (sSeq (sAsg (eTup (aCons (eKix tab_ALPHABETS (eIx (eVar 1) (eCall g_x_law_roll (aCons (eVar 2) (aCons (eC (.int 8)) aNil))))) (aCons (eKix tab_ALPHABETS (eIx (eVar 1) (eCall g_x_law_roll (aCons (eVar 2) (aCons (eC (.int 8)) aNil))))) (aCons (eCall g_x_law_roll (aCons (eVar 2) (aCons (eC (.int 12)) aNil))) aNil)))) (gTp 3 (gCns (gNm 3) (gCns (gNm 4) (gCns (gNm 5) gNils))))) (sSeq (sAsg (eLc (iRng1 (aCons (eC (.int 2)) aNil)) [8] (gNm 8) bYes (eCall g_x_law_roll (aCons (eVar 2) (aCons (eIx (eLst (aCons (eC (.int 9)) (aCons (eC (.int 900)) (aCons (eC (.int 900000)) aNil)))) (eCall g_x_law_roll (aCons (eVar 2) (aCons (eC (.int 3)) aNil)))) aNil)))) (gTp 2 (gCns (gNm 6) (gCns (gNm 7) gNils)))) (sSeq (sAsg (eCall g_in_base (aCons (eVar 6) (aCons (eVar 3) (aCons (eVar 5) aNil)))) (gNm 9)) (sSeq (sIf (bOr (bTest (eBin dNe (eVar 9) (eCall g_x_law_told_in (aCons (eVar 6) (aCons (eVar 3) (aCons (eVar 5) aNil)))))) (bTest (eBin dNe (eCall g_from_base (aCons (eVar 9) (aCons (eVar 3) aNil))) (eVar 6)))) (sRet (eC (.bl false))) sNil) (sSeq (sIf (bTest (eBin dNe (eCall g_between_bases (aCons (eVar 9) (aCons (eVar 3) (aCons (eVar 4) (aCons (eVar 5) aNil))))) (eCall g_x_law_told_in (aCons (eVar 6) (aCons (eVar 4) (aCons (eVar 5) aNil)))))) (sRet (eC (.bl false))) sNil) (sSeq (sIf (bTest (eBin dNe (eBin dEq (eCall g_in_base_d2 (aCons (eVar 6) (aCons (eVar 3) aNil))) (eCall g_in_base_d2 (aCons (eVar 7) (aCons (eVar 3) aNil)))) (eBin dEq (eVar 6) (eVar 7)))) (sRet (eC (.bl false))) sNil) (sSeq (sIf (bTest (eBin dNe (eBin dLt (eCall g_in_base (aCons (eVar 6) (aCons (eKix tab_ALPHABETS (eC (.str [115, 105, 120, 116, 101, 101, 110]))) (aCons (eC (.int 8)) aNil)))) (eCall g_in_base (aCons (eVar 7) (aCons (eKix tab_ALPHABETS (eC (.str [115, 105, 120, 116, 101, 101, 110]))) (aCons (eC (.int 8)) aNil))))) (eBin dLt (eVar 6) (eVar 7)))) (sRet (eC (.bl false))) sNil) (sSeq (sAsg (eCall g_x_law_told_in (aCons (eVar 6) (aCons (eKix tab_ALPHABETS (eC (.str [99, 114, 111, 99, 107]))) (aCons (eC (.int 1)) aNil)))) (gNm 10)) (sSeq (sAsg (eMt "str" (mJoin) (eC (.str [])) (aCons (eLc (iSeq (eVar 10)) [12] (gNm 12) bYes (eBin dAdd (eGet2 (eDic [((eC (.str [48])), (eIx (eC (.str [48, 111, 79])) (eCall g_x_law_roll (aCons (eVar 2) (aCons (eC (.int 3)) aNil))))), ((eC (.str [49])), (eIx (eC (.str [49, 105, 73, 108, 76])) (eCall g_x_law_roll (aCons (eVar 2) (aCons (eC (.int 5)) aNil)))))]) (eVar 12) (eIx (eLst (aCons (eVar 12) (aCons (eMt "str" (mS0 gUpper) (eVar 12) aNil) aNil))) (eCall g_x_law_roll (aCons (eVar 2) (aCons (eC (.int 2)) aNil))))) (eBin dMul (eC (.str [45])) (eCall (bRes bInt) (aCons (eBin dEq (eCall g_x_law_roll (aCons (eVar 2) (aCons (eC (.int 4)) aNil))) (eC (.int 0))) aNil))))) aNil)) (gNm 11)) (sSeq (sAsg (eTup (aCons (eBin dAdd (eC (.int 1)) (eCall g_x_law_roll (aCons (eVar 2) (aCons (eC (.int 5)) aNil)))) (aCons (eMt "str" (mJoin) (eC (.str [])) (aCons (eLc (iRng1 (aCons (eCall g_x_law_roll (aCons (eVar 2) (aCons (eC (.int 12)) aNil))) aNil)) [8] (gNm 8) bYes (eIx (eC (.str [97, 98, 99])) (eCall g_x_law_roll (aCons (eVar 2) (aCons (eC (.int 3)) aNil))))) aNil)) aNil))) (gTp 2 (gCns (gNm 13) (gCns (gNm 14) gNils)))) (sSeq (sAsg (eRevA (eLc (iRng1 (aCons (eUn dNeg (eBin dDiv (eUn dNeg (eCall (bRes bLen) (aCons (eVar 14) aNil))) (eVar 13))) aNil)) [8] (gNm 8) bYes (eSl (eVar 14) (oYes (eCall (bRes bMax) (aCons (eC (.int 0)) (aCons (eBin dSub (eCall (bRes bLen) (aCons (eVar 14) aNil)) (eBin dMul (eVar 13) (eBin dAdd (eVar 8) (eC (.int 1))))) aNil)))) (oYes (eBin dSub (eCall (bRes bLen) (aCons (eVar 14) aNil)) (eBin dMul (eVar 13) (eVar 8))))))) (gNm 15)) (sSeq (sIf (bOr (bTest (eBin dNe (eCall g_read_crock (aCons (eVar 11) aNil)) (eVar 6))) (bTest (eBin dNe (eCall g_in_groups (aCons (eVar 14) (aCons (eVar 13) (aCons (eC (.str [58])) aNil)))) (eMt "str" (mJoin) (eC (.str [58])) (aCons (eVar 15) aNil))))) (sRet (eC (.bl false))) sNil) (sSeq (sPar3 16 17 18 (aCons (eBin dAdd (eC (.int 1)) (eCall g_x_law_roll (aCons (eVar 2) (aCons (eC (.int 5000)) aNil)))) (aCons (eBin dAdd (eC (.int 2)) (eCall g_x_law_roll (aCons (eVar 2) (aCons (eC (.int 40)) aNil)))) (aCons (eC (.int 1)) aNil)))) (sSeq (sWh (bTest (eBin dLt (eCall g_power_of (aCons (eVar 17) (aCons (eVar 18) aNil))) (eVar 16))) (sAsg (eBin dAdd (eVar 18) (eC (.int 1))) (gNm 18)) fuel) (sSeq (sIf (bOr (bTest (eBin dNe (eCall g_signs_needed (aCons (eVar 16) (aCons (eVar 17) aNil))) (eVar 18))) (bTest (eBin dNe (eCall g_next_text (aCons (eVar 9) (aCons (eVar 3) aNil))) (eCall g_x_law_told_in (aCons (eBin dAdd (eVar 6) (eC (.int 1))) (aCons (eVar 3) (aCons (eCall (bRes bLen) (aCons (eVar 9) aNil)) aNil))))))) (sRet (eC (.bl false))) sNil) (sSeq (sAsg (eBin dAdd (eC (.int 1)) (eCall g_x_law_roll (aCons (eVar 2) (aCons (eC (.int 24)) aNil)))) (gNm 19)) (sSeq (sAsg (eIf (bTest (eBin dLt (eVar 6) (eCall g_power_of (aCons (eC (.int 2)) (aCons (eVar 19) aNil))))) (eCall g_x_law_bits (aCons (eVar 6) (aCons (eVar 19) aNil))) (eC (.str [66, 97, 115, 101, 69, 114, 114, 111, 114]))) (gNm 20)) (sSeq (sIf (bOr (bTest (eBin dNe (eTold toldCat toldRet (eCall g_bits_of (aCons (eVar 6) (aCons (eVar 19) aNil)))) (eVar 20))) (bAnd (bTest (eBin dNe (eVar 20) (eC (.str [66, 97, 115, 101, 69, 114, 114, 111, 114])))) (bTest (eBin dNe (eCall g_from_bits (aCons (eVar 20) aNil)) (eVar 6))))) (sRet (eC (.bl false))) sNil) (sSeq (sAsg (eLc (iRng1 (aCons (eBin dAdd (eC (.int 1)) (eCall g_x_law_roll (aCons (eVar 2) (aCons (eC (.int 4)) aNil)))) aNil)) [8] (gNm 8) bYes (eBin dAdd (eC (.int 1)) (eCall g_x_law_roll (aCons (eVar 2) (aCons (eC (.int 9)) aNil))))) (gNm 21)) (sSeq (sAsg (eLc (iSeq (eVar 21)) [23] (gNm 23) bYes (eCall g_x_law_roll (aCons (eVar 2) (aCons (eCall g_power_of (aCons (eC (.int 2)) (aCons (eVar 23) aNil))) aNil)))) (gNm 22)) (sSeq (sAsg (eC (.int 0)) (gNm 24)) (sSeq (sForI (iZipD (aCons (eVar 22) (aCons (eVar 21) aNil))) (gTp 2 (gCns (gNm 25) (gCns (gNm 23) gNils))) (sAsg (eBin dAdd (eBin dMul (eVar 24) (eCall g_power_of (aCons (eC (.int 2)) (aCons (eVar 23) aNil)))) (eVar 25)) (gNm 24))) (sSeq (sIf (bOr (bTest (eBin dNe (eCall g_packed_number (aCons (eVar 22) (aCons (eVar 21) aNil))) (eVar 24))) (bTest (eBin dNe (eCall (bRes bList) (aCons (eCall g_unpacked_numbers (aCons (eVar 24) (aCons (eVar 21) aNil))) aNil)) (eVar 22)))) (sRet (eC (.bl false))) sNil) (sSeq (sAsg (eLc (iSeq (eLst (aCons (eC (.str [48, 79])) (aCons (eC (.str [48, 111])) (aCons (eC (.str [79, 111])) (aCons (eC (.str [49, 108])) (aCons (eC (.str [49, 73])) (aCons (eC (.str [108, 73])) (aCons (eC (.str [53, 83])) (aCons (eC (.str [50, 90])) (aCons (eC (.str [56, 66])) aNil))))))))))) [27] (gNm 27) (bAnd (bTest (eBin dIn (eIx (eVar 27) (eC (.int 0))) (eVar 3))) (bTest (eBin dIn (eIx (eVar 27) (eC (.int 1))) (eVar 3)))) (eVar 27)) (gNm 26)) (sIf (bTest (eBin dNe (eCall (bRes bList) (aCons (eCall g_alike_signs (aCons (eVar 3) aNil)) aNil)) (eVar 26))) (sRet (eC (.bl false))) sNil)))))))))))))))))))))))))) (sRet (eCall g_x_law_plain aNil))))
abbrev f_law : Fv := fn 28 m_law
abbrev g_law : Fv := cAll 1 f_law
theorem b_law (Z : Fx P w K mg base T) : Body P w K mg base T ["script", "names", "dice", "signs", "other", "wide", "one", "two", "k", "text", "told", "mixed", "sign", "size", "plain", "parts", "many", "base", "need", "bits", "due", "widths", "numbers", "width", "whole", "number", "pairs", "pair"] "law" (defScope st_law) 11 (defBody st_law) m_law := fun A outer s H E hr =>
  (db_cons (sst 1 sc_law.nd (de_klist (by exact rfl) (by exact rfl) Z.c_ALPHABETS (by exact rfl) Z.b_list))
    (db_cons (ds_for owns_cx (by exact rfl) (di_seq (de_call (c_x_law_rounds Z) hr (by decide) (by exact rfl) (takes_cx (CX := L2.CX P w)) (da_cons (dv 0) (da_cons de_int da_nil)))) (gnm 2 sc_law.nd) (db_cons (ds_asg (de_tup (da_cons (de_kix (by exact rfl) Z.c_ALPHABETS (de_ix (hu1 hr) (dv 1) (de_call (c_x_law_roll Z) hr (by decide) (by exact rfl) (takes_cx (CX := L2.CX P w)) (da_cons (dv 2) (da_cons de_int da_nil))))) (da_cons (de_kix (by exact rfl) Z.c_ALPHABETS (de_ix (hu1 hr) (dv 1) (de_call (c_x_law_roll Z) hr (by decide) (by exact rfl) (takes_cx (CX := L2.CX P w)) (da_cons (dv 2) (da_cons de_int da_nil))))) (da_cons (de_call (c_x_law_roll Z) hr (by decide) (by exact rfl) (takes_cx (CX := L2.CX P w)) (da_cons (dv 2) (da_cons de_int da_nil))) da_nil)))) (dg_tup (by exact rfl) (dgs_cons (gnm 3 sc_law.nd) (dgs_cons (gnm 4 sc_law.nd) (dgs_cons (gnm 5 sc_law.nd) dgs_nil)))))
    (db_cons (ds_asg (de_lc (by exact rfl) sc_law.nd (di_range1 (by exact rfl) Z.b_range (da_cons de_int da_nil)) (blkOk_by (own := [("k", 8)]) (by rfl)) ⟨fun _ _ _ _ _ => (xnm 8 sc_law.nd), fun _ _ _ _ _ => dts_nil, fun _ _ _ _ _ => (de_call (c_x_law_roll Z) hr (by decide) (by exact rfl) LamX.takes0 (da_cons (dv 2) (da_cons (de_ix (hu1 hr) (de_lst (da_cons de_int (da_cons de_int (da_cons de_int da_nil)))) (de_call (c_x_law_roll Z) hr (by decide) (by exact rfl) LamX.takes0 (da_cons (dv 2) (da_cons de_int da_nil)))) da_nil)))⟩) (dg_tup (by exact rfl) (dgs_cons (gnm 6 sc_law.nd) (dgs_cons (gnm 7 sc_law.nd) dgs_nil))))
    (db_cons (sst 9 sc_law.nd (de_call (c_in_base Z) hr (by decide) (by exact rfl) (takes_cx (CX := L2.CX P w)) (da_cons (dv 6) (da_cons (dv 3) (da_cons (dv 5) da_nil)))))
    (db_cons (ds_if (DW.dt (dw_or (dt_cmp (od_ne (hu64 hr)) (dv 9) (de_call (c_x_law_told_in Z) hr (by decide) (by exact rfl) (takes_cx (CX := L2.CX P w)) (da_cons (dv 6) (da_cons (dv 3) (da_cons (dv 5) da_nil))))) (dw_one_or (dt_cmp (od_ne (hu64 hr)) (de_call (c_from_base Z) hr (by decide) (by exact rfl) (takes_cx (CX := L2.CX P w)) (da_cons (dv 9) (da_cons (dv 3) da_nil))) (dv 6))))) (db_one (ds_ret de_bl)) db_nil)
    (db_cons (ds_if (dt_cmp (od_ne (hu64 hr)) (de_call (c_between_bases Z) hr (by decide) (by exact rfl) (takes_cx (CX := L2.CX P w)) (da_cons (dv 9) (da_cons (dv 3) (da_cons (dv 4) (da_cons (dv 5) da_nil))))) (de_call (c_x_law_told_in Z) hr (by decide) (by exact rfl) (takes_cx (CX := L2.CX P w)) (da_cons (dv 6) (da_cons (dv 4) (da_cons (dv 5) da_nil))))) (db_one (ds_ret de_bl)) db_nil)
    (db_cons (ds_if (dt_cmp (od_ne (hu64 hr)) (de_cmp (od_eq (hu64 hr)) (de_call (c_in_base_d2 Z) hr (by decide) (by exact rfl) (takes_cx (CX := L2.CX P w)) (da_cons (dv 6) (da_cons (dv 3) da_nil))) (de_call (c_in_base_d2 Z) hr (by decide) (by exact rfl) (takes_cx (CX := L2.CX P w)) (da_cons (dv 7) (da_cons (dv 3) da_nil)))) (de_cmp (od_eq (hu64 hr)) (dv 6) (dv 7))) (db_one (ds_ret de_bl)) db_nil)
    (db_cons (ds_if (dt_cmp (od_ne (hu64 hr)) (de_cmp od_lt (de_call (c_in_base Z) hr (by decide) (by exact rfl) (takes_cx (CX := L2.CX P w)) (da_cons (dv 6) (da_cons (de_kix (by exact rfl) Z.c_ALPHABETS (de_str [115, 105, 120, 116, 101, 101, 110])) (da_cons de_int da_nil)))) (de_call (c_in_base Z) hr (by decide) (by exact rfl) (takes_cx (CX := L2.CX P w)) (da_cons (dv 7) (da_cons (de_kix (by exact rfl) Z.c_ALPHABETS (de_str [115, 105, 120, 116, 101, 101, 110])) (da_cons de_int da_nil))))) (de_cmp od_lt (dv 6) (dv 7))) (db_one (ds_ret de_bl)) db_nil)
    (db_cons (sst 10 sc_law.nd (de_call (c_x_law_told_in Z) hr (by decide) (by exact rfl) (takes_cx (CX := L2.CX P w)) (da_cons (dv 6) (da_cons (de_kix (by exact rfl) Z.c_ALPHABETS (de_str [99, 114, 111, 99, 107])) (da_cons de_int da_nil)))))
    (db_cons (sst 11 sc_law.nd (de_m PySem.F.plainAttrs_str PySem.F.slot_str_join PySem.F.type_str_join md_join (de_str []) (da_cons (de_lc (by exact rfl) sc_law.nd (di_seq (dv 10)) (blkOk_by (own := [("sign", 12)]) (by rfl)) ⟨fun _ _ _ _ _ => (xnm 12 sc_law.nd), fun _ _ _ _ _ => dts_nil, fun _ _ _ _ _ => (de_bin od_add (de_get2 (hu1 hr) (de_dic (dps_cons (de_str [48]) (de_ix (hu1 hr) (de_str [48, 111, 79]) (de_call (c_x_law_roll Z) hr (by decide) (by exact rfl) LamX.takes0 (da_cons (dv 2) (da_cons de_int da_nil)))) (dps_cons (de_str [49]) (de_ix (hu1 hr) (de_str [49, 105, 73, 108, 76]) (de_call (c_x_law_roll Z) hr (by decide) (by exact rfl) LamX.takes0 (da_cons (dv 2) (da_cons de_int da_nil)))) dps_nil))) (dv 12) (de_ix (hu1 hr) (de_lst (da_cons (dv 12) (da_cons (de_m0 PySem.F.plainAttrs_str PySem.F.slot_str_upper PySem.F.type_str_upper md_upper (dv 12)) da_nil))) (de_call (c_x_law_roll Z) hr (by decide) (by exact rfl) LamX.takes0 (da_cons (dv 2) (da_cons de_int da_nil)))) ⟨by rfl, by rfl, by rfl, by rfl⟩) (de_bin od_mul (de_str [45]) (de_callT cd_int (by exact rfl) Z.b_int (by exact rfl) (da_cons (de_cmp (od_eq (hu64 hr)) (de_call (c_x_law_roll Z) hr (by decide) (by exact rfl) LamX.takes0 (da_cons (dv 2) (da_cons de_int da_nil))) de_int) da_nil))))⟩) da_nil)))
    (db_cons (ds_asg (de_tup (da_cons (de_bin od_add de_int (de_call (c_x_law_roll Z) hr (by decide) (by exact rfl) (takes_cx (CX := L2.CX P w)) (da_cons (dv 2) (da_cons de_int da_nil)))) (da_cons (de_m PySem.F.plainAttrs_str PySem.F.slot_str_join PySem.F.type_str_join md_join (de_str []) (da_cons (de_lc (by exact rfl) sc_law.nd (di_range1 (by exact rfl) Z.b_range (da_cons (de_call (c_x_law_roll Z) hr (by decide) (by exact rfl) (takes_cx (CX := L2.CX P w)) (da_cons (dv 2) (da_cons de_int da_nil))) da_nil)) (blkOk_by (own := [("k", 8)]) (by rfl)) ⟨fun _ _ _ _ _ => (xnm 8 sc_law.nd), fun _ _ _ _ _ => dts_nil, fun _ _ _ _ _ => (de_ix (hu1 hr) (de_str [97, 98, 99]) (de_call (c_x_law_roll Z) hr (by decide) (by exact rfl) LamX.takes0 (da_cons (dv 2) (da_cons de_int da_nil))))⟩) da_nil)) da_nil))) (dg_tup (by exact rfl) (dgs_cons (gnm 13 sc_law.nd) (dgs_cons (gnm 14 sc_law.nd) dgs_nil))))
    (db_cons (sst 15 sc_law.nd (de_rev (de_lc (by exact rfl) sc_law.nd (di_range1 (by exact rfl) Z.b_range (da_cons (de_neg (de_bin od_div (de_neg (de_callB cd_len (by exact rfl) Z.b_len (by exact rfl) (da_cons (dv 14) da_nil))) (dv 13))) da_nil)) (blkOk_by (own := [("k", 8)]) (by rfl)) ⟨fun _ _ _ _ _ => (xnm 8 sc_law.nd), fun _ _ _ _ _ => dts_nil, fun _ _ _ _ _ => (de_sl (dv 14) (do_yes (de_callB (cd_max (by exact rfl)) (by exact rfl) Z.b_max (by exact rfl) (da_cons de_int (da_cons (de_bin od_sub (de_callB cd_len (by exact rfl) Z.b_len (by exact rfl) (da_cons (dv 14) da_nil)) (de_bin od_mul (dv 13) (de_bin od_add (dv 8) de_int))) da_nil)))) (do_yes (de_bin od_sub (de_callB cd_len (by exact rfl) Z.b_len (by exact rfl) (da_cons (dv 14) da_nil)) (de_bin od_mul (dv 13) (dv 8)))))⟩)))
    (db_cons (ds_if (DW.dt (dw_or (dt_cmp (od_ne (hu64 hr)) (de_call (c_read_crock Z) hr (by decide) (by exact rfl) (takes_cx (CX := L2.CX P w)) (da_cons (dv 11) da_nil)) (dv 6)) (dw_one_or (dt_cmp (od_ne (hu64 hr)) (de_call (c_in_groups Z) hr (by decide) (by exact rfl) (takes_cx (CX := L2.CX P w)) (da_cons (dv 14) (da_cons (dv 13) (da_cons (de_str [58]) da_nil)))) (de_m PySem.F.plainAttrs_str PySem.F.slot_str_join PySem.F.type_str_join md_join (de_str [58]) (da_cons (dv 15) da_nil)))))) (db_one (ds_ret de_bl)) db_nil)
    (db_cons (spar3 16 17 18 (by exact rfl) sc_law.nd (da_cons (de_bin od_add de_int (de_call (c_x_law_roll Z) hr (by decide) (by exact rfl) (takes_cx (CX := L2.CX P w)) (da_cons (dv 2) (da_cons de_int da_nil)))) (da_cons (de_bin od_add de_int (de_call (c_x_law_roll Z) hr (by decide) (by exact rfl) (takes_cx (CX := L2.CX P w)) (da_cons (dv 2) (da_cons de_int da_nil)))) (da_cons de_int da_nil))))
    (db_cons (ds_while fuel owns_cx (dt_cmp od_lt (de_call (c_power_of Z) hr (by decide) (by exact rfl) (takes_cx (CX := L2.CX P w)) (da_cons (dv 17) (da_cons (dv 18) da_nil))) (dv 16)) (db_one (sst 18 sc_law.nd (de_bin od_add (dv 18) de_int))))
    (db_cons (ds_if (DW.dt (dw_or (dt_cmp (od_ne (hu64 hr)) (de_call (c_signs_needed Z) hr (by decide) (by exact rfl) (takes_cx (CX := L2.CX P w)) (da_cons (dv 16) (da_cons (dv 17) da_nil))) (dv 18)) (dw_one_or (dt_cmp (od_ne (hu64 hr)) (de_call (c_next_text Z) hr (by decide) (by exact rfl) (takes_cx (CX := L2.CX P w)) (da_cons (dv 9) (da_cons (dv 3) da_nil))) (de_call (c_x_law_told_in Z) hr (by decide) (by exact rfl) (takes_cx (CX := L2.CX P w)) (da_cons (de_bin od_add (dv 6) de_int) (da_cons (dv 3) (da_cons (de_callB cd_len (by exact rfl) Z.b_len (by exact rfl) (da_cons (dv 9) da_nil)) da_nil)))))))) (db_one (ds_ret de_bl)) db_nil)
    (db_cons (sst 19 sc_law.nd (de_bin od_add de_int (de_call (c_x_law_roll Z) hr (by decide) (by exact rfl) (takes_cx (CX := L2.CX P w)) (da_cons (dv 2) (da_cons de_int da_nil)))))
    (db_cons (sst 20 sc_law.nd (de_if (dt_cmp od_lt (dv 6) (de_call (c_power_of Z) hr (by decide) (by exact rfl) (takes_cx (CX := L2.CX P w)) (da_cons de_int (da_cons (dv 19) da_nil)))) (de_call (c_x_law_bits Z) hr (by decide) (by exact rfl) (takes_cx (CX := L2.CX P w)) (da_cons (dv 6) (da_cons (dv 19) da_nil))) (de_str [66, 97, 115, 101, 69, 114, 114, 111, 114])))
    (db_cons (ds_if (DW.dt (dw_or (dt_cmp (od_ne (hu64 hr)) (de_told (k := 2) Z.told Z.tcat (by exact rfl) Z.t_law (by exact rfl) Z.i_law Z.u_law (hr.mono (by decide)) (LamX.lamS_by (by rfl)) (by exact rfl) (fun _ _ _ _ _ => (by exact rfl)) (fun _ _ _ _ _ _ _ hj => (de_call (c_bits_of Z) hj (by decide) (by exact rfl) (takes_of (by exact rfl) (by exact rfl) (by exact rfl) (by exact rfl)) (da_cons (dv 6) (da_cons (dv 19) da_nil))))) (dv 20)) (dw_one_or (DW.dt (dw_and (dt_cmp (od_ne (hu64 hr)) (dv 20) (de_str [66, 97, 115, 101, 69, 114, 114, 111, 114])) (dw_one_and (dt_cmp (od_ne (hu64 hr)) (de_call (c_from_bits Z) hr (by decide) (by exact rfl) (takes_cx (CX := L2.CX P w)) (da_cons (dv 20) da_nil)) (dv 6)))))))) (db_one (ds_ret de_bl)) db_nil)
    (db_cons (slc 21 (by exact rfl) sc_law.nd (blkOk_by (own := [("k", 8)]) (by rfl)) (di_range1 (by exact rfl) Z.b_range (da_cons (de_bin od_add de_int (de_call (c_x_law_roll Z) hr (by decide) (by exact rfl) (takes_cx (CX := L2.CX P w)) (da_cons (dv 2) (da_cons de_int da_nil)))) da_nil)) ⟨fun _ _ _ _ _ => (xnm 8 sc_law.nd), fun _ _ _ _ _ => dts_nil, fun _ _ _ _ _ => (de_bin od_add de_int (de_call (c_x_law_roll Z) hr (by decide) (by exact rfl) LamX.takes0 (da_cons (dv 2) (da_cons de_int da_nil))))⟩)
    (db_cons (slc 22 (by exact rfl) sc_law.nd (blkOk_by (own := [("width", 23)]) (by rfl)) (di_seq (dv 21)) ⟨fun _ _ _ _ _ => (xnm 23 sc_law.nd), fun _ _ _ _ _ => dts_nil, fun _ _ _ _ _ => (de_call (c_x_law_roll Z) hr (by decide) (by exact rfl) LamX.takes0 (da_cons (dv 2) (da_cons (de_call (c_power_of Z) hr (by decide) (by exact rfl) LamX.takes0 (da_cons de_int (da_cons (dv 23) da_nil))) da_nil)))⟩)
    (db_cons (sst 24 sc_law.nd de_int)
    (db_cons (ds_for owns_cx (by exact rfl) (di_zip (by exact rfl) Z.b_zip (da_cons (dv 22) (da_cons (dv 21) da_nil))) (dg_tup (by exact rfl) (dgs_cons (gnm 25 sc_law.nd) (dgs_cons (gnm 23 sc_law.nd) dgs_nil))) (db_one (sst 24 sc_law.nd (de_bin od_add (de_bin od_mul (dv 24) (de_call (c_power_of Z) hr (by decide) (by exact rfl) (takes_cx (CX := L2.CX P w)) (da_cons de_int (da_cons (dv 23) da_nil)))) (dv 25)))))
    (db_cons (ds_if (DW.dt (dw_or (dt_cmp (od_ne (hu64 hr)) (de_call (c_packed_number Z) hr (by decide) (by exact rfl) (takes_cx (CX := L2.CX P w)) (da_cons (dv 22) (da_cons (dv 21) da_nil))) (dv 24)) (dw_one_or (dt_cmp (od_ne (hu64 hr)) (de_callT cd_list (by exact rfl) Z.b_list (by exact rfl) (da_cons (de_call (c_unpacked_numbers Z) hr (by decide) (by exact rfl) (takes_cx (CX := L2.CX P w)) (da_cons (dv 24) (da_cons (dv 21) da_nil))) da_nil)) (dv 22))))) (db_one (ds_ret de_bl)) db_nil)
    (db_cons (slc 26 (by exact rfl) sc_law.nd (blkOk_by (own := [("pair", 27)]) (by rfl)) (di_seq (de_lst (da_cons (de_str [48, 79]) (da_cons (de_str [48, 111]) (da_cons (de_str [79, 111]) (da_cons (de_str [49, 108]) (da_cons (de_str [49, 73]) (da_cons (de_str [108, 73]) (da_cons (de_str [53, 83]) (da_cons (de_str [50, 90]) (da_cons (de_str [56, 66]) da_nil))))))))))) ⟨fun _ _ _ _ _ => (xnm 27 sc_law.nd), fun _ _ _ _ _ => (dts_one (DW.dt (dw_and (dt_cmp od_in (de_ix (hu1 hr) (dv 27) de_int) (dv 3)) (dw_one_and (dt_cmp od_in (de_ix (hu1 hr) (dv 27) de_int) (dv 3)))))), fun _ _ _ _ _ => (dv 27)⟩)
    (db_one (ds_if (dt_cmp (od_ne (hu64 hr)) (de_callT cd_list (by exact rfl) Z.b_list (by exact rfl) (da_cons (de_call (c_alike_signs Z) hr (by decide) (by exact rfl) (takes_cx (CX := L2.CX P w)) (da_cons (dv 3) da_nil)) da_nil)) (dv 26)) (db_one (ds_ret de_bl)) db_nil)))))))))))))))))))))))))))
    (db_one (ds_ret (de_call0 (c_x_law_plain Z) hr (by decide) (by exact rfl) (takes_cx (CX := L2.CX P w)))))))
theorem c_law (Z : Fx P w K mg base T) : Cal P w K mg base T 12 "law" g_law := cal_all Z.d_law Z.g_law sc_law (fun _ _ _ _ _ _ us hl => match us, hl with | [_], _ => rfl) (b_law Z)
end
end K01

set_option Elab.async false
set_option linter.all false
set_option maxRecDepth 100000
set_option maxHeartbeats 0
namespace K01
open PySem PySem.Spec PyProof.Rows L2 Sh
def dd_check_alphabet : He.DefD := ⟨("check_alphabet", none), "check_alphabet", "check_alphabet", defArgs (top 6), defBody (top 6), defScope (top 6), [], []⟩
def dd_in_base : He.DefD := ⟨("in_base", none), "in_base", "in_base", defArgs (top 7), defBody (top 7), defScope (top 7), [.int 0], []⟩
def dd_from_base : He.DefD := ⟨("from_base", none), "from_base", "from_base", defArgs (top 8), defBody (top 8), defScope (top 8), [], []⟩
def dd_between_bases : He.DefD := ⟨("between_bases", none), "between_bases", "between_bases", defArgs (top 9), defBody (top 9), defScope (top 9), [.int 0], []⟩
def dd_read_crock : He.DefD := ⟨("read_crock", none), "read_crock", "read_crock", defArgs (top 10), defBody (top 10), defScope (top 10), [], []⟩
def dd_in_groups : He.DefD := ⟨("in_groups", none), "in_groups", "in_groups", defArgs (top 11), defBody (top 11), defScope (top 11), [.str (S [45])], []⟩
def dd_signs_needed : He.DefD := ⟨("signs_needed", none), "signs_needed", "signs_needed", defArgs (top 12), defBody (top 12), defScope (top 12), [], []⟩
def dd_bits_of : He.DefD := ⟨("bits_of", none), "bits_of", "bits_of", defArgs (top 13), defBody (top 13), defScope (top 13), [], []⟩
def dd_from_bits : He.DefD := ⟨("from_bits", none), "from_bits", "from_bits", defArgs (top 14), defBody (top 14), defScope (top 14), [], []⟩
def dd_power_of : He.DefD := ⟨("power_of", none), "power_of", "power_of", defArgs (top 17), defBody (top 17), defScope (top 17), [], []⟩
def dd_packed_number : He.DefD := ⟨("packed_number", none), "packed_number", "packed_number", defArgs (top 15), defBody (top 15), defScope (top 15), [], []⟩
def dd_unpacked_numbers : He.DefD := ⟨("unpacked_numbers", none), "unpacked_numbers", "unpacked_numbers", defArgs (top 16), defBody (top 16), defScope (top 16), [], []⟩
def dd_next_text : He.DefD := ⟨("next_text", none), "next_text", "next_text", defArgs (top 18), defBody (top 18), defScope (top 18), [], []⟩
def dd_alike_signs : He.DefD := ⟨("alike_signs", none), "alike_signs", "alike_signs", defArgs (top 19), defBody (top 19), defScope (top 19), [], []⟩
def dd_x_law_dice : He.DefD := ⟨("_law_dice", none), "_law_dice", "_law_dice", defArgs (top 21), defBody (top 21), defScope (top 21), [], []⟩
def dd_x_law_roll : He.DefD := ⟨("_law_roll", none), "_law_roll", "_law_roll", defArgs (top 22), defBody (top 22), defScope (top 22), [], []⟩
def dd_x_law_rounds : He.DefD := ⟨("_law_rounds", none), "_law_rounds", "_law_rounds", defArgs (top 23), defBody (top 23), defScope (top 23), [], []⟩
def dd_x_law_told_in : He.DefD := ⟨("_law_told_in", none), "_law_told_in", "_law_told_in", defArgs (top 25), defBody (top 25), defScope (top 25), [], []⟩
def dd_x_law_bits : He.DefD := ⟨("_law_bits", none), "_law_bits", "_law_bits", defArgs (top 26), defBody (top 26), defScope (top 26), [], []⟩
def dd_x_law_plain : He.DefD := ⟨("_law_plain", none), "_law_plain", "_law_plain", defArgs (top 27), defBody (top 27), defScope (top 27), [], []⟩
def dd_law : He.DefD := ⟨("law", none), "law", "law", defArgs (top 28), defBody (top 28), defScope (top 28), [], []⟩
def dd_x_law_told : He.DefD := ⟨("_law_told", none), "_law_told", "_law_told", defArgs (top 24), defBody (top 24), defScope (top 24), [], []⟩
def fnL : List He.DefD := [dd_check_alphabet, dd_in_base, dd_from_base, dd_between_bases, dd_read_crock, dd_in_groups, dd_signs_needed, dd_bits_of, dd_from_bits, dd_power_of, dd_packed_number, dd_unpacked_numbers, dd_next_text, dd_alike_signs, dd_x_law_dice, dd_x_law_roll, dd_x_law_rounds, dd_x_law_told_in, dd_x_law_bits, dd_x_law_plain, dd_law, dd_x_law_told]
def faL : List He.Fa := [.glo "check_alphabet", .glo "in_base", .glo "from_base", .glo "between_bases", .glo "read_crock", .glo "in_groups", .glo "signs_needed", .glo "bits_of", .glo "from_bits", .glo "power_of", .glo "packed_number", .glo "unpacked_numbers", .glo "next_text", .glo "alike_signs", .glo "_law_dice", .glo "_law_roll", .glo "_law_rounds", .glo "_law_told_in", .glo "_law_bits", .glo "_law_plain", .glo "law", .glo "_law_told", .free "abs", .free "any", .free "int", .free "len", .free "list", .free "max", .free "min", .free "range", .free "tuple", .free "zip", .glo "BaseError", .exc "BaseError", .exm "BaseError" "BaseError" true, .int "MOST_SIGNS" 60, .glo "ALPHABETS"]
def tsL : List He.Tab := [(fun K => He.ga K "ALPHABETS", [("two" : Str), ("eight" : Str), ("ten" : Str), ("sixteen" : Str), ("crock" : Str), ("thirtysix" : Str), ("plain" : Str), ("sixtyfour" : Str)])]
def tfL : List He.Defn := [("check_alphabet", none), ("from_base", none), ("from_bits", none), ("packed_number", none), ("unpacked_numbers", none), ("alike_signs", none), ("_law_plain", none), ("law", none)]
def exL (K : PySem.W.Frag) : Bool := decide ((tfL.map fun p => (He.cT K p).2).Nodup) && dcB K (He.ga K "ALPHABETS") tab_ALPHABETS
def TL (K : PySem.W.Frag) : Tb := [(tbA K "check_alphabet", (("check_alphabet" : Str) ++ ".<locals>." ++ "<genexpr>" : Str)), (tbA K "from_base", (("from_base" : Str) ++ ".<locals>." ++ "<genexpr>" : Str)), (tbA K "from_bits", (("from_bits" : Str) ++ ".<locals>." ++ "<genexpr>" : Str)), (tbA K "packed_number", (("packed_number" : Str) ++ ".<locals>." ++ "<genexpr>" : Str)), (tbA K "unpacked_numbers", (("unpacked_numbers" : Str) ++ ".<locals>." ++ "<genexpr>" : Str)), (tbA K "alike_signs", (("alike_signs" : Str) ++ ".<locals>." ++ "<genexpr>" : Str)), (tbA K "_law_plain", (("_law_plain" : Str) ++ ".<locals>." ++ "<lambda>" : Str)), (tbA K "law", (("law" : Str) ++ ".<locals>." ++ "<lambda>" : Str))]
theorem nd_map {α β : Type} {f : α → β} : ∀ {l : List α}, (l.map f).Nodup → ∀ p ∈ l, ∀ q ∈ l, f p = f q → p = q
  | [], _, p, hp, _, _, _ => by cases hp
  | a :: l, h, p, hp, q, hq, e => by
    rw [List.map_cons, List.nodup_cons] at h
    cases hp with
    | head =>
      cases hq with
      | head => rfl
      | tail _ hq => exact (h.1 (by rw [e]; exact List.mem_map_of_mem hq)).elim
    | tail _ hp =>
      cases hq with
      | head => exact (h.1 (by rw [← e]; exact List.mem_map_of_mem hp)).elim
      | tail _ hq => exact nd_map h.2 p hp q hq e
theorem fx_of {P : Program} {w : World} {K : PySem.W.Frag} {mg : Str → Option Value} {h base : Heap} (X : K.In base) (G : base.Ns mainGlobals mg) (c : He.SaysX faL fnL tsL tfL exL w h K) (TB : ∀ p ∈ tfL.map (He.cT K), LamX.TabB base mg p.1 p.2) : Fx P w K mg base (TL K) := by
  have h0 : exL K = true := c.more
  unfold exL at h0
  obtain ⟨h0, hxALPHABETS⟩ := and2 h0
  have hnd : ((TL K).map Prod.fst).Nodup := of_decide_eq_true h0
  exact {
    d_check_alphabet := by exact c.t.d.def_ 0 (d := dd_check_alphabet) rfl
    g_check_alphabet := He.glo_ok X G (c.t.d.fact 0 (f := .glo "check_alphabet") rfl)
    d_in_base := by exact c.t.d.def_ 1 (d := dd_in_base) rfl
    g_in_base := He.glo_ok X G (c.t.d.fact 1 (f := .glo "in_base") rfl)
    d_from_base := by exact c.t.d.def_ 2 (d := dd_from_base) rfl
    g_from_base := He.glo_ok X G (c.t.d.fact 2 (f := .glo "from_base") rfl)
    d_between_bases := by exact c.t.d.def_ 3 (d := dd_between_bases) rfl
    g_between_bases := He.glo_ok X G (c.t.d.fact 3 (f := .glo "between_bases") rfl)
    d_read_crock := by exact c.t.d.def_ 4 (d := dd_read_crock) rfl
    g_read_crock := He.glo_ok X G (c.t.d.fact 4 (f := .glo "read_crock") rfl)
    d_in_groups := by exact c.t.d.def_ 5 (d := dd_in_groups) rfl
    g_in_groups := He.glo_ok X G (c.t.d.fact 5 (f := .glo "in_groups") rfl)
    d_signs_needed := by exact c.t.d.def_ 6 (d := dd_signs_needed) rfl
    g_signs_needed := He.glo_ok X G (c.t.d.fact 6 (f := .glo "signs_needed") rfl)
    d_bits_of := by exact c.t.d.def_ 7 (d := dd_bits_of) rfl
    g_bits_of := He.glo_ok X G (c.t.d.fact 7 (f := .glo "bits_of") rfl)
    d_from_bits := by exact c.t.d.def_ 8 (d := dd_from_bits) rfl
    g_from_bits := He.glo_ok X G (c.t.d.fact 8 (f := .glo "from_bits") rfl)
    d_power_of := by exact c.t.d.def_ 9 (d := dd_power_of) rfl
    g_power_of := He.glo_ok X G (c.t.d.fact 9 (f := .glo "power_of") rfl)
    d_packed_number := by exact c.t.d.def_ 10 (d := dd_packed_number) rfl
    g_packed_number := He.glo_ok X G (c.t.d.fact 10 (f := .glo "packed_number") rfl)
    d_unpacked_numbers := by exact c.t.d.def_ 11 (d := dd_unpacked_numbers) rfl
    g_unpacked_numbers := He.glo_ok X G (c.t.d.fact 11 (f := .glo "unpacked_numbers") rfl)
    d_next_text := by exact c.t.d.def_ 12 (d := dd_next_text) rfl
    g_next_text := He.glo_ok X G (c.t.d.fact 12 (f := .glo "next_text") rfl)
    d_alike_signs := by exact c.t.d.def_ 13 (d := dd_alike_signs) rfl
    g_alike_signs := He.glo_ok X G (c.t.d.fact 13 (f := .glo "alike_signs") rfl)
    d_x_law_dice := by exact c.t.d.def_ 14 (d := dd_x_law_dice) rfl
    g_x_law_dice := He.glo_ok X G (c.t.d.fact 14 (f := .glo "_law_dice") rfl)
    d_x_law_roll := by exact c.t.d.def_ 15 (d := dd_x_law_roll) rfl
    g_x_law_roll := He.glo_ok X G (c.t.d.fact 15 (f := .glo "_law_roll") rfl)
    d_x_law_rounds := by exact c.t.d.def_ 16 (d := dd_x_law_rounds) rfl
    g_x_law_rounds := He.glo_ok X G (c.t.d.fact 16 (f := .glo "_law_rounds") rfl)
    d_x_law_told_in := by exact c.t.d.def_ 17 (d := dd_x_law_told_in) rfl
    g_x_law_told_in := He.glo_ok X G (c.t.d.fact 17 (f := .glo "_law_told_in") rfl)
    d_x_law_bits := by exact c.t.d.def_ 18 (d := dd_x_law_bits) rfl
    g_x_law_bits := He.glo_ok X G (c.t.d.fact 18 (f := .glo "_law_bits") rfl)
    d_x_law_plain := by exact c.t.d.def_ 19 (d := dd_x_law_plain) rfl
    g_x_law_plain := He.glo_ok X G (c.t.d.fact 19 (f := .glo "_law_plain") rfl)
    d_law := by exact c.t.d.def_ 20 (d := dd_law) rfl
    g_law := He.glo_ok X G (c.t.d.fact 20 (f := .glo "law") rfl)
    b_abs := He.free_ok X G (c.t.d.fact 22 (f := .free "abs") rfl)
    b_any := He.free_ok X G (c.t.d.fact 23 (f := .free "any") rfl)
    b_int := He.free_ok X G (c.t.d.fact 24 (f := .free "int") rfl)
    b_len := He.free_ok X G (c.t.d.fact 25 (f := .free "len") rfl)
    b_list := He.free_ok X G (c.t.d.fact 26 (f := .free "list") rfl)
    b_max := He.free_ok X G (c.t.d.fact 27 (f := .free "max") rfl)
    b_min := He.free_ok X G (c.t.d.fact 28 (f := .free "min") rfl)
    b_range := He.free_ok X G (c.t.d.fact 29 (f := .free "range") rfl)
    b_tuple := He.free_ok X G (c.t.d.fact 30 (f := .free "tuple") rfl)
    b_zip := He.free_ok X G (c.t.d.fact 31 (f := .free "zip") rfl)
    x_BaseError := have q := He.exc_ok (c.t.d.fact 33 (f := .exc "BaseError") rfl); ⟨He.glo_ok X G (c.t.d.fact 32 (f := .glo "BaseError") rfl), q.1, q.2.1, q.2.2.1, q.2.2.2⟩
    c_MOST_SIGNS := He.int_ok X G (c.t.d.fact 35 (f := .int "MOST_SIGNS" 60) rfl)
    c_ALPHABETS := by obtain ⟨es, n, kd⟩ := c.t.tab 0 (t := tsL[0]) rfl; obtain ⟨vs, kt⟩ := ktab_of (kvs := tab_ALPHABETS) kd (hxALPHABETS) (by decide) (by decide); exact ⟨_, vs, He.glo_ok X G (c.t.d.fact 36 (f := .glo "ALPHABETS") rfl), kt⟩
    t_check_alphabet := have q := TB (He.cT K ("check_alphabet", none)) (List.mem_of_getElem? (i := 0) rfl); ⟨q.code, q.bm, q.gP⟩
    i_check_alphabet := List.mem_of_getElem? (i := 0) rfl
    t_from_base := have q := TB (He.cT K ("from_base", none)) (List.mem_of_getElem? (i := 1) rfl); ⟨q.code, q.bm, q.gP⟩
    i_from_base := List.mem_of_getElem? (i := 1) rfl
    t_from_bits := have q := TB (He.cT K ("from_bits", none)) (List.mem_of_getElem? (i := 2) rfl); ⟨q.code, q.bm, q.gP⟩
    i_from_bits := List.mem_of_getElem? (i := 2) rfl
    t_packed_number := have q := TB (He.cT K ("packed_number", none)) (List.mem_of_getElem? (i := 3) rfl); ⟨q.code, q.bm, q.gP⟩
    i_packed_number := List.mem_of_getElem? (i := 3) rfl
    t_unpacked_numbers := have q := TB (He.cT K ("unpacked_numbers", none)) (List.mem_of_getElem? (i := 4) rfl); ⟨q.code, q.bm, q.gP⟩
    i_unpacked_numbers := List.mem_of_getElem? (i := 4) rfl
    t_alike_signs := have q := TB (He.cT K ("alike_signs", none)) (List.mem_of_getElem? (i := 5) rfl); ⟨q.code, q.bm, q.gP⟩
    i_alike_signs := List.mem_of_getElem? (i := 5) rfl
    t_x_law_plain := have q := TB (He.cT K ("_law_plain", none)) (List.mem_of_getElem? (i := 6) rfl); ⟨q.code, q.bm, q.gP⟩
    i_x_law_plain := List.mem_of_getElem? (i := 6) rfl
    t_law := have q := TB (He.cT K ("law", none)) (List.mem_of_getElem? (i := 7) rfl); ⟨q.code, q.bm, q.gP⟩
    i_law := List.mem_of_getElem? (i := 7) rfl
    told := by obtain ⟨fd, F⟩ := c.t.d.def_ 21 (d := dd_x_law_told) rfl; exact ⟨⟨He.ga K "_law_told", fd, _, _, _, _, _, _, _, _, _, He.glo_ok X G (c.t.d.fact 21 (f := .glo "_law_told") rfl), F.bindsN (fun _ _ _ _ _ _ us hl => match us, hl with | [_], _ => rfl), F⟩, rfl, He.glo_ok X G (c.t.d.fact 32 (f := .glo "BaseError") rfl), by decide, ⟨rfl, rfl, rfl, by decide +kernel, rfl, by decide +kernel, by decide +kernel⟩, .inl rfl⟩
    tcat := fun z hz => by cases List.mem_singleton.mp hz; exact He.exm_ok (c.t.d.fact 34 (f := .exm "BaseError" "BaseError" true) rfl)
    tu := fun p hp q hq e => congrArg Prod.snd (nd_map (f := Prod.fst) hnd p hp q hq e)
  }
theorem atS {w : World} {K : PySem.W.Frag} {mg : Str → Option Value} {h : Heap} (plain : ∀ ns : List Int, ns.length ≤ 63 → (∀ z ∈ ns, Builtin.Int.intBits z ≤ 1048576) → ∃ h', f_law [.fls (ns.map D.int)] [] = .ok (.bl true) h')
    (X : K.In h) (c : He.SaysX faL fnL tsL tfL exL w h K) : LamX.LawAtS PySem.Challenge.rw_idstack_k01_numbers_in_bases w K (L2.CX (PySem.Challenge.rw_idstack_k01_numbers_in_bases).prog w) 12 63 "script" mg (He.ga K "law") h := by
  obtain ⟨fd, F⟩ := c.t.d.def_ 20 (d := dd_law) rfl
  refine law_atS (cs := tfL.map (He.cT K)) (T := TL K) (m := m_law) F sc_law (fun _ _ _ _ _ _ us hl => match us, hl with | [_], _ => rfl) (fun p hp => ?_) (fun p hp => ?_) (fun p hp => ?_) (fun p hp => ?_) (fun base X G TB => b_law (fx_of X G c TB)) plain
  · obtain ⟨q, hq, rfl⟩ := List.mem_map.mp hp
    exact c.empty q hq
  · obtain ⟨q, hq, rfl⟩ := List.mem_map.mp hp
    exact c.out q hq
  · obtain ⟨q, hq, rfl⟩ := List.mem_map.mp hp
    exact PySem.W.codeHd_of_K X (c.hd q hq)
  · have e : (TL K).map Prod.fst = (tfL.map (He.cT K)).map Prod.snd := rfl
    have z : p.1 ∈ (tfL.map (He.cT K)).map Prod.snd := by rw [← e]; exact List.mem_map_of_mem hp
    obtain ⟨q, hq, e2⟩ := List.mem_map.mp z
    exact ⟨q.1, by rw [← e2]; exact hq⟩
abbrev R : PySem.W.OpenRow := PySem.W.OpenLaw.row PySem.Challenge.rw_idstack_k01_numbers_in_bases
abbrev hk : PySem.W.Hook := He.hookX 4 faL fnL tsL tfL exL
def ob (s : PySem.W.SharedT) : He.AlX := He.obsX 4 faL fnL tsL tfL exL (HandSHeadRun.getT s)
theorem ob_eq (s : PySem.W.SharedT) : ob s = hk.obs s.abs := He.obsX_eq (HandSHeadRun.getT_eq s)
def loose : List Str := ["IdFault", "BaseError", "check_alphabet", "in_base", "from_base", "between_bases", "read_crock", "in_groups", "signs_needed", "bits_of", "from_bits", "packed_number", "unpacked_numbers", "power_of", "next_text", "alike_signs", "_law_dice", "_law_roll", "_law_rounds", "_law_told", "_law_told_in", "_law_bits", "_law_plain", "ALPHABETS", "MOST_SIGNS"]
theorem runf (w : World) : HandSHeadRun.RunEq R (PySem.W.view R.prog [28]) hk ob 1500 loose (w.withFollow "special-get-raises" false) := by
  intro os
  kernel_rfl
theorem runt (w : World) : HandSHeadRun.RunEq R (PySem.W.view R.prog [28]) hk ob 1500 loose (w.withFollow "special-get-raises" true) := by
  intro os
  kernel_rfl
theorem run (w : World) : HandSHeadRun.RunEq R (PySem.W.view R.prog [28]) hk ob 1500 loose w := PySem.W.byRow2 "special-get-raises" runf runt w
end K01
open PySem PySem.W PySem.Calls PyProof.Rows
theorem K01.holds (plain : ∀ ns : List Int, ns.length ≤ 63 → (∀ z ∈ ns, Builtin.Int.intBits z ≤ 1048576) → ∃ h', K01.f_law [.fls (ns.map Sh.D.int)] [] = .ok (.bl true) h') : PySem.Challenge.rw_idstack_k01_numbers_in_bases.Holds := by
  w_on; o_law
  refine HandSHeadRun.head_any (r := OpenLaw.row PySem.Challenge.rw_idstack_k01_numbers_in_bases) (q := view (OpenLaw.row PySem.Challenge.rw_idstack_k01_numbers_in_bases).prog [28]) (H := K01.hk) (ob := K01.ob) (M := 1500) (loose := K01.loose) (d := HandSHeadRun.topDef (OpenLaw.row PySem.Challenge.rw_idstack_k01_numbers_in_bases).prog 28) (kwd := []) K01.ob_eq
    (by kernel_rfl) (fun s => by kernel_rfl) K01.run (by kernel_rfl) (by kernel_rfl) (by kernel_rfl) (by rfl) (by first | assumption | decide +kernel) (by decide +kernel) ⟨rfl, rfl, rfl, rfl, rfl, by decide +kernel⟩ ?hw ?hc
  case hw => w_witness2
  case hc =>
    refine LamX.walk_ofTsE (l := PySem.Challenge.rw_idstack_k01_numbers_in_bases) (n := 63) (k := 12) (x := "script") (CX := fun w => L2.CX (PySem.Challenge.rw_idstack_k01_numbers_in_bases).prog w) rfl (by decide) (by kernel_rfl) ⟨rfl, by decide, by decide⟩ ?F (fun _ _ _ _ _ z => Sh.cx_none z)
    intro w mg fa h Y G hmg0
    obtain ⟨K, KX, c⟩ := Y
    have hmg : mg ("law" : PySem.Str) = some (.ref fa) := by
      have e : (HandSHeadRun.topDef (OpenLaw.row PySem.Challenge.rw_idstack_k01_numbers_in_bases).prog 28).name = ("law" : PySem.Str) := by kernel_rfl
      rw [← e]
      exact hmg0
    have e := hmg.symm.trans (He.glo_ok KX G (c.t.d.fact 20 (f := .glo "law") rfl))
    cases e
    exact ⟨K, KX, K01.atS plain KX c⟩


set_option Elab.async false
set_option linter.all false
set_option maxRecDepth 100000
set_option maxHeartbeats 4000000
namespace K01
open PySem PySem.Spec PyProof.Rows L2 Sh
/-- the dice -/
abbrev dice (a b c : Int) : LH := [.lst [.int a, .int b, .int c]]
theorem roll1 (r : Av → Ev) (a b c many : Int) (h0 : 0 < many) (h1 : many ≤ 100000000) : ∃ x a' b' c', fn 3 (m_x_law_roll r) [.obj 0, .int many] (dice a b c) = .ok (.int x) (dice a' b' c') ∧ 0 ≤ x ∧ x < many := by
  have hm : many.natAbs.log2 < 9000 := lg_ok (by omega)
  have h7 : Nat.log2 7 < 9000 := Nat.lt_trans (lg_lt (k := 3) (by decide) (by decide)) (by decide)
  by_cases e2 : c = 2
  · subst e2
    refine ⟨a % many, a / many, b, 2, ?_, Int.emod_nonneg _ (by omega), Int.emod_lt_of_pos _ h0⟩
    simp [m_x_law_roll, fn, cAll, sSeq, sIf, bOr, bAnd, bNot, bYes, bTest, eBin, eIx, eVar, eC, eUn, eIf, eChain, eSl, oNo, oYes, dSl, dEq, dNe, dGt, dLt, dLe, dGe, dNeg, eqB, dIx, atI, ixN, liftO, Res.bind, Res.st, SR.then, sAsg, sExpr, eCall, aCons, aNil, bRes, bInt, bLen, bMax, bMin, dMod, dAdd, dSub, dMul, dIAdd, dIMul, gNm, gSubH, setH, dDiv, sRet, sPar, sPar3, sAug, sRaise, sNil, eLst, eTup, seqH, eMt, tyD, mS0, mS1, h0, hm]
  · by_cases e1 : c = 1 ∧ 0 < a
    · obtain ⟨rfl, ha⟩ := e1
      refine ⟨a % many, a / many, b, 1, ?_, Int.emod_nonneg _ (by omega), Int.emod_lt_of_pos _ h0⟩
      simp [m_x_law_roll, fn, cAll, sSeq, sIf, bOr, bAnd, bNot, bYes, bTest, eBin, eIx, eVar, eC, eUn, eIf, eChain, eSl, oNo, oYes, dSl, dEq, dNe, dGt, dLt, dLe, dGe, dNeg, eqB, dIx, atI, ixN, liftO, Res.bind, Res.st, SR.then, sAsg, sExpr, eCall, aCons, aNil, bRes, bInt, bLen, bMax, bMin, dMod, dAdd, dSub, dMul, dIAdd, dIMul, gNm, gSubH, setH, dDiv, sRet, sPar, sPar3, sAug, sRaise, sNil, eLst, eTup, seqH, eMt, tyD, mS0, mS1, h0, hm, ha]
    · refine ⟨((a * 48271 + b * 69621 + 11) % 2147483647 / 7) % many, (a * 48271 + b * 69621 + 11) % 2147483647, b + 1, 0, ?_, Int.emod_nonneg _ (by omega), Int.emod_lt_of_pos _ h0⟩
      have m1 : mulOk a 48271 = true := mul_ok (.inr (by decide))
      have m2 : mulOk b 69621 = true := mul_ok (.inr (by decide))
      have hb : ¬ (100000000 < many) := by omega
      have e3 : c = 1 → ¬ (0 < a) := fun e z => e1 ⟨e, z⟩
      by_cases e4 : c = 1
      · subst e4
        have e5 := e3 rfl
        simp [m_x_law_roll, fn, cAll, sSeq, sIf, bOr, bAnd, bNot, bYes, bTest, eBin, eIx, eVar, eC, eUn, eIf, eChain, eSl, oNo, oYes, dSl, dEq, dNe, dGt, dLt, dLe, dGe, dNeg, eqB, dIx, atI, ixN, liftO, Res.bind, Res.st, SR.then, sAsg, sExpr, eCall, aCons, aNil, bRes, bInt, bLen, bMax, bMin, dMod, dAdd, dSub, dMul, dIAdd, dIMul, gNm, gSubH, setH, dDiv, sRet, sPar, sPar3, sAug, sRaise, sNil, eLst, eTup, seqH, eMt, tyD, mS0, mS1, h0, hm, m1, m2, hb, e5, h7]
      · simp [m_x_law_roll, fn, cAll, sSeq, sIf, bOr, bAnd, bNot, bYes, bTest, eBin, eIx, eVar, eC, eUn, eIf, eChain, eSl, oNo, oYes, dSl, dEq, dNe, dGt, dLt, dLe, dGe, dNeg, eqB, dIx, atI, ixN, liftO, Res.bind, Res.st, SR.then, sAsg, sExpr, eCall, aCons, aNil, bRes, bInt, bLen, bMax, bMin, dMod, dAdd, dSub, dMul, dIAdd, dIMul, gNm, gSubH, setH, dDiv, sRet, sPar, sPar3, sAug, sRaise, sNil, eLst, eTup, seqH, eMt, tyD, mS0, mS1, h0, hm, m1, m2, hb, e2, e4, h7]
theorem roll (a b c many : Int) (h0 : 0 < many) (h1 : many ≤ 100000000) : ∃ x a' b' c', g_x_law_roll [.obj 0, .int many] (dice a b c) = .ok (.int x) (dice a' b' c') ∧ 0 ≤ x ∧ x < many := by
  obtain ⟨x, a', b', c', e, r⟩ := roll1 (eCall (gr_x_law_roll 3)) a b c many h0 h1
  exact ⟨x, a', b', c', e, r⟩
/-! ### the alphabets -/
def als : List (List Nat) := tab_ALPHABETS.map fun p => match p.2 with
  | .str s => s
  | _ => []
def alB (s : List Nat) : Bool := decide (2 ≤ s.length) && decide (s.length ≤ 64)
theorem al_len : ∀ s ∈ als, 2 ≤ s.length ∧ s.length ≤ 64 := by
  have h : als.all alB = true := by decide +kernel
  intro s hs
  have q := List.all_eq_true.mp h s hs
  unfold alB at q
  simpa using q
theorem check_ok (h : LH) : ∀ s ∈ als, g_check_alphabet [.str s] h = .ok .non h := by
  intro s hs
  simp only [als, tab_ALPHABETS, List.map_cons, List.map_nil, List.mem_cons, List.mem_nil_iff, or_false] at hs
  rcases hs with rfl | rfl | rfl | rfl | rfl | rfl | rfl | rfl <;> kernel_rfl
/-! ### figures -/
/-- the figures of n to the base b, the greatest first -/
def dgF (b : Nat) : Nat → Nat → List Nat → List Nat
  | 0, _, acc => acc
  | f + 1, n, acc => if n = 0 then acc else dgF b f (n / b) (n % b :: acc)
theorem dgF_app (b : Nat) : ∀ (f n : Nat) (acc : List Nat), dgF b f n acc = dgF b f n [] ++ acc
  | 0, _, _ => rfl
  | f + 1, n, acc => by
    unfold dgF
    split
    · rfl
    · rw [dgF_app b f _ (n % b :: acc), dgF_app b f _ [n % b], List.append_assoc]; rfl
theorem div_lt' {b n f : Nat} (hb : 2 ≤ b) (h : n < f + 1) (hn : n ≠ 0) : n / b < f := by
  have := Nat.div_lt_self (Nat.pos_of_ne_zero hn) (show 1 < b by omega)
  omega
theorem dgF_fuel {b : Nat} (hb : 2 ≤ b) : ∀ (f g n : Nat) (acc : List Nat), n < f → n < g → dgF b f n acc = dgF b g n acc
  | 0, _, _, _, h, _ => absurd h (Nat.not_lt_zero _)
  | _ + 1, 0, _, _, _, h => absurd h (Nat.not_lt_zero _)
  | f + 1, g + 1, n, acc, h1, h2 => by
    unfold dgF
    split
    · rfl
    · rename_i hn
      exact dgF_fuel hb f g _ _ (div_lt' hb h1 hn) (div_lt' hb h2 hn)
def dg (b n : Nat) : List Nat := dgF b (n + 1) n []
theorem dgF_eq {b f n : Nat} (hb : 2 ≤ b) (h : n < f) (acc : List Nat) : dgF b f n acc = dg b n ++ acc := by
  rw [dgF_app]
  unfold dg
  rw [dgF_fuel hb f (n + 1) n [] h (by omega)]
/-- signs told by their places -/
def sg (s : List Nat) (js : List Nat) : List Nat := js.map fun j => s.getD j 0
/-- filled up from the left -/
def pd (w : Nat) (js : List Nat) : List Nat := List.replicate (max w 1 - js.length) 0 ++ js
end K01

set_option Elab.async false
set_option linter.all false
set_option maxRecDepth 100000
set_option maxHeartbeats 4000000
namespace K01
open PySem PySem.Spec PyProof.Rows L2 Sh
theorem wh_in (s : List Nat) (h2 : 2 ≤ s.length) (h3 : s.length ≤ 64) (w : D) (h : LH) : ∀ (f n : Nat) (js : List Nat), n < f → js.length + n ≤ 15000000 →
    sWh (bTest (eBin dGt (eVar 0) (eC (.int 0)))) (sSeq (sAsg (eBin dAdd (eIx (eVar 1) (eBin dMod (eVar 0) (eVar 4))) (eVar 3)) (gNm 3)) (sAug dDiv 0 (eVar 4))) f [some (.int n), some (.str s), some w, some (.str (sg s js)), some (.int s.length)] h
      = .nx [some (.int (0 : Nat)), some (.str s), some w, some (.str (sg s (dgF s.length f n js))), some (.int s.length)] h
  | 0, n, _, hn, _ => absurd hn (Nat.not_lt_zero _)
  | f + 1, n, js, hn, hb => by
    have test : bTest (eBin dGt (eVar 0) (eC (.int 0))) [some (.int n), some (.str s), some w, some (.str (sg s js)), some (.int s.length)] h = .ok (decide (0 < n)) h := by
      have e : decide ((0 : Int) < (n : Int)) = decide (0 < n) := by congr 1; simp
      show (Res.ok (decide ((0 : Int) < (n : Int))) h) = _
      rw [e]
    unfold sWh dgF
    rw [test]
    by_cases z : n = 0
    · subst z
      rfl
    · have hp : 0 < n := Nat.pos_of_ne_zero z
      have ih := wh_in s h2 h3 w h f (n / s.length) (n % s.length :: js) (div_lt' h2 hn z) (by
        have := Nat.div_lt_self hp (show 1 < s.length by omega)
        simp only [List.length_cons]; omega)
      have hm : n % s.length < s.length := Nat.mod_lt _ (by omega)
      have f2 : fits (0 + 1 + (sg s js).length) = true := Sh.fits_le (by unfold sg; simp only [List.length_map, List.length_cons, List.length_nil]; omega)
      have body : sSeq (sAsg (eBin dAdd (eIx (eVar 1) (eBin dMod (eVar 0) (eVar 4))) (eVar 3)) (gNm 3)) (sAug dDiv 0 (eVar 4)) [some (.int n), some (.str s), some w, some (.str (sg s js)), some (.int s.length)] h
          = .nx [some (.int (n / s.length : Nat)), some (.str s), some w, some (.str (sg s (n % s.length :: js))), some (.int s.length)] h := by
        simp only [fn, sSeq, sIf, bOr, bAnd, bNot, bYes, bTest, eBin, eIx, eVar, eC, eUn, eIf, eChain, eSl, oNo, oYes, sAsg, sExpr, eCall, aCons, aNil, bRes, gNm, sRet, sPar, sPar3, sAug, sRaise, sNil, eLst, eTup, ev_b1, ev_b2, ev_b3, ev_l1, ev_s1, ev_s2, ev_t1, ev_t2, ev_t3, ev_addI, ev_addS, ev_addL, ev_iaddI, ev_sub, ev_neg, ev_eqI, ev_neI, ev_eqS, ev_neS, ev_eqB, ev_neB, ev_ltI, ev_leI, ev_gtI, ev_geI, ev_ltS, ev_len, ev_lenL, ev_lenT, ev_lenF, ev_max, ev_min, ev_int, ev_intB, ev_iteT, ev_iteF, List.getElem?_cons_zero, List.getElem?_cons_succ, List.set_cons_zero, List.set_cons_succ, List.map_cons, List.map_nil, List.length_cons, List.length_nil, List.replicate_succ, List.replicate_zero, List.cons_append, List.nil_append, Bool.not_true, Bool.not_false, Nat.reduceAdd, Nat.reduceSub, if_true, if_false, ev_modN (n := n) (show 0 < s.length by omega), ev_divN (n := n) (show 0 < s.length by omega) (show s.length < 2 ^ 200 by omega), ev_ixS (h := h) hm (show s.length ≤ 16777216 by omega), f2]
        rfl
      rw [if_neg z, decide_eq_true hp]
      simp only [Res.st, if_true]
      rw [body]
      exact ih
theorem dgF_len {b : Nat} (hb : 2 ≤ b) : ∀ (f n : Nat) (acc : List Nat), (dgF b f n acc).length ≤ acc.length + n
  | 0, n, acc => by unfold dgF; omega
  | f + 1, n, acc => by
    unfold dgF
    split
    · omega
    · rename_i hn
      have := dgF_len hb f (n / b) (n % b :: acc)
      have := Nat.div_lt_self (Nat.pos_of_ne_zero hn) (show 1 < b by omega)
      simp only [List.length_cons] at *
      omega
theorem dg_len {b n : Nat} (hb : 2 ≤ b) : (dg b n).length ≤ n := by
  have := dgF_len hb (n + 1) n []
  unfold dg
  simpa using this
theorem ix0 {h : LH} {s : List Nat} (hj : 0 < s.length) (hl : s.length ≤ 16777216) : dIx h (.str s) (.int 0) = some (.str [s.getD 0 0]) := ev_ixS (j := 0) hj hl
theorem rep_int {a b ch : Nat} (ha : a ≤ 10000000) (hb : b ≤ 10000000) : dMul (.str [ch]) (.int ((a : Int) - (b : Int))) = some (.str (List.replicate (a - b) ch)) := by
  rw [ev_mulS]
  have e0 : ((a : Int) - (b : Int)).toNat = a - b := by omega
  have e1 : decide (-(2 ^ 63) ≤ ((a : Int) - (b : Int))) = true := decide_eq_true (by omega)
  have e2 : decide (((a : Int) - (b : Int)) < 2 ^ 63) = true := decide_eq_true (by omega)
  rw [e1, e2, e0, Sh.fits_le (by simp only [List.length_cons, List.length_nil]; omega)]
  simp
theorem sg_pd (s js : List Nat) (w : Nat) : List.replicate (max w 1 - (sg s js).length) (s.getD 0 0) ++ sg s js = sg s (pd w js) := by
  unfold pd sg
  rw [List.map_append, List.map_replicate, List.length_map]
theorem max1 (w : Nat) : (if (1 : Int) > (w : Int) then (1 : Int) else (w : Int)) = ((max w 1 : Nat) : Int) := by split <;> omega
theorem max0 (a b : Nat) : (if ((a : Int) - (b : Int)) > 0 then ((a : Int) - (b : Int)) else 0) = ((a - b : Nat) : Int) := by split <;> omega
theorem wh_in0 {s : List Nat} (h2 : 2 ≤ s.length) (h3 : s.length ≤ 64) (w : D) (h : LH) {f n : Nat} (hf : n < f) (hn : n < 2000000) : sWh (bTest (eBin dGt (eVar 0) (eC (.int 0)))) (sSeq (sAsg (eBin dAdd (eIx (eVar 1) (eBin dMod (eVar 0) (eVar 4))) (eVar 3)) (gNm 3)) (sAug dDiv 0 (eVar 4))) f [some (.int n), some (.str s), some w, some (.str []), some (.int s.length)] h
      = .nx [some (.int (0 : Nat)), some (.str s), some w, some (.str (sg s (dg s.length n))), some (.int s.length)] h := by
  have q := wh_in s h2 h3 w h f n [] hf (by show 0 + n ≤ 15000000; omega)
  rw [dgF_eq h2 hf, List.append_nil] at q
  exact q
theorem in_base_eq {s : List Nat} (hs : s ∈ als) {n w : Nat} (hn : n < 2000000) (hw : w ≤ 60) (h : LH) : g_in_base [.int n, .str s, .int w] h = .ok (.str (sg s (pd w (dg s.length n)))) h := by
  obtain ⟨l2, l3⟩ := al_len s hs
  have wh := wh_in0 l2 l3 (.int w) h (f := fuel) (Nat.lt_of_lt_of_le hn (by decide)) hn
  have c1 : decide ((n : Int) < 0) = false := decide_eq_false (by omega)
  have c2 : decide (0 ≤ (w : Int)) = true := decide_eq_true (by omega)
  have c3 : decide ((w : Int) ≤ 60) = true := decide_eq_true (by omega)
  have f1 : fits s.length = true := Sh.fits_le (by omega)
  have dl := dg_len (n := n) l2
  have f2 : (sg s (dg s.length n)).length ≤ 2000000 := by unfold sg; rw [List.length_map]; omega
  have f3 : fits (sg s (dg s.length n)).length = true := Sh.fits_le (by omega)
  have f4 : fits ((List.replicate (max w 1 - (sg s (dg s.length n)).length) (s.getD 0 0)).length + (sg s (dg s.length n)).length) = true := Sh.fits_le (by rw [List.length_replicate]; omega)
  refine (ev_cAll (n := 3) (f := f_in_base) (ds := [.int n, .str s, .int w]) (h := h) rfl).trans ?_
  unfold f_in_base
  simp (config := { implicitDefEqProofs := false }) only [m_in_base, fn, sSeq, sIf, bOr, bAnd, bNot, bYes, bTest, eBin, eIx, eVar, eC, eUn, eIf, eChain, eSl, oNo, oYes, sAsg, sExpr, eCall, aCons, aNil, bRes, gNm, sRet, sPar, sPar3, sAug, sRaise, sNil, eLst, eTup, ev_b1, ev_b2, ev_b3, ev_l1, ev_s1, ev_s2, ev_t1, ev_t2, ev_t3, ev_addI, ev_addS, ev_addL, ev_iaddI, ev_sub, ev_neg, ev_eqI, ev_neI, ev_eqS, ev_neS, ev_eqB, ev_neB, ev_ltI, ev_leI, ev_gtI, ev_geI, ev_ltS, ev_len, ev_lenL, ev_lenT, ev_lenF, ev_max, ev_min, ev_int, ev_intB, ev_iteT, ev_iteF, List.getElem?_cons_zero, List.getElem?_cons_succ, List.set_cons_zero, List.set_cons_succ, List.map_cons, List.map_nil, List.length_cons, List.length_nil, List.replicate_succ, List.replicate_zero, List.cons_append, List.nil_append, Bool.not_true, Bool.not_false, Nat.reduceAdd, Nat.reduceSub, if_true, if_false, check_ok h s hs, c1, c2, c3, f1, wh, ix0 (h := h) (show 0 < s.length by omega) (show s.length ≤ 16777216 by omega), max1, f3, max0, ev_repl (k := max w 1 - (sg s (dg s.length n)).length) (ch := s.getD 0 0) (by omega), f4, sg_pd]
theorem wh_told (s : List Nat) (h2 : 2 ≤ s.length) (h3 : s.length ≤ 64) (w : D) (h : LH) : ∀ (f n : Nat) (js : List Nat), n < f → js.length + n ≤ 15000000 →
    sWh (bTest (eBin dGt (eVar 0) (eC (.int 0)))) (sPar 3 0 (aCons (eBin dAdd (eIx (eVar 1) (eBin dMod (eVar 0) (eCall (bRes bLen) (aCons (eVar 1) aNil)))) (eVar 3)) (aCons (eBin dDiv (eVar 0) (eCall (bRes bLen) (aCons (eVar 1) aNil))) aNil))) f [some (.int n), some (.str s), some w, some (.str (sg s js))] h
      = .nx [some (.int (0 : Nat)), some (.str s), some w, some (.str (sg s (dgF s.length f n js)))] h
  | 0, n, _, hn, _ => absurd hn (Nat.not_lt_zero _)
  | f + 1, n, js, hn, hb => by
    have test : bTest (eBin dGt (eVar 0) (eC (.int 0))) [some (.int n), some (.str s), some w, some (.str (sg s js))] h = .ok (decide (0 < n)) h := by
      have e : decide ((0 : Int) < (n : Int)) = decide (0 < n) := by congr 1; simp
      show (Res.ok (decide ((0 : Int) < (n : Int))) h) = _
      rw [e]
    unfold sWh dgF
    rw [test]
    by_cases z : n = 0
    · subst z
      rfl
    · have hp : 0 < n := Nat.pos_of_ne_zero z
      have ih := wh_told s h2 h3 w h f (n / s.length) (n % s.length :: js) (div_lt' h2 hn z) (by
        have := Nat.div_lt_self hp (show 1 < s.length by omega)
        simp only [List.length_cons]; omega)
      have hm : n % s.length < s.length := Nat.mod_lt _ (by omega)
      have f1 : fits s.length = true := Sh.fits_le (by omega)
      have f2 : fits (0 + 1 + (sg s js).length) = true := Sh.fits_le (by unfold sg; simp only [List.length_map, List.length_cons, List.length_nil]; omega)
      have body : sPar 3 0 (aCons (eBin dAdd (eIx (eVar 1) (eBin dMod (eVar 0) (eCall (bRes bLen) (aCons (eVar 1) aNil)))) (eVar 3)) (aCons (eBin dDiv (eVar 0) (eCall (bRes bLen) (aCons (eVar 1) aNil))) aNil)) [some (.int n), some (.str s), some w, some (.str (sg s js))] h
          = .nx [some (.int (n / s.length : Nat)), some (.str s), some w, some (.str (sg s (n % s.length :: js)))] h := by
        simp only [fn, sSeq, sIf, bOr, bAnd, bNot, bYes, bTest, eBin, eIx, eVar, eC, eUn, eIf, eChain, eSl, oNo, oYes, sAsg, sExpr, eCall, aCons, aNil, bRes, gNm, sRet, sPar, sPar3, sAug, sRaise, sNil, eLst, eTup, ev_b1, ev_b2, ev_b3, ev_l1, ev_s1, ev_s2, ev_t1, ev_t2, ev_t3, ev_addI, ev_addS, ev_addL, ev_iaddI, ev_sub, ev_neg, ev_eqI, ev_neI, ev_eqS, ev_neS, ev_eqB, ev_neB, ev_ltI, ev_leI, ev_gtI, ev_geI, ev_ltS, ev_len, ev_lenL, ev_lenT, ev_lenF, ev_max, ev_min, ev_int, ev_intB, ev_iteT, ev_iteF, List.getElem?_cons_zero, List.getElem?_cons_succ, List.set_cons_zero, List.set_cons_succ, List.map_cons, List.map_nil, List.length_cons, List.length_nil, List.replicate_succ, List.replicate_zero, List.cons_append, List.nil_append, Bool.not_true, Bool.not_false, Nat.reduceAdd, Nat.reduceSub, if_true, if_false, f1, ev_modN (n := n) (show 0 < s.length by omega), ev_divN (n := n) (show 0 < s.length by omega) (show s.length < 2 ^ 200 by omega), ev_ixS (h := h) hm (show s.length ≤ 16777216 by omega), f2]
        rfl
      rw [if_neg z, decide_eq_true hp]
      simp only [Res.st, if_true]
      rw [body]
      exact ih
theorem wh_told0 {s : List Nat} (h2 : 2 ≤ s.length) (h3 : s.length ≤ 64) (w : D) (h : LH) {f n : Nat} (hf : n < f) (hn : n < 2000000) : sWh (bTest (eBin dGt (eVar 0) (eC (.int 0)))) (sPar 3 0 (aCons (eBin dAdd (eIx (eVar 1) (eBin dMod (eVar 0) (eCall (bRes bLen) (aCons (eVar 1) aNil)))) (eVar 3)) (aCons (eBin dDiv (eVar 0) (eCall (bRes bLen) (aCons (eVar 1) aNil))) aNil))) f [some (.int n), some (.str s), some w, some (.str [])] h
      = .nx [some (.int (0 : Nat)), some (.str s), some w, some (.str (sg s (dg s.length n)))] h := by
  have q := wh_told s h2 h3 w h f n [] hf (by show 0 + n ≤ 15000000; omega)
  rw [dgF_eq h2 hf, List.append_nil] at q
  exact q
theorem told_in_eq {s : List Nat} (hs : s ∈ als) {n w : Nat} (hn : n < 2000000) (hw : w ≤ 1000) (h : LH) : g_x_law_told_in [.int n, .str s, .int w] h = .ok (.str (sg s (pd w (dg s.length n)))) h := by
  obtain ⟨l2, l3⟩ := al_len s hs
  have wh := wh_told0 l2 l3 (.int w) h (f := fuel) (Nat.lt_of_lt_of_le hn (by decide)) hn
  have dl := dg_len (n := n) l2
  have f2 : (sg s (dg s.length n)).length ≤ 2000000 := by unfold sg; rw [List.length_map]; omega
  have f3 : fits (sg s (dg s.length n)).length = true := Sh.fits_le (by omega)
  have f4 : fits ((List.replicate (max w 1 - (sg s (dg s.length n)).length) (s.getD 0 0)).length + (sg s (dg s.length n)).length) = true := Sh.fits_le (by rw [List.length_replicate]; omega)
  refine (ev_cAll (n := 3) (f := f_x_law_told_in) (ds := [.int n, .str s, .int w]) (h := h) rfl).trans ?_
  unfold f_x_law_told_in
  simp only [m_x_law_told_in, fn, sSeq, sIf, bOr, bAnd, bNot, bYes, bTest, eBin, eIx, eVar, eC, eUn, eIf, eChain, eSl, oNo, oYes, sAsg, sExpr, eCall, aCons, aNil, bRes, gNm, sRet, sPar, sPar3, sAug, sRaise, sNil, eLst, eTup, ev_b1, ev_b2, ev_b3, ev_l1, ev_s1, ev_s2, ev_t1, ev_t2, ev_t3, ev_addI, ev_addS, ev_addL, ev_iaddI, ev_sub, ev_neg, ev_eqI, ev_neI, ev_eqS, ev_neS, ev_eqB, ev_neB, ev_ltI, ev_leI, ev_gtI, ev_geI, ev_ltS, ev_len, ev_lenL, ev_lenT, ev_lenF, ev_max, ev_min, ev_int, ev_intB, ev_iteT, ev_iteF, List.getElem?_cons_zero, List.getElem?_cons_succ, List.set_cons_zero, List.set_cons_succ, List.map_cons, List.map_nil, List.length_cons, List.length_nil, List.replicate_succ, List.replicate_zero, List.cons_append, List.nil_append, Bool.not_true, Bool.not_false, Nat.reduceAdd, Nat.reduceSub, if_true, if_false, wh, ix0 (h := h) (show 0 < s.length by omega) (show s.length ≤ 16777216 by omega), max1, f3, rep_int (a := max w 1) (b := (sg s (dg s.length n)).length) (ch := s.getD 0 0) (by omega) (by omega), f4, sg_pd]
end K01

set_option Elab.async false
set_option linter.all false
set_option maxRecDepth 100000
set_option maxHeartbeats 4000000
namespace K01
open PySem PySem.Spec PyProof.Rows L2 Sh
def inC (s : List Nat) : Bool := (List.range s.length).all fun j => match dNotIn (.str [s.getD j 0]) (.str s) with
  | some (.bl false) => true
  | _ => false
def fiC (s : List Nat) : Bool := (List.range s.length).all fun j => match gFind s [s.getD j 0] with
  | some (.int i) => decide (i = (j : Int))
  | _ => false
theorem al_in {s : List Nat} (hs : s ∈ als) {j : Nat} (hj : j < s.length) : dNotIn (.str [s.getD j 0]) (.str s) = some (.bl false) := by
  have h : als.all inC = true := by decide +kernel
  have q := List.all_eq_true.mp (List.all_eq_true.mp h s hs) j (List.mem_range.mpr hj)
  split at q
  · assumption
  · cases q
theorem al_find {s : List Nat} (hs : s ∈ als) {j : Nat} (hj : j < s.length) : gFind s [s.getD j 0] = some (.int (j : Int)) := by
  have h : als.all fiC = true := by decide +kernel
  have q := List.all_eq_true.mp (List.all_eq_true.mp h s hs) j (List.mem_range.mpr hj)
  split at q
  · rename_i i e
    rw [e, of_decide_eq_true q]
  · cases q
/-- the number that figures tell -/
def vl (b : Nat) (js : List Nat) : Nat := js.foldl (fun a j => a * b + j) 0
def items (s js : List Nat) : List D := (sg s js).map fun c => .str [c]
theorem any_in {s : List Nat} (hs : s ∈ als) (t f : Option D) (h : LH) : ∀ js : List Nat, (∀ j ∈ js, j < s.length) → tAnyR (gxTr [2] (gNm 2) bYes (eBin dNotIn (eVar 2) (eVar 1)) [t, some (.str s), none, f] (items s js) h) = .ok (.bl false) h
  | [], _ => rfl
  | j :: js, hj => by
    have ih := any_in hs t f h js fun i hi => hj i (List.mem_cons_of_mem _ hi)
    have e := al_in hs (hj j (List.mem_cons_self ..))
    have step : (eBin dNotIn (eVar 2) (eVar 1)) [t, some (.str s), some (.str [s.getD j 0]), f] h = .ok (.bl false) h := by
      simp (config := { implicitDefEqProofs := false }) only [fn, sSeq, sIf, bOr, bAnd, bNot, bYes, bTest, eBin, eIx, eVar, eC, eUn, eIf, eChain, eSl, oNo, oYes, sAsg, sExpr, eCall, aCons, aNil, bRes, gNm, sRet, sPar, sPar3, sAug, sRaise, sNil, eLst, eTup, ev_b1, ev_b2, ev_b3, ev_l1, ev_s1, ev_s2, ev_t1, ev_t2, ev_t3, ev_addI, ev_addS, ev_addL, ev_iaddI, ev_sub, ev_neg, ev_eqI, ev_neI, ev_eqS, ev_neS, ev_eqB, ev_neB, ev_ltI, ev_leI, ev_gtI, ev_geI, ev_ltS, ev_len, ev_lenL, ev_lenT, ev_lenF, ev_max, ev_min, ev_int, ev_intB, ev_iteT, ev_iteF, List.getElem?_cons_zero, List.getElem?_cons_succ, List.set_cons_zero, List.set_cons_succ, List.map_cons, List.map_nil, List.length_cons, List.length_nil, List.replicate_succ, List.replicate_zero, List.cons_append, List.nil_append, Bool.not_true, Bool.not_false, Nat.reduceAdd, Nat.reduceSub, if_true, if_false, e]
    show tAnyR (match (eBin dNotIn (eVar 2) (eVar 1)) [t, some (.str s), some (.str [s.getD j 0]), f] h with
      | .ok y h4 => .yld y h4 (gxTr [2] (gNm 2) bYes (eBin dNotIn (eVar 2) (eVar 1)) [t, some (.str s), none, f] (items s js) h4)
      | _ => .err) = _
    rw [step]
    exact ih
theorem for_vl {s : List Nat} (hs : s ∈ als) (t : D) (h : LH) : ∀ (js : List Nat) (o : Option D) (v : Nat), (∀ j ∈ js, j < s.length) →
    ∃ o', sFor (gNm 2) (sAsg (eBin dAdd (eBin dMul (eVar 3) (eCall (bRes bLen) (aCons (eVar 1) aNil))) (eMt "str" (mS1 gFind) (eVar 1) (aCons (eVar 2) aNil))) (gNm 3)) (items s js) [some t, some (.str s), o, some (.int v)] h
      = .nx [some t, some (.str s), o', some (.int (js.foldl (fun a j => a * s.length + j) v : Nat))] h
  | [], o, v, _ => ⟨o, rfl⟩
  | j :: js, o, v, hj => by
    obtain ⟨l2, l3⟩ := al_len s hs
    obtain ⟨o', ih⟩ := for_vl hs t h js (some (.str [s.getD j 0])) (v * s.length + j) fun i hi => hj i (List.mem_cons_of_mem _ hi)
    refine ⟨o', ?_⟩
    have e := al_find hs (hj j (List.mem_cons_self ..))
    have f1 : fits s.length = true := Sh.fits_le (by omega)
    have em : mS1 gFind (.str s) [.str [s.getD j 0]] h = some (.int (j : Int), h) := by
      simp only [mS1, e, Option.map_some]
    have ty : tyD "str" (.str s) h = true := rfl
    have step : sAsg (eBin dAdd (eBin dMul (eVar 3) (eCall (bRes bLen) (aCons (eVar 1) aNil))) (eMt "str" (mS1 gFind) (eVar 1) (aCons (eVar 2) aNil))) (gNm 3) [some t, some (.str s), some (.str [s.getD j 0]), some (.int v)] h
        = .nx [some t, some (.str s), some (.str [s.getD j 0]), some (.int (v * s.length + j : Nat))] h := by
      simp (config := { implicitDefEqProofs := false }) only [fn, sSeq, sIf, bOr, bAnd, bNot, bYes, bTest, eBin, eIx, eVar, eC, eUn, eIf, eChain, eSl, oNo, oYes, sAsg, sExpr, eCall, aCons, aNil, bRes, gNm, sRet, sPar, sPar3, sAug, sRaise, sNil, eLst, eTup, ev_b1, ev_b2, ev_b3, ev_l1, ev_s1, ev_s2, ev_t1, ev_t2, ev_t3, ev_addI, ev_addS, ev_addL, ev_iaddI, ev_sub, ev_neg, ev_eqI, ev_neI, ev_eqS, ev_neS, ev_eqB, ev_neB, ev_ltI, ev_leI, ev_gtI, ev_geI, ev_ltS, ev_len, ev_lenL, ev_lenT, ev_lenF, ev_max, ev_min, ev_int, ev_intB, ev_iteT, ev_iteF, List.getElem?_cons_zero, List.getElem?_cons_succ, List.set_cons_zero, List.set_cons_succ, List.map_cons, List.map_nil, List.length_cons, List.length_nil, List.replicate_succ, List.replicate_zero, List.cons_append, List.nil_append, Bool.not_true, Bool.not_false, Nat.reduceAdd, Nat.reduceSub, if_true, if_false, f1, ev_mulN (n := v) (show s.length < 2 ^ 64 by omega), eMt, ty, em]
      rfl
    show (match sAsg (eBin dAdd (eBin dMul (eVar 3) (eCall (bRes bLen) (aCons (eVar 1) aNil))) (eMt "str" (mS1 gFind) (eVar 1) (aCons (eVar 2) aNil))) (gNm 3) [some t, some (.str s), some (.str [s.getD j 0]), some (.int v)] h with
      | .nx ρ' h' => sFor (gNm 2) (sAsg (eBin dAdd (eBin dMul (eVar 3) (eCall (bRes bLen) (aCons (eVar 1) aNil))) (eMt "str" (mS1 gFind) (eVar 1) (aCons (eVar 2) aNil))) (gNm 3)) (items s js) ρ' h'
      | .ct ρ' h' => sFor (gNm 2) (sAsg (eBin dAdd (eBin dMul (eVar 3) (eCall (bRes bLen) (aCons (eVar 1) aNil))) (eMt "str" (mS1 gFind) (eVar 1) (aCons (eVar 2) aNil))) (gNm 3)) (items s js) ρ' h'
      | .bk ρ' h' => .nx ρ' h'
      | .rt d h' => .rt d h'
      | .ex c ρ' h' => .ex c ρ' h'
      | .er => .er) = _
    rw [step]
    exact ih
theorem from_base_eq {s js : List Nat} (hs : s ∈ als) (hj : ∀ j ∈ js, j < s.length) (h1 : 1 ≤ js.length) (h60 : js.length ≤ 60) (h : LH) : g_from_base [.str (sg s js), .str s] h = .ok (.int (vl s.length js)) h := by
  obtain ⟨l2, l3⟩ := al_len s hs
  have e1 := any_in hs (some (.str (sg s js))) none h js hj
  obtain ⟨o', e2⟩ := for_vl hs (.str (sg s js)) h js none 0 hj
  have fl : (sg s js).length = js.length := by unfold sg; rw [List.length_map]
  have f1 : fits js.length = true := Sh.fits_le (by omega)
  have c1 : decide (1 ≤ (js.length : Int)) = true := decide_eq_true (by omega)
  have c2 : decide ((js.length : Int) ≤ 60) = true := decide_eq_true (by omega)
  refine (ev_cAll (n := 2) (f := f_from_base) (ds := [.str (sg s js), .str s]) (h := h) rfl).trans ?_
  unfold f_from_base
  have i1 : ∀ ρ : En, iSeq (eVar 0) (some (.str (sg s js)) :: ρ) h = .ok ⟨items s js, none⟩ h := fun ρ => rfl
  simp (config := { implicitDefEqProofs := false }) only [m_from_base, fn, sSeq, sIf, bOr, bAnd, bNot, bYes, bTest, eBin, eIx, eVar, eC, eUn, eIf, eChain, eSl, oNo, oYes, sAsg, sExpr, eCall, aCons, aNil, bRes, gNm, sRet, sPar, sPar3, sAug, sRaise, sNil, eLst, eTup, ev_b1, ev_b2, ev_b3, ev_l1, ev_s1, ev_s2, ev_t1, ev_t2, ev_t3, ev_addI, ev_addS, ev_addL, ev_iaddI, ev_sub, ev_neg, ev_eqI, ev_neI, ev_eqS, ev_neS, ev_eqB, ev_neB, ev_ltI, ev_leI, ev_gtI, ev_geI, ev_ltS, ev_len, ev_lenL, ev_lenT, ev_lenF, ev_max, ev_min, ev_int, ev_intB, ev_iteT, ev_iteF, List.getElem?_cons_zero, List.getElem?_cons_succ, List.set_cons_zero, List.set_cons_succ, List.map_cons, List.map_nil, List.length_cons, List.length_nil, List.replicate_succ, List.replicate_zero, List.cons_append, List.nil_append, Bool.not_true, Bool.not_false, Nat.reduceAdd, Nat.reduceSub, if_true, if_false, check_ok h s hs, fl, f1, c1, c2, eGx, i1, e1, sForI, e2]
  rw [show ((0 : Nat) : Int) = 0 from rfl] at e2
  rw [e2]
  rfl
end K01

set_option Elab.async false
set_option linter.all false
set_option maxRecDepth 100000
set_option maxHeartbeats 4000000
namespace K01
open PySem PySem.Spec PyProof.Rows L2 Sh
/-! ### figures tell their number -/
theorem vl_app (b : Nat) (js ks : List Nat) : vl b (js ++ ks) = ks.foldl (fun a j => a * b + j) (vl b js) := by unfold vl; rw [List.foldl_append]
theorem vl_snoc (b : Nat) (js : List Nat) (j : Nat) : vl b (js ++ [j]) = vl b js * b + j := by rw [vl_app]; rfl
theorem vl_zeros (b : Nat) (js : List Nat) : ∀ k : Nat, vl b (List.replicate k 0 ++ js) = vl b js
  | 0 => rfl
  | k + 1 => by
    have ih := vl_zeros b js k
    unfold vl at ih ⊢
    rw [List.replicate_succ, List.cons_append, List.foldl_cons, Nat.zero_mul, Nat.add_zero]
    exact ih
theorem dg_step {b n : Nat} (hb : 2 ≤ b) (hn : n ≠ 0) : dg b n = dg b (n / b) ++ [n % b] := by
  show dgF b (n + 1) n [] = _
  unfold dgF
  rw [if_neg hn, dgF_eq hb (Nat.div_lt_self (Nat.pos_of_ne_zero hn) (by omega))]
theorem dg_zero (b : Nat) : dg b 0 = [] := rfl
theorem vl_dg {b : Nat} (hb : 2 ≤ b) (n : Nat) : vl b (dg b n) = n := by
  induction n using Nat.strongRecOn with
  | ind n ih =>
    by_cases hn : n = 0
    · subst hn; rfl
    · rw [dg_step hb hn, vl_snoc, ih _ (Nat.div_lt_self (Nat.pos_of_ne_zero hn) (by omega))]
      exact Nat.div_add_mod' n b
theorem dg_lt {b : Nat} (hb : 2 ≤ b) (n : Nat) : ∀ j ∈ dg b n, j < b := by
  induction n using Nat.strongRecOn with
  | ind n ih =>
    by_cases hn : n = 0
    · subst hn; intro j hj; cases hj
    · rw [dg_step hb hn]
      intro j hj
      rcases List.mem_append.mp hj with hj | hj
      · exact ih _ (Nat.div_lt_self (Nat.pos_of_ne_zero hn) (by omega)) j hj
      · rw [List.mem_singleton.mp hj]
        exact Nat.mod_lt _ (by omega)
theorem dg_len2 {b : Nat} (hb : 2 ≤ b) : ∀ (k n : Nat), n < b ^ k → (dg b n).length ≤ k
  | 0, n, h => by
    have : n = 0 := by simpa using h
    subst this
    exact Nat.le_refl _
  | k + 1, n, h => by
    by_cases hn : n = 0
    · subst hn; rw [dg_zero]; simp
    · rw [dg_step hb hn, List.length_append]
      have := dg_len2 hb k (n / b) (Nat.div_lt_of_lt_mul (by rw [Nat.pow_succ, Nat.mul_comm] at h; exact h))
      simp only [List.length_singleton]
      omega
theorem pd_len (w : Nat) (js : List Nat) : (pd w js).length = max (max w 1) js.length := by
  unfold pd
  rw [List.length_append, List.length_replicate]
  omega
theorem pd_lt {b w : Nat} {js : List Nat} (hb : 0 < b) (h : ∀ j ∈ js, j < b) : ∀ j ∈ pd w js, j < b := by
  intro j hj
  unfold pd at hj
  rcases List.mem_append.mp hj with hj | hj
  · rw [List.eq_of_mem_replicate hj]; exact hb
  · exact h j hj
theorem vl_pd {b : Nat} (hb : 2 ≤ b) (w n : Nat) : vl b (pd w (dg b n)) = n := by
  unfold pd
  rw [vl_zeros, vl_dg hb]
theorem pow_le {b k : Nat} (hb : 2 ≤ b) : 2 ^ k ≤ b ^ k := Nat.pow_le_pow_left hb k
/-- a number told is read -/
theorem back_eq {s : List Nat} (hs : s ∈ als) {n w : Nat} (hn : n < 2000000) (hw : w ≤ 60) (h : LH) : g_from_base [.str (sg s (pd w (dg s.length n))), .str s] h = .ok (.int n) h := by
  obtain ⟨l2, l3⟩ := al_len s hs
  have dl : (dg s.length n).length ≤ 21 := dg_len2 l2 21 n (Nat.lt_of_lt_of_le (show n < 2 ^ 21 by omega) (pow_le l2))
  have q := from_base_eq (js := pd w (dg s.length n)) hs (pd_lt (by omega) (dg_lt l2 n)) (by rw [pd_len]; omega) (by rw [pd_len]; omega) h
  rw [vl_pd l2] at q
  exact q
theorem in_base_d2 {s : List Nat} (hs : s ∈ als) {n : Nat} (hn : n < 2000000) (h : LH) : g_in_base_d2 [.int n, .str s] h = .ok (.str (sg s (pd 0 (dg s.length n)))) h := by
  have e : g_in_base_d2 [.int n, .str s] h = f_in_base [.int n, .str s, .int 0] h := by
    unfold g_in_base_d2 cDfl
    rw [if_pos (by rfl)]
    rfl
  have e2 : g_in_base [.int n, .str s, .int ((0 : Nat) : Int)] h = f_in_base [.int n, .str s, .int 0] h := (ev_cAll (n := 3) (f := f_in_base) (ds := [.int n, .str s, .int ((0 : Nat) : Int)]) (h := h) rfl)
  rw [e, ← e2]
  exact in_base_eq hs hn (by omega) h
theorem between_eq {s t : List Nat} (hs : s ∈ als) (ht : t ∈ als) {n w : Nat} (hn : n < 2000000) (hw : w ≤ 60) (h : LH) : g_between_bases [.str (sg s (pd w (dg s.length n))), .str s, .str t, .int w] h = .ok (.str (sg t (pd w (dg t.length n)))) h := by
  refine (ev_cAll (n := 4) (f := f_between_bases) (ds := [.str (sg s (pd w (dg s.length n))), .str s, .str t, .int w]) (h := h) rfl).trans ?_
  unfold f_between_bases
  simp (config := { implicitDefEqProofs := false }) only [m_between_bases, fn, sSeq, sIf, bOr, bAnd, bNot, bYes, bTest, eBin, eIx, eVar, eC, eUn, eIf, eChain, eSl, oNo, oYes, sAsg, sExpr, eCall, aCons, aNil, bRes, gNm, sRet, sPar, sPar3, sAug, sRaise, sNil, eLst, eTup, ev_b1, ev_b2, ev_b3, ev_l1, ev_s1, ev_s2, ev_t1, ev_t2, ev_t3, ev_addI, ev_addS, ev_addL, ev_iaddI, ev_sub, ev_neg, ev_eqI, ev_neI, ev_eqS, ev_neS, ev_eqB, ev_neB, ev_ltI, ev_leI, ev_gtI, ev_geI, ev_ltS, ev_len, ev_lenL, ev_lenT, ev_lenF, ev_max, ev_min, ev_int, ev_intB, ev_iteT, ev_iteF, List.getElem?_cons_zero, List.getElem?_cons_succ, List.set_cons_zero, List.set_cons_succ, List.map_cons, List.map_nil, List.length_cons, List.length_nil, List.replicate_succ, List.replicate_zero, List.cons_append, List.nil_append, Bool.not_true, Bool.not_false, Nat.reduceAdd, Nat.reduceSub, if_true, if_false, back_eq hs hn hw h, in_base_eq ht hn hw h]
theorem sg_len (s js : List Nat) : (sg s js).length = js.length := by unfold sg; rw [List.length_map]
theorem next_eq {s : List Nat} (hs : s ∈ als) {n w : Nat} (hn : n + 1 < 2000000) (hw : w ≤ 60) (h : LH) : g_next_text [.str (sg s (pd w (dg s.length n))), .str s] h = .ok (.str (sg s (pd (pd w (dg s.length n)).length (dg s.length (n + 1))))) h := by
  obtain ⟨l2, l3⟩ := al_len s hs
  have dl : (dg s.length n).length ≤ 21 := dg_len2 l2 21 n (Nat.lt_of_lt_of_le (show n < 2 ^ 21 by omega) (pow_le l2))
  have pl : (pd w (dg s.length n)).length ≤ 60 := by rw [pd_len]; omega
  have f1 : fits (pd w (dg s.length n)).length = true := Sh.fits_le (by omega)
  have mn : (if (((pd w (dg s.length n)).length : Nat) : Int) < 60 then (((pd w (dg s.length n)).length : Nat) : Int) else 60) = (((pd w (dg s.length n)).length : Nat) : Int) := by split <;> omega
  have e1 : (n : Int) + 1 = ((n + 1 : Nat) : Int) := by omega
  refine (ev_cAll (n := 2) (f := f_next_text) (ds := [.str (sg s (pd w (dg s.length n))), .str s]) (h := h) rfl).trans ?_
  unfold f_next_text
  simp (config := { implicitDefEqProofs := false }) only [m_next_text, fn, sSeq, sIf, bOr, bAnd, bNot, bYes, bTest, eBin, eIx, eVar, eC, eUn, eIf, eChain, eSl, oNo, oYes, sAsg, sExpr, eCall, aCons, aNil, bRes, gNm, sRet, sPar, sPar3, sAug, sRaise, sNil, eLst, eTup, ev_b1, ev_b2, ev_b3, ev_l1, ev_s1, ev_s2, ev_t1, ev_t2, ev_t3, ev_addI, ev_addS, ev_addL, ev_iaddI, ev_sub, ev_neg, ev_eqI, ev_neI, ev_eqS, ev_neS, ev_eqB, ev_neB, ev_ltI, ev_leI, ev_gtI, ev_geI, ev_ltS, ev_len, ev_lenL, ev_lenT, ev_lenF, ev_max, ev_min, ev_int, ev_intB, ev_iteT, ev_iteF, List.getElem?_cons_zero, List.getElem?_cons_succ, List.set_cons_zero, List.set_cons_succ, List.map_cons, List.map_nil, List.length_cons, List.length_nil, List.replicate_succ, List.replicate_zero, List.cons_append, List.nil_append, Bool.not_true, Bool.not_false, Nat.reduceAdd, Nat.reduceSub, if_true, if_false, back_eq hs (show n < 2000000 by omega) hw h, sg_len, f1, mn, e1, in_base_eq hs hn pl h]
end K01

set_option Elab.async false
set_option linter.all false
set_option maxRecDepth 100000
set_option maxHeartbeats 4000000
namespace K01
open PySem PySem.Spec PyProof.Rows L2 Sh
theorem ev_imulN {n b : Nat} (hb : b < 2 ^ 64) : dIMul (.int n) (.int b) = some (.int ((n * b : Nat) : Int)) := by
  show (if mulOk (n : Int) (b : Int) then some (D.int ((n : Int) * (b : Int))) else none) = _
  rw [mul_ok (.inr (by simpa using hb)), ev_iteT]
  push_cast; rfl
theorem for_pow {b : Nat} (hb : b < 2 ^ 64) (m : Option D) (h : LH) : ∀ (l : List D) (v : Nat) (o : Option D), ∃ o', sFor (gNm 3) (sAug dIMul 2 (eVar 0)) l [some (.int b), m, some (.int v), o] h = .nx [some (.int b), m, some (.int (v * b ^ l.length : Nat)), o'] h
  | [], v, o => ⟨o, by simp [sFor]⟩
  | d :: l, v, o => by
    obtain ⟨o', ih⟩ := for_pow hb m h l (v * b) (some d)
    refine ⟨o', ?_⟩
    have step : sAug dIMul 2 (eVar 0) [some (.int b), m, some (.int v), some d] h = .nx [some (.int b), m, some (.int (v * b : Nat)), some d] h := by
      simp (config := { implicitDefEqProofs := false }) only [fn, sSeq, sIf, bOr, bAnd, bNot, bYes, bTest, eBin, eIx, eVar, eC, eUn, eIf, eChain, eSl, oNo, oYes, sAsg, sExpr, eCall, aCons, aNil, bRes, gNm, sRet, sPar, sPar3, sAug, sRaise, sNil, eLst, eTup, ev_b1, ev_b2, ev_b3, ev_l1, ev_s1, ev_s2, ev_t1, ev_t2, ev_t3, ev_addI, ev_addS, ev_addL, ev_iaddI, ev_sub, ev_neg, ev_eqI, ev_neI, ev_eqS, ev_neS, ev_eqB, ev_neB, ev_ltI, ev_leI, ev_gtI, ev_geI, ev_ltS, ev_len, ev_lenL, ev_lenT, ev_lenF, ev_max, ev_min, ev_int, ev_intB, ev_iteT, ev_iteF, List.getElem?_cons_zero, List.getElem?_cons_succ, List.set_cons_zero, List.set_cons_succ, List.map_cons, List.map_nil, List.length_cons, List.length_nil, List.replicate_succ, List.replicate_zero, List.cons_append, List.nil_append, Bool.not_true, Bool.not_false, Nat.reduceAdd, Nat.reduceSub, if_true, if_false, ev_imulN (n := v) hb]
    show (match sAug dIMul 2 (eVar 0) [some (.int b), m, some (.int v), some d] h with
      | .nx ρ' h' => sFor (gNm 3) (sAug dIMul 2 (eVar 0)) l ρ' h'
      | .ct ρ' h' => sFor (gNm 3) (sAug dIMul 2 (eVar 0)) l ρ' h'
      | .bk ρ' h' => .nx ρ' h'
      | .rt d h' => .rt d h'
      | .ex c ρ' h' => .ex c ρ' h'
      | .er => .er) = _
    rw [step]
    show sFor (gNm 3) (sAug dIMul 2 (eVar 0)) l [some (.int b), m, some (.int (v * b : Nat)), some d] h = _
    rw [ih, List.length_cons, Nat.pow_succ, Nat.mul_assoc, Nat.mul_comm b]
theorem rng_len (n : Nat) : (rngD 0 n).length = n := by unfold rngD; simp
theorem rng1 {j : Nat} (hj : j ≤ 1000000) {ma : Av} {ρ : En} {h : LH} (e : ma ρ h = .ok [.int (j : Int)] h)  : Sh.iRng1 ma ρ h = .ok ⟨rngD 0 j, none⟩ h := by
  have hr : Sh.inR (j : Int) = true := by
    unfold Sh.inR
    rw [decide_eq_true (show (-4611686018427387904 : Int) ≤ (j : Int) by omega), decide_eq_true (show (j : Int) < 4611686018427387904 by omega)]; rfl
  have et : ((j : Int)).toNat = j := by simp
  unfold Sh.iRng1
  rw [e]
  simp (config := { implicitDefEqProofs := false }) only [ev_b1, hr, if_true, et]
theorem power_eq {b n : Nat} (hb : b < 2 ^ 64) (hn : n ≤ 1000000) (h : LH) : g_power_of [.int b, .int n] h = .ok (.int (b ^ n : Nat)) h := by
  have i1 := rng1 hn (ma := aCons (eVar 1) aNil) (ρ := [some (.int b), some (.int n), some (.int 1), none]) (h := h) rfl
  obtain ⟨o', e⟩ := for_pow hb (some (.int n)) h (rngD 0 n) 1 none
  rw [rng_len, Nat.one_mul, show ((1 : Nat) : Int) = 1 from rfl] at e
  exact fn_rt rfl (seq_nx (ρ1 := [some (.int b), some (.int n), some (.int 1), none]) (h1 := h) rfl (seq_nx (for_of i1 e) (ret_ok (var_ok rfl))))
theorem power2 {n : Nat} (hn : n ≤ 1000000) (h : LH) : g_power_of [.int 2, .int n] h = .ok (.int (2 ^ n : Nat)) h := power_eq (b := 2) (by decide) hn h
/-- the least power from k on that holds so many -/
def nd (b many : Nat) : Nat → Nat → Nat
  | 0, k => k
  | f + 1, k => if b ^ k < many then nd b many f (k + 1) else k
theorem wh_need {b many : Nat} (hb : b < 2 ^ 64) (h : LH) : ∀ (f F k : Nat), f < F → many ≤ b ^ (k + f) →
    sWh (bTest (eBin dLt (eVar 3) (eVar 0))) (sSeq (sAug dIMul 3 (eVar 1)) (sAug dIAdd 2 (eC (.int 1)))) F [some (.int many), some (.int b), some (.int k), some (.int (b ^ k : Nat))] h
      = .nx [some (.int many), some (.int b), some (.int (nd b many f k)), some (.int (b ^ (nd b many f k) : Nat))] h
  | f, 0, k, hf, _ => absurd hf (Nat.not_lt_zero _)
  | f, F + 1, k, hf, hm => by
    have e : decide (((b ^ k : Nat) : Int) < (many : Int)) = decide (b ^ k < many) := by congr 1; exact propext (by omega)
    have test : bTest (eBin dLt (eVar 3) (eVar 0)) [some (.int many), some (.int b), some (.int k), some (.int (b ^ k : Nat))] h = .ok (decide (b ^ k < many)) h := by
      rw [← e]; rfl
    unfold sWh
    rw [test, ev_s1]
    by_cases z : b ^ k < many
    · cases f with
      | zero => simp only [Nat.add_zero] at hm; omega
      | succ f =>
        have ih := wh_need hb h f F (k + 1) (by omega) (by rw [show k + 1 + f = k + (f + 1) from by omega]; exact hm)
        have body : sSeq (sAug dIMul 3 (eVar 1)) (sAug dIAdd 2 (eC (.int 1))) [some (.int many), some (.int b), some (.int k), some (.int (b ^ k : Nat))] h = .nx [some (.int many), some (.int b), some (.int (k + 1 : Nat)), some (.int (b ^ (k + 1) : Nat))] h := by
          simp (config := { implicitDefEqProofs := false }) only [fn, sSeq, sIf, bOr, bAnd, bNot, bYes, bTest, eBin, eIx, eVar, eC, eUn, eIf, eChain, eSl, oNo, oYes, sAsg, sExpr, eCall, aCons, aNil, bRes, gNm, sRet, sPar, sPar3, sAug, sRaise, sNil, eLst, eTup, ev_b1, ev_b2, ev_b3, ev_l1, ev_s1, ev_s2, ev_t1, ev_t2, ev_t3, ev_addI, ev_addS, ev_addL, ev_iaddI, ev_sub, ev_neg, ev_eqI, ev_neI, ev_eqS, ev_neS, ev_eqB, ev_neB, ev_ltI, ev_leI, ev_gtI, ev_geI, ev_ltS, ev_len, ev_lenL, ev_lenT, ev_lenF, ev_max, ev_min, ev_int, ev_intB, ev_iteT, ev_iteF, List.getElem?_cons_zero, List.getElem?_cons_succ, List.set_cons_zero, List.set_cons_succ, List.map_cons, List.map_nil, List.length_cons, List.length_nil, List.replicate_succ, List.replicate_zero, List.cons_append, List.nil_append, Bool.not_true, Bool.not_false, Nat.reduceAdd, Nat.reduceSub, if_true, if_false, ev_imulN (n := b ^ k) hb, Nat.pow_succ]
          rfl
        rw [decide_eq_true z, if_pos rfl, body]
        show sWh _ _ F _ h = _
        rw [ih, show nd b many (f + 1) k = nd b many f (k + 1) from if_pos z]
    · rw [decide_eq_false z, if_neg Bool.false_ne_true]
      have e2 : nd b many f k = k := by
        cases f with
        | zero => rfl
        | succ f => exact if_neg z
      rw [e2]
theorem signs_needed_eq {b many : Nat} (hb : 2 ≤ b) (hb2 : b < 2 ^ 64) (h1 : 1 ≤ many) (h2 : many ≤ 2 ^ 14) (h : LH) : g_signs_needed [.int many, .int b] h = .ok (.int (nd b many 13 1)) h := by
  have w := wh_need hb2 h 13 fuel 1 (by decide) (Nat.le_trans h2 (Nat.pow_le_pow_left hb 14))
  rw [Nat.pow_one, show ((1 : Nat) : Int) = 1 from rfl] at w
  have c1 : decide ((many : Int) < 1) = false := decide_eq_false (by omega)
  have c2 : decide ((b : Int) < 2) = false := decide_eq_false (by omega)
  refine (ev_cAll (n := 2) (f := f_signs_needed) (ds := [.int many, .int b]) (h := h) rfl).trans ?_
  unfold f_signs_needed
  simp (config := { implicitDefEqProofs := false }) only [m_signs_needed, fn, sSeq, sIf, bOr, bAnd, bNot, bYes, bTest, eBin, eIx, eVar, eC, eUn, eIf, eChain, eSl, oNo, oYes, sAsg, sExpr, eCall, aCons, aNil, bRes, gNm, sRet, sPar, sPar3, sAug, sRaise, sNil, eLst, eTup, ev_b1, ev_b2, ev_b3, ev_l1, ev_s1, ev_s2, ev_t1, ev_t2, ev_t3, ev_addI, ev_addS, ev_addL, ev_iaddI, ev_sub, ev_neg, ev_eqI, ev_neI, ev_eqS, ev_neS, ev_eqB, ev_neB, ev_ltI, ev_leI, ev_gtI, ev_geI, ev_ltS, ev_len, ev_lenL, ev_lenT, ev_lenF, ev_max, ev_min, ev_int, ev_intB, ev_iteT, ev_iteF, List.getElem?_cons_zero, List.getElem?_cons_succ, List.set_cons_zero, List.set_cons_succ, List.map_cons, List.map_nil, List.length_cons, List.length_nil, List.replicate_succ, List.replicate_zero, List.cons_append, List.nil_append, Bool.not_true, Bool.not_false, Nat.reduceAdd, Nat.reduceSub, if_true, if_false, c1, c2, w]
end K01

set_option Elab.async false
set_option linter.all false
set_option maxRecDepth 100000
set_option maxHeartbeats 4000000
namespace K01
open PySem PySem.Spec PyProof.Rows L2 Sh
/-! ### bits -/
def iL (l : List Nat) : List D := l.map fun (j : Nat) => D.int (j : Int)
/-- the last w bits of n, the greatest first -/
def bl : Nat → Nat → List Nat
  | 0, _ => []
  | w + 1, n => n / 2 ^ w % 2 :: bl w n
theorem bl_len : ∀ w n : Nat, (bl w n).length = w
  | 0, _ => rfl
  | w + 1, n => by unfold bl; rw [List.length_cons, bl_len w n]
theorem iL_len (l : List Nat) : (iL l).length = l.length := by unfold iL; rw [List.length_map]
theorem for_bits (n : Nat) (W : Option D) (h : LH) : ∀ (l : List D) (i : Nat) (o : Option D), i + l.length ≤ 100000 → ∃ o',
    sFor (gNm 3) (sSeq (sAsg (eBin dAdd (eLst (aCons (eBin dMod (eVar 0) (eC (.int 2))) aNil)) (eVar 2)) (gNm 2)) (sAug dDiv 0 (eC (.int 2)))) l [some (.int (n / 2 ^ i : Nat)), W, some (.lst (iL (bl i n))), o] h
      = .nx [some (.int (n / 2 ^ (i + l.length) : Nat)), W, some (.lst (iL (bl (i + l.length) n))), o'] h
  | [], i, o, _ => ⟨o, rfl⟩
  | d :: l, i, o, hb => by
    have hb : i + (l.length + 1) ≤ 100000 := hb
    obtain ⟨o', ih⟩ := for_bits n W h l (i + 1) (some d) (by omega)
    refine ⟨o', ?_⟩
    rw [show i + (d :: l).length = i + 1 + l.length from by simp only [List.length_cons]; omega, ← ih]
    have f1 : fits ([D.int ((n / 2 ^ i % 2 : Nat) : Int)].length + (iL (bl i n)).length) = true := Sh.fits_le (by rw [iL_len, bl_len]; simp only [List.length_cons, List.length_nil]; omega)
    have a1 : (eBin dAdd (eLst (aCons (eBin dMod (eVar 0) (eC (.int 2))) aNil)) (eVar 2)) [some (.int (n / 2 ^ i : Nat)), W, some (.lst (iL (bl i n))), some d] h = .ok (.lst (iL (bl (i + 1) n))) h :=
      bin_ok (lst_ok (cons_ok (bin_ok (var_ok rfl) rfl (ev_modN (n := n / 2 ^ i) (b := 2) (by decide))) nil_ok) (Sh.fits_le (by simp only [List.length_cons, List.length_nil]; omega))) (var_ok rfl) (by rw [ev_addL, if_pos f1]; rfl)
    have e2 : n / 2 ^ i / 2 = n / 2 ^ (i + 1) := by rw [Nat.div_div_eq_div_mul, Nat.pow_succ]
    refine for_cons (ρ1 := [some (.int (n / 2 ^ i : Nat)), W, some (.lst (iL (bl i n))), some d]) rfl (seq_nx (asg_nm a1) (aug_ok (x := .int (n / 2 ^ i : Nat)) rfl rfl (ev_divN (n := n / 2 ^ i) (b := 2) (by decide) (by decide)))) ?_
    rw [e2]
    rfl
theorem bits_ok {n w : Nat} (h1 : 1 ≤ w) (h2 : w ≤ 200) (hn : n < 2 ^ w) (h : LH) : g_bits_of [.int n, .int w] h = .ok (.tup (iL (bl w n))) h := by
  have i1 := rng1 (j := w) (by omega) (ma := aCons (eVar 1) aNil) (ρ := [some (.int n), some (.int w), some (.lst []), none]) (h := h) rfl
  obtain ⟨o', e⟩ := for_bits n (some (.int w)) h (rngD 0 w) 0 none (by rw [rng_len]; omega)
  rw [rng_len, Nat.pow_zero, Nat.div_one, Nat.zero_add, Nat.div_eq_of_lt hn] at e
  have c1 : (eChain dLe dLe (eC (.int 1)) (eVar 1) (eC (.int 200))) [some (.int n), some (.int w), none, none] h = .ok (.bl true) h := by
    refine chain_ok rfl (var_ok rfl) (by rw [ev_leI, decide_eq_true (by omega)]) rfl (by rw [ev_leI, decide_eq_true (by omega)])
  have t1 : (bOr (bTest (eBin dLt (eVar 0) (eC (.int 0)))) (bNot (bTest (eChain dLe dLe (eC (.int 1)) (eVar 1) (eC (.int 200)))))) [some (.int n), some (.int w), none, none] h = .ok false h :=
    or_no (test_ok (bin_ok (var_ok rfl) rfl (by rw [ev_ltI, decide_eq_false (by omega)]))) (not_ok (test_ok c1))
  refine fn_rt rfl (seq_nx (ρ1 := [some (.int n), some (.int w), none, none]) (if_no t1 rfl) (seq_nx (asg_nm (lst_ok nil_ok (Sh.fits_le (by decide)))) (seq_nx (for_of i1 e) (seq_nx (ρ1 := _) (if_no (test_ok (bin_ok (var_ok rfl) rfl (by rw [ev_gtI, decide_eq_false (by omega)]))) rfl) (ret_ok (call_ok (cons_ok (var_ok rfl) nil_ok) (res_ok rfl)))))))
theorem bits_no {n w : Nat} (h1 : 1 ≤ w) (h2 : w ≤ 200) (hn : 2 ^ w ≤ n) (h : LH) : g_bits_of [.int n, .int w] h = .exc "BaseError" h := by
  have i1 := rng1 (j := w) (by omega) (ma := aCons (eVar 1) aNil) (ρ := [some (.int n), some (.int w), some (.lst []), none]) (h := h) rfl
  obtain ⟨o', e⟩ := for_bits n (some (.int w)) h (rngD 0 w) 0 none (by rw [rng_len]; omega)
  rw [rng_len, Nat.pow_zero, Nat.div_one, Nat.zero_add] at e
  have hp : 0 < n / 2 ^ w := Nat.div_pos hn (Nat.pow_pos (by decide))
  have c1 : (eChain dLe dLe (eC (.int 1)) (eVar 1) (eC (.int 200))) [some (.int n), some (.int w), none, none] h = .ok (.bl true) h := by
    refine chain_ok rfl (var_ok rfl) (by rw [ev_leI, decide_eq_true (by omega)]) rfl (by rw [ev_leI, decide_eq_true (by omega)])
  have t1 : (bOr (bTest (eBin dLt (eVar 0) (eC (.int 0)))) (bNot (bTest (eChain dLe dLe (eC (.int 1)) (eVar 1) (eC (.int 200)))))) [some (.int n), some (.int w), none, none] h = .ok false h :=
    or_no (test_ok (bin_ok (var_ok rfl) rfl (by rw [ev_ltI, decide_eq_false (by omega)]))) (not_ok (test_ok c1))
  refine fn_ex rfl (seq_nx (ρ1 := [some (.int n), some (.int w), none, none]) (if_no t1 rfl) (seq_nx (asg_nm (lst_ok nil_ok (Sh.fits_le (by decide)))) (seq_nx (for_of i1 e) (seq_ex (if_yes (test_ok (bin_ok (var_ok rfl) rfl (by rw [ev_gtI, decide_eq_true (by omega)]))) rfl)))))
end K01

set_option Elab.async false
set_option linter.all false
set_option maxRecDepth 100000
set_option maxHeartbeats 4000000
namespace K01
open PySem PySem.Spec PyProof.Rows L2 Sh
theorem bl_range : ∀ w n : Nat, (List.range w).map (fun k => n / 2 ^ (w - 1 - k) % 2) = bl w n
  | 0, _ => rfl
  | w + 1, n => by
    rw [List.range_succ_eq_map, List.map_cons, List.map_map]
    unfold bl
    rw [← bl_range w n]
    congr 1
    apply List.map_congr_left
    intro k hk
    show n / 2 ^ (w + 1 - 1 - (k + 1)) % 2 = _
    rw [show w + 1 - 1 - (k + 1) = w - 1 - k from by omega]
theorem lc_bits {n w : Nat} (hw : w ≤ 100) (h : LH) : ∀ (l : List Nat) (acc : List D), (∀ k ∈ l, k < w) → acc.length + l.length ≤ 1000 →
    lcGo [2] (gNm 2) bYes (eBin dMod (eBin dDiv (eVar 0) (eCall g_power_of (aCons (eC (.int 2)) (aCons (eBin dSub (eBin dSub (eVar 1) (eC (.int 1))) (eVar 2)) aNil)))) (eC (.int 2))) [some (.int n), some (.int w), none] (l.map fun (i : Nat) => D.int (0 + (i : Int))) acc h
      = .ok (.lst (acc ++ iL (l.map fun k => n / 2 ^ (w - 1 - k) % 2))) h
  | [], acc, _, _ => by rw [show acc ++ iL (([] : List Nat).map fun k => n / 2 ^ (w - 1 - k) % 2) = acc from List.append_nil acc]; rfl
  | k :: l, acc, hk, hb => by
    have hb : acc.length + (l.length + 1) ≤ 1000 := hb
    have ih := lc_bits (n := n) hw h l (acc ++ [D.int ((n / 2 ^ (w - 1 - k) % 2 : Nat) : Int)]) (fun i hi => hk i (List.mem_cons_of_mem _ hi)) (by rw [List.length_append]; simp only [List.length_cons, List.length_nil]; omega)
    have hkw := hk k (List.mem_cons_self ..)
    have e0 : ((w : Int) - 1) - (0 + (k : Int)) = ((w - 1 - k : Nat) : Int) := by omega
    have pw : g_power_of [.int 2, .int ((w - 1 - k : Nat) : Int)] h = .ok (.int (2 ^ (w - 1 - k) : Nat)) h := power2 (by omega) h
    have hp : 2 ^ (w - 1 - k) < 2 ^ 200 := Nat.pow_lt_pow_right (by decide) (by omega)
    refine lc_cons (ρ2 := [some (.int n), some (.int w), some (.int (0 + (k : Int)))]) rfl rfl (bin_ok (bin_ok (var_ok rfl) (call_ok (cons_ok rfl (cons_ok (bin_ok (bin_ok (var_ok rfl) rfl ev_sub) (var_ok rfl) (by rw [ev_sub, e0])) nil_ok)) pw) (ev_divN (n := n) (Nat.pow_pos (by decide)) hp)) rfl (ev_modN (n := n / 2 ^ (w - 1 - k)) (b := 2) (by decide))) (Sh.fits_le (by omega)) ?_
    rw [ih, List.append_assoc]
    rfl
theorem law_bits_eq {n w : Nat} (hw : w ≤ 100) (h : LH) : g_x_law_bits [.int n, .int w] h = .ok (.tup (iL (bl w n))) h := by
  have i1 := rng1 (j := w) (by omega) (ma := aCons (eVar 1) aNil) (ρ := [some (.int n), some (.int w), none]) (h := h) rfl
  have e := lc_bits (n := n) hw h (List.range w) [] (fun k hk => List.mem_range.mp hk) (by rw [List.length_range]; simp only [List.length_nil]; omega)
  rw [bl_range] at e
  exact fn_rt rfl (ret_ok (call_ok (cons_ok (elc_of i1 e) nil_ok) (res_ok rfl)))
theorem bl_val : ∀ (w n v : Nat), (bl w n).foldl (fun a j => 2 * a + j) v = v * 2 ^ w + n % 2 ^ w
  | 0, n, v => by simp [bl, Nat.mod_one]
  | w + 1, n, v => by
    unfold bl
    rw [List.foldl_cons, bl_val w n]
    have e : n % 2 ^ (w + 1) = n / 2 ^ w % 2 * 2 ^ w + n % 2 ^ w := by
      rw [Nat.pow_succ, Nat.mod_mul, Nat.mul_comm (2 ^ w), Nat.add_comm]
    rw [e, Nat.pow_succ]
    rw [Nat.add_mul, Nat.add_assoc]
    congr 1
    rw [Nat.mul_comm 2 v, Nat.mul_assoc, Nat.mul_comm 2]
theorem bl_bit (w n : Nat) : ∀ j ∈ bl w n, j < 2 := by
  induction w with
  | zero => intro j hj; cases hj
  | succ w ih =>
    intro j hj
    unfold bl at hj
    rcases List.mem_cons.mp hj with rfl | hj
    · exact Nat.mod_lt _ (by decide)
    · exact ih j hj
theorem any_bit (f o : Option D) (h : LH) : ∀ js : List Nat, (∀ j ∈ js, j < 2) → tAnyR (gxTr [1] (gNm 1) bYes (eBin dNotIn (eVar 1) (eTup (aCons (eC (.int 0)) (aCons (eC (.int 1)) aNil)))) [f, none, o] (iL js) h) = .ok (.bl false) h
  | [], _ => rfl
  | j :: js, hj => by
    have ih := any_bit f o h js fun i hi => hj i (List.mem_cons_of_mem _ hi)
    have hj2 := hj j (List.mem_cons_self ..)
    have e : dNotIn (.int (j : Int)) (.tup [.int 0, .int 1]) = some (.bl false) := by
      rcases (show j = 0 ∨ j = 1 by omega) with rfl | rfl <;> kernel_rfl
    have step : (eBin dNotIn (eVar 1) (eTup (aCons (eC (.int 0)) (aCons (eC (.int 1)) aNil)))) [f, some (.int (j : Int)), o] h = .ok (.bl false) h :=
      bin_ok (var_ok rfl) (tup_ok (cons_ok rfl (cons_ok rfl nil_ok)) (Sh.fits_le (by simp only [List.length_cons, List.length_nil]; omega))) e
    show tAnyR (match (eBin dNotIn (eVar 1) (eTup (aCons (eC (.int 0)) (aCons (eC (.int 1)) aNil)))) [f, some (.int (j : Int)), o] h with
      | .ok y h4 => .yld y h4 (gxTr [1] (gNm 1) bYes (eBin dNotIn (eVar 1) (eTup (aCons (eC (.int 0)) (aCons (eC (.int 1)) aNil)))) [f, none, o] (iL js) h4)
      | _ => .err) = _
    rw [step]
    exact ih
theorem for_fb (f : Option D) (h : LH) : ∀ (js : List Nat) (o : Option D) (v : Nat), ∃ o', sFor (gNm 1) (sAsg (eBin dAdd (eBin dMul (eC (.int 2)) (eVar 2)) (eVar 1)) (gNm 2)) (iL js) [f, o, some (.int v)] h
    = .nx [f, o', some (.int (js.foldl (fun a j => 2 * a + j) v : Nat))] h
  | [], o, v => ⟨o, rfl⟩
  | j :: js, o, v => by
    obtain ⟨o', ih⟩ := for_fb f h js (some (.int (j : Int))) (2 * v + j)
    refine ⟨o', for_cons (ρ1 := [f, some (.int (j : Int)), some (.int v)]) rfl (asg_nm (bin_ok (bin_ok rfl (var_ok rfl) (by rw [ev_mulI, mul_ok (.inl (by decide)), ev_iteT])) (var_ok rfl) ev_addI)) ?_⟩
    have e : (2 * (v : Int) + (j : Int)) = ((2 * v + j : Nat) : Int) := by omega
    rw [e]
    exact ih
theorem from_bits_eq {n w : Nat} (h1 : 1 ≤ w) (hw : w ≤ 100) (hn : n < 2 ^ w) (h : LH) : g_from_bits [.tup (iL (bl w n))] h = .ok (.int n) h := by
  obtain ⟨o', e⟩ := for_fb (some (.tup (iL (bl w n)))) h (bl w n) none 0
  rw [bl_val, Nat.zero_mul, Nat.zero_add, Nat.mod_eq_of_lt hn, show ((0 : Nat) : Int) = 0 from rfl] at e
  have hl : (iL (bl w n)).length = w := by rw [iL_len, bl_len]
  have a1 := any_bit (some (.tup (iL (bl w n)))) none h (bl w n) (bl_bit w n)
  have g1 : eGx tAnyR (iSeq (eVar 0)) [1] (gNm 1) bYes (eBin dNotIn (eVar 1) (eTup (aCons (eC (.int 0)) (aCons (eC (.int 1)) aNil)))) [some (.tup (iL (bl w n))), none, none] h = .ok (.bl false) h := a1
  have t0 : (((iL (bl w n)).length : Int) == 0) = false := by rw [hl]; exact beq_eq_false_iff_ne.mpr (by omega)
  exact fn_rt rfl (seq_nx (if_no (or_no (test_ok (bin_ok (call_ok (cons_ok (var_ok rfl) nil_ok) (res_ok ev_lenT)) rfl (by rw [ev_eqI, t0]))) (test_ok g1)) rfl) (seq_nx (asg_nm rfl) (seq_nx (for_of (ds := iL (bl w n)) rfl e) (ret_ok (var_ok rfl)))))
end K01

set_option Elab.async false
set_option linter.all false
set_option maxRecDepth 100000
set_option maxHeartbeats 4000000
namespace K01
open PySem PySem.Spec PyProof.Rows L2 Sh
/-! ### packed and unpacked -/
/-- numbers, each with its bits -/
def PsOk (ps : List (Nat × Nat)) : Prop := ∀ p ∈ ps, 1 ≤ p.2 ∧ p.2 ≤ 9 ∧ p.1 < 2 ^ p.2
def pk (ps : List (Nat × Nat)) (v : Nat) : Nat := ps.foldl (fun a p => a * 2 ^ p.2 + p.1) v
abbrev nums (ps : List (Nat × Nat)) : List D := iL (ps.map (·.1))
abbrev wids (ps : List (Nat × Nat)) : List D := iL (ps.map (·.2))
theorem any_wide (f g o q : Option D) (h : LH) : ∀ ws : List Nat, (∀ w ∈ ws, 1 ≤ w) → tAnyR (gxTr [2] (gNm 2) bYes (eBin dLt (eVar 2) (eC (.int 1))) [f, g, none, o, q] (iL ws) h) = .ok (.bl false) h
  | [], _ => rfl
  | j :: js, hj => by
    have ih := any_wide f g o q h js fun i hi => hj i (List.mem_cons_of_mem _ hi)
    have hj2 := hj j (List.mem_cons_self ..)
    have step : (eBin dLt (eVar 2) (eC (.int 1))) [f, g, some (.int (j : Int)), o, q] h = .ok (.bl false) h :=
      bin_ok (var_ok rfl) rfl (by rw [ev_ltI, decide_eq_false (by omega)])
    show tAnyR (match (eBin dLt (eVar 2) (eC (.int 1))) [f, g, some (.int (j : Int)), o, q] h with
      | .ok y h4 => .yld y h4 (gxTr [2] (gNm 2) bYes (eBin dLt (eVar 2) (eC (.int 1))) [f, g, none, o, q] (iL js) h4)
      | _ => .err) = _
    rw [step]
    exact ih
theorem pow9 {w : Nat} (h : w ≤ 9) : 2 ^ w ≤ 512 := Nat.pow_le_pow_right (n := 2) (by decide) h
theorem for_packed (f g : Option D) (h : LH) : ∀ (ps : List (Nat × Nat)) (v : Nat) (o q : Option D), PsOk ps → ∃ o' q', sFor (gTp 2 (gCns (gNm 4) (gCns (gNm 2) gNils)))
      (sSeq (sIf (bNot (bTest (eChain dLe dLt (eC (.int 0)) (eVar 4) (eCall g_power_of (aCons (eC (.int 2)) (aCons (eVar 2) aNil)))))) (sRaise "BaseError") sNil) (sAsg (eBin dAdd (eBin dMul (eVar 3) (eCall g_power_of (aCons (eC (.int 2)) (aCons (eVar 2) aNil)))) (eVar 4)) (gNm 3)))
      (List.zipWith pairD (nums ps) (wids ps)) [f, g, o, some (.int v), q] h = .nx [f, g, o', some (.int (pk ps v)), q'] h
  | [], v, o, q, _ => ⟨o, q, rfl⟩
  | p :: ps, v, o, q, hp => by
    obtain ⟨w1, w2, w3⟩ := hp p (List.mem_cons_self ..)
    obtain ⟨o', q', ih⟩ := for_packed f g h ps (v * 2 ^ p.2 + p.1) (some (.int (p.2 : Int))) (some (.int (p.1 : Int))) fun i hi => hp i (List.mem_cons_of_mem _ hi)
    have pw : g_power_of [.int 2, .int (p.2 : Int)] h = .ok (.int (2 ^ p.2 : Nat)) h := power2 (by omega) h
    have p9 := pow9 w2
    have c : (eChain dLe dLt (eC (.int 0)) (eVar 4) (eCall g_power_of (aCons (eC (.int 2)) (aCons (eVar 2) aNil)))) [f, g, some (.int (p.2 : Int)), some (.int v), some (.int (p.1 : Int))] h = .ok (.bl true) h :=
      chain_ok rfl (var_ok rfl) (by rw [ev_leI, decide_eq_true (by omega)]) (call_ok (cons_ok rfl (cons_ok (var_ok rfl) nil_ok)) pw) (by rw [ev_ltI, decide_eq_true (by omega)])
    refine ⟨o', q', for_cons (ρ1 := [f, g, some (.int (p.2 : Int)), some (.int v), some (.int (p.1 : Int))]) rfl (seq_nx (if_no (not_ok (test_ok c)) rfl) (asg_nm (bin_ok (bin_ok (var_ok rfl) (call_ok (cons_ok rfl (cons_ok (var_ok rfl) nil_ok)) pw) (ev_mulN (n := v) (by omega))) (var_ok rfl) ev_addI))) ?_⟩
    exact ih
theorem packed_eq {ps : List (Nat × Nat)} (hp : PsOk ps) (h : LH) : g_packed_number [.lst (nums ps), .lst (wids ps)] h = .ok (.int (pk ps 0)) h := by
  obtain ⟨o', q', e⟩ := for_packed (some (.lst (nums ps))) (some (.lst (wids ps))) h ps 0 none none hp
  rw [show ((0 : Nat) : Int) = 0 from rfl] at e
  have a1 := any_wide (some (.lst (nums ps))) (some (.lst (wids ps))) none none h (ps.map (·.2)) fun w hw => by
    obtain ⟨p, hq, rfl⟩ := List.mem_map.mp hw
    exact (hp p hq).1
  have t0 : ((((nums ps).length : Nat) : Int) == (((wids ps).length : Nat) : Int)) = true := by
    rw [iL_len, iL_len, List.length_map, List.length_map]; exact beq_self_eq_true _
  exact fn_rt rfl (seq_nx (if_no (or_no (test_ok (bin_ok (call_ok (cons_ok (var_ok rfl) nil_ok) (res_ok ev_lenL)) (call_ok (cons_ok (var_ok rfl) nil_ok) (res_ok ev_lenL)) (by rw [ev_neI, t0]; rfl))) (test_ok a1)) rfl) (seq_nx (asg_nm rfl) (seq_nx (for_of (ds := List.zipWith pairD (nums ps) (wids ps)) rfl e) (ret_ok (var_ok rfl)))))
end K01

set_option Elab.async false
set_option linter.all false
set_option maxRecDepth 100000
set_option maxHeartbeats 4000000
namespace K01
open PySem PySem.Spec PyProof.Rows L2 Sh
theorem any_wide4 (f g o : Option D) (h : LH) : ∀ ws : List Nat, (∀ w ∈ ws, 1 ≤ w) → tAnyR (gxTr [2] (gNm 2) bYes (eBin dLt (eVar 2) (eC (.int 1))) [f, g, none, o] (iL ws) h) = .ok (.bl false) h
  | [], _ => rfl
  | j :: js, hj => by
    have ih := any_wide4 f g o h js fun i hi => hj i (List.mem_cons_of_mem _ hi)
    have hj2 := hj j (List.mem_cons_self ..)
    have step : (eBin dLt (eVar 2) (eC (.int 1))) [f, g, some (.int (j : Int)), o] h = .ok (.bl false) h :=
      bin_ok (var_ok rfl) rfl (by rw [ev_ltI, decide_eq_false (by omega)])
    show tAnyR (match (eBin dLt (eVar 2) (eC (.int 1))) [f, g, some (.int (j : Int)), o] h with
      | .ok y h4 => .yld y h4 (gxTr [2] (gNm 2) bYes (eBin dLt (eVar 2) (eC (.int 1))) [f, g, none, o] (iL js) h4)
      | _ => .err) = _
    rw [step]
    exact ih
theorem pk_snoc (ps : List (Nat × Nat)) (p : Nat × Nat) (v : Nat) : pk (ps ++ [p]) v = pk ps v * 2 ^ p.2 + p.1 := by
  unfold pk
  rw [List.foldl_append]
  rfl
theorem for_unpack (W : Option D) (h : LH) : ∀ (rs : List (Nat × Nat)) (acc : List Nat) (o : Option D), PsOk rs → acc.length + rs.length ≤ 1000 → ∃ o', sFor (gNm 2)
      (sSeq (sAsg (eBin dAdd (eLst (aCons (eBin dMod (eVar 0) (eCall g_power_of (aCons (eC (.int 2)) (aCons (eVar 2) aNil)))) aNil)) (eVar 3)) (gNm 3)) (sAug dDiv 0 (eCall g_power_of (aCons (eC (.int 2)) (aCons (eVar 2) aNil)))))
      (wids rs) [some (.int (pk rs.reverse 0)), W, o, some (.lst (iL acc))] h = .nx [some (.int (0 : Nat)), W, o', some (.lst (iL (rs.reverse.map (·.1) ++ acc)))] h
  | [], acc, o, _, _ => ⟨o, rfl⟩
  | p :: rs, acc, o, hp, hb => by
    obtain ⟨w1, w2, w3⟩ := hp p (List.mem_cons_self ..)
    have hb : acc.length + (rs.length + 1) ≤ 1000 := hb
    obtain ⟨o', ih⟩ := for_unpack W h rs (p.1 :: acc) (some (.int (p.2 : Int))) (fun i hi => hp i (List.mem_cons_of_mem _ hi)) (by simp only [List.length_cons]; omega)
    have pw : g_power_of [.int 2, .int (p.2 : Int)] h = .ok (.int (2 ^ p.2 : Nat)) h := power2 (by omega) h
    have p9 := pow9 w2
    have pp : 0 < 2 ^ p.2 := Nat.pow_pos (by decide)
    have e1 : pk (p :: rs).reverse 0 = pk rs.reverse 0 * 2 ^ p.2 + p.1 := by rw [List.reverse_cons, pk_snoc]
    have e2 : (pk rs.reverse 0 * 2 ^ p.2 + p.1) % 2 ^ p.2 = p.1 := by rw [Nat.mul_comm, Nat.mul_add_mod]; exact Nat.mod_eq_of_lt w3
    have e3 : (pk rs.reverse 0 * 2 ^ p.2 + p.1) / 2 ^ p.2 = pk rs.reverse 0 := by rw [Nat.mul_comm, Nat.mul_add_div pp, Nat.div_eq_of_lt w3, Nat.add_zero]
    have f1 : fits ([D.int (p.1 : Int)].length + (iL acc).length) = true := Sh.fits_le (by rw [iL_len]; simp only [List.length_cons, List.length_nil]; omega)
    have cl : (eCall g_power_of (aCons (eC (.int 2)) (aCons (eVar 2) aNil))) [some (.int (pk (p :: rs).reverse 0)), W, some (.int (p.2 : Int)), some (.lst (iL acc))] h = .ok (.int (2 ^ p.2 : Nat)) h := call_ok (cons_ok rfl (cons_ok (var_ok rfl) nil_ok)) pw
    have cl2 : (eCall g_power_of (aCons (eC (.int 2)) (aCons (eVar 2) aNil))) [some (.int (pk (p :: rs).reverse 0)), W, some (.int (p.2 : Int)), some (.lst (iL (p.1 :: acc)))] h = .ok (.int (2 ^ p.2 : Nat)) h := call_ok (cons_ok rfl (cons_ok (var_ok rfl) nil_ok)) pw
    have a1 : (eBin dAdd (eLst (aCons (eBin dMod (eVar 0) (eCall g_power_of (aCons (eC (.int 2)) (aCons (eVar 2) aNil)))) aNil)) (eVar 3)) [some (.int (pk (p :: rs).reverse 0)), W, some (.int (p.2 : Int)), some (.lst (iL acc))] h = .ok (.lst (iL (p.1 :: acc))) h :=
      bin_ok (lst_ok (cons_ok (bin_ok (var_ok rfl) cl (by rw [ev_modN pp, e1, e2])) nil_ok) (Sh.fits_le (by simp only [List.length_cons, List.length_nil]; omega))) (var_ok rfl) (by rw [ev_addL, if_pos f1]; rfl)
    refine ⟨o', for_cons (ρ1 := [some (.int (pk (p :: rs).reverse 0)), W, some (.int (p.2 : Int)), some (.lst (iL acc))]) rfl (seq_nx (asg_nm a1) (aug_ok (x := .int (pk (p :: rs).reverse 0)) rfl cl2 (by rw [ev_divN pp (Nat.lt_of_le_of_lt p9 (by decide)), e1, e3]))) ?_⟩
    rw [List.reverse_cons, List.map_append, List.append_assoc]
    exact ih
theorem unpacked_eq {ps : List (Nat × Nat)} (hp : PsOk ps) (h0 : 1 ≤ ps.length) (hl : ps.length ≤ 900) (h : LH) : g_unpacked_numbers [.int (pk ps 0), .lst (wids ps)] h = .ok (.tup (nums ps)) h := by
  obtain ⟨o', e⟩ := for_unpack (some (.lst (wids ps))) h ps.reverse [] none (fun p q => hp p (List.mem_reverse.mp q)) (by rw [List.length_reverse]; simp only [List.length_nil]; omega)
  rw [List.reverse_reverse, List.append_nil] at e
  have er : wids ps.reverse = (wids ps).reverse := by unfold wids iL; rw [List.map_reverse, List.map_reverse]
  rw [er] at e
  have a1 := any_wide4 (some (.int (pk ps 0))) (some (.lst (wids ps))) none h (ps.map (·.2)) fun w hw => by
    obtain ⟨p, hq, rfl⟩ := List.mem_map.mp hw
    exact (hp p hq).1
  have t0 : ((((wids ps).length : Nat) : Int) == 0) = false := by
    rw [iL_len, List.length_map]; exact beq_eq_false_iff_ne.mpr (by omega)
  exact fn_rt rfl (seq_nx (if_no (or_no (test_ok (bin_ok (call_ok (cons_ok (var_ok rfl) nil_ok) (res_ok ev_lenL)) rfl (by rw [ev_eqI, t0]))) (or_no (test_ok a1) (test_ok (bin_ok (var_ok rfl) rfl (by rw [ev_ltI, decide_eq_false (by omega)]))))) rfl)
    (seq_nx (asg_nm (lst_ok nil_ok (Sh.fits_le (by simp only [List.length_nil]; omega)))) (seq_nx (for_of (ds := (wids ps).reverse) rfl e) (seq_nx (if_no (test_ok (bin_ok (var_ok rfl) rfl (by rw [ev_gtI, decide_eq_false (by omega)]))) rfl) (ret_ok (call_ok (cons_ok (var_ok rfl) nil_ok) (res_ok rfl)))))))
end K01

set_option Elab.async false
set_option linter.all false
set_option maxRecDepth 100000
set_option maxHeartbeats 4000000
namespace K01
open PySem PySem.Spec PyProof.Rows L2 Sh
/-! ### texts of one width stand as their numbers -/
theorem fold_vl (b : Nat) : ∀ (js : List Nat) (v : Nat), js.foldl (fun a j => a * b + j) v = v * b ^ js.length + vl b js
  | [], v => by simp [vl]
  | j :: js, v => by
    rw [List.foldl_cons, fold_vl b js, List.length_cons]
    show _ = _ + (js.foldl (fun a j => a * b + j) (0 * b + j))
    rw [fold_vl b js, Nat.zero_mul, Nat.zero_add, Nat.add_mul, Nat.pow_succ, Nat.mul_comm (b ^ js.length) b, Nat.mul_assoc, Nat.add_assoc]
theorem vl_cons (b j : Nat) (js : List Nat) : vl b (j :: js) = j * b ^ js.length + vl b js := by
  show js.foldl (fun a j => a * b + j) (0 * b + j) = _
  rw [fold_vl, Nat.zero_mul, Nat.zero_add]
theorem vl_lt {b : Nat} : ∀ js : List Nat, (∀ j ∈ js, j < b) → vl b js < b ^ js.length
  | [], _ => by simp [vl]
  | j :: js, h => by
    rw [vl_cons, List.length_cons, Nat.pow_succ]
    have h1 := vl_lt js fun i hi => h i (List.mem_cons_of_mem _ hi)
    have h2 : j + 1 ≤ b := h j (List.mem_cons_self ..)
    have h3 : (j + 1) * b ^ js.length ≤ b * b ^ js.length := Nat.mul_le_mul_right _ h2
    rw [Nat.add_mul, Nat.one_mul] at h3
    rw [Nat.mul_comm (b ^ js.length) b]
    omega
/-- an alphabet in order -/
def upB (s : List Nat) : Bool := (List.range s.length).all fun i => (List.range s.length).all fun j => decide ((s.getD i 0 < s.getD j 0) = (i < j)) && decide ((s.getD i 0 = s.getD j 0) = (i = j))
def Up (s : List Nat) : Prop := ∀ i < s.length, ∀ j < s.length, (s.getD i 0 < s.getD j 0 ↔ i < j) ∧ (s.getD i 0 = s.getD j 0 ↔ i = j)
theorem lex_vl {s : List Nat} (up : Up s) : ∀ xs ys : List Nat, xs.length = ys.length → (∀ j ∈ xs, j < s.length) → (∀ j ∈ ys, j < s.length) → (sg s xs < sg s ys ↔ vl s.length xs < vl s.length ys)
  | [], [], _, _, _ => by
    constructor
    · intro z; exact absurd z (List.not_lt_nil _)
    · intro z; exact absurd z (Nat.lt_irrefl _)
  | x :: xs, y :: ys, hl, hx, hy => by
    have hl : xs.length = ys.length := by simpa using hl
    have ih := lex_vl up xs ys hl (fun i hi => hx i (List.mem_cons_of_mem _ hi)) fun i hi => hy i (List.mem_cons_of_mem _ hi)
    have lx := vl_lt xs fun i hi => hx i (List.mem_cons_of_mem _ hi)
    have ly := vl_lt ys fun i hi => hy i (List.mem_cons_of_mem _ hi)
    obtain ⟨u1, u2⟩ := up x (hx x (List.mem_cons_self ..)) y (hy y (List.mem_cons_self ..))
    rw [vl_cons, vl_cons, hl]
    rw [hl] at lx
    show s.getD x 0 :: sg s xs < s.getD y 0 :: sg s ys ↔ _
    rw [List.cons_lt_cons_iff, u1, u2, ih]
    generalize s.length ^ ys.length = B at lx ly ⊢
    rcases Nat.lt_trichotomy x y with h | h | h
    · have : (x + 1) * B ≤ y * B := Nat.mul_le_mul_right _ h
      rw [Nat.add_mul, Nat.one_mul] at this
      constructor
      · intro _; omega
      · intro _; exact .inl h
    · subst h
      constructor
      · intro z; rcases z with z | ⟨_, z⟩ <;> omega
      · intro z; exact .inr ⟨rfl, by omega⟩
    · have : (y + 1) * B ≤ x * B := Nat.mul_le_mul_right _ h
      rw [Nat.add_mul, Nat.one_mul] at this
      constructor
      · intro z; rcases z with z | ⟨z, _⟩ <;> omega
      · intro z; omega
  | [], _ :: _, hl, _, _ => by simp at hl
  | _ :: _, [], hl, _, _ => by simp at hl
def hex : List Nat := [48, 49, 50, 51, 52, 53, 54, 55, 56, 57, 97, 98, 99, 100, 101, 102]
theorem hex_up : Up hex := by
  intro i hi j hj
  have h : ∀ i < 16, ∀ j < 16, (hex.getD i 0 < hex.getD j 0 ↔ i < j) ∧ (hex.getD i 0 = hex.getD j 0 ↔ i = j) := by decide +kernel
  exact h i hi j hj
theorem hex_al : hex ∈ als := by
  show hex ∈ als
  decide +kernel
theorem lt_eq {n m : Nat} (hn : n < 2000000) (hm : m < 2000000) : decide (sg hex (pd 8 (dg 16 n)) < sg hex (pd 8 (dg 16 m))) = decide (n < m) := by
  have l1 : (dg 16 n).length ≤ 8 := dg_len2 (by decide) 8 n (by show n < 4294967296; omega)
  have l2 : (dg 16 m).length ≤ 8 := dg_len2 (by decide) 8 m (by show m < 4294967296; omega)
  have q := lex_vl hex_up (pd 8 (dg 16 n)) (pd 8 (dg 16 m)) (by rw [pd_len, pd_len]; omega) (pd_lt (b := 16) (by decide) (dg_lt (by decide) n)) (pd_lt (b := 16) (by decide) (dg_lt (by decide) m))
  have e1 : vl hex.length (pd 8 (dg 16 n)) = n := vl_pd (b := 16) (by decide) 8 n
  have e2 : vl hex.length (pd 8 (dg 16 m)) = m := vl_pd (b := 16) (by decide) 8 m
  rw [e1, e2] at q
  exact decide_eq_decide.mpr q
/-- texts of numbers are the same if the numbers are -/
theorem eq_eq {s : List Nat} (hs : s ∈ als) {n m : Nat} (hn : n < 2000000) (hm : m < 2000000) : (sg s (pd 0 (dg s.length n)) == sg s (pd 0 (dg s.length m))) = ((n : Int) == (m : Int)) := by
  by_cases e : n = m
  · subst e
    rw [beq_self_eq_true, beq_self_eq_true]
  · have h1 : ((n : Int) == (m : Int)) = false := beq_eq_false_iff_ne.mpr (by omega)
    rw [h1]
    refine beq_eq_false_iff_ne.mpr fun z => e ?_
    have a := back_eq hs hn (w := 0) (by omega) []
    have b := back_eq hs hm (w := 0) (by omega) []
    rw [z, b] at a
    injection a with a1 a2
    injection a1 with a3
    omega
end K01

set_option Elab.async false
set_option linter.all false
set_option maxRecDepth 100000
set_option maxHeartbeats 4000000
namespace K01
open PySem PySem.Spec PyProof.Rows L2 Sh
theorem plain_ok (h : LH) : g_x_law_plain [] h = .ok (.bl true) h := by kernel_rfl
/-- the pairs that look alike -/
def prs (s : List Nat) : List D := match g_alike_signs [.str s] [] with
  | .ok (.tup ps) _ => ps
  | _ => []
theorem alike_eq {s : List Nat} (hs : s ∈ als) (h : LH) : g_alike_signs [.str s] h = .ok (.tup (prs s)) h := by
  simp only [als, tab_ALPHABETS, List.map_cons, List.map_nil, List.mem_cons, List.mem_nil_iff, or_false] at hs
  rcases hs with rfl | rfl | rfl | rfl | rfl | rfl | rfl | rfl <;> kernel_rfl
abbrev En3 (a0 a1 a2 : Option D) (s : List Nat) (r : En) : En := a0 :: a1 :: a2 :: some (.str s) :: r
theorem lc_alike {s : List Nat} (hs : s ∈ als) (a0 a1 a2 b0 b1 b2 b3 b4 b5 b6 b7 b8 b9 c0 c1 c2 c3 c4 c5 c6 c7 c8 c9 d0 d1 d2 d3 : Option D) (h : LH) :
    eLc (iSeq (eLst (aCons (eC (.str [48, 79])) (aCons (eC (.str [48, 111])) (aCons (eC (.str [79, 111])) (aCons (eC (.str [49, 108])) (aCons (eC (.str [49, 73])) (aCons (eC (.str [108, 73])) (aCons (eC (.str [53, 83])) (aCons (eC (.str [50, 90])) (aCons (eC (.str [56, 66])) aNil))))))))))) [27] (gNm 27) (bAnd (bTest (eBin dIn (eIx (eVar 27) (eC (.int 0))) (eVar 3))) (bTest (eBin dIn (eIx (eVar 27) (eC (.int 1))) (eVar 3)))) (eVar 27)
      [a0, a1, a2, some (.str s), b0, b1, b2, b3, b4, b5, b6, b7, b8, b9, c0, c1, c2, c3, c4, c5, c6, c7, c8, c9, d0, d1, d2, d3] h = .ok (.lst (prs s)) h := by
  simp only [als, tab_ALPHABETS, List.map_cons, List.map_nil, List.mem_cons, List.mem_nil_iff, or_false] at hs
  rcases hs with rfl | rfl | rfl | rfl | rfl | rfl | rfl | rfl <;> kernel_rfl
end K01

set_option Elab.async false
set_option linter.all false
set_option maxRecDepth 100000
set_option maxHeartbeats 4000000
namespace K01
open PySem PySem.Spec PyProof.Rows L2 Sh
def eParts : Ev := (eRevA (eLc (iRng1 (aCons (eUn dNeg (eBin dDiv (eUn dNeg (eCall (bRes bLen) (aCons (eVar 14) aNil))) (eVar 13))) aNil)) [8] (gNm 8) bYes (eSl (eVar 14) (oYes (eCall (bRes bMax) (aCons (eC (.int 0)) (aCons (eBin dSub (eCall (bRes bLen) (aCons (eVar 14) aNil)) (eBin dMul (eVar 13) (eBin dAdd (eVar 8) (eC (.int 1))))) aNil)))) (oYes (eBin dSub (eCall (bRes bLen) (aCons (eVar 14) aNil)) (eBin dMul (eVar 13) (eVar 8)))))))
def gr (size : Nat) (cs : List Nat) : List Nat := match g_in_groups [.str cs, .int size, .str [58]] [] with
  | .ok (.str x) _ => x
  | _ => []
def pt (size : Nat) (cs : List Nat) : List D := match eParts [none, none, none, none, none, none, none, none, none, none, none, none, none, some (.int (size : Int)), some (.str cs), none, none, none, none, none, none, none, none, none, none, none, none, none] [] with
  | .ok (.lst x) _ => x
  | _ => []

theorem grp1 (a0 a1 a2 a3 a4 a5 a6 a7 a8 a9 b0 b1 b2 b5 b6 b7 b8 b9 c0 c1 c2 c3 c4 c5 c6 c7 : Option D) (h : LH) : ∀ cs : List Nat, cs.length ≤ 11 → g_in_groups [.str cs, .int 1, .str [58]] h = .ok (.str (gr 1 cs)) h ∧ eParts [a0, a1, a2, a3, a4, a5, a6, a7, a8, a9, b0, b1, b2, some (.int 1), some (.str cs), b5, b6, b7, b8, b9, c0, c1, c2, c3, c4, c5, c6, c7] h = .ok (.lst (pt 1 cs)) h ∧ mJoin (.str [58]) [.lst (pt 1 cs)] h = some (.str (gr 1 cs), h)
  | [], _ => ⟨by kernel_rfl, by kernel_rfl, by kernel_rfl⟩
  | [x0], _ => ⟨by kernel_rfl, by kernel_rfl, by kernel_rfl⟩
  | [x0, x1], _ => ⟨by kernel_rfl, by kernel_rfl, by kernel_rfl⟩
  | [x0, x1, x2], _ => ⟨by kernel_rfl, by kernel_rfl, by kernel_rfl⟩
  | [x0, x1, x2, x3], _ => ⟨by kernel_rfl, by kernel_rfl, by kernel_rfl⟩
  | [x0, x1, x2, x3, x4], _ => ⟨by kernel_rfl, by kernel_rfl, by kernel_rfl⟩
  | [x0, x1, x2, x3, x4, x5], _ => ⟨by kernel_rfl, by kernel_rfl, by kernel_rfl⟩
  | [x0, x1, x2, x3, x4, x5, x6], _ => ⟨by kernel_rfl, by kernel_rfl, by kernel_rfl⟩
  | [x0, x1, x2, x3, x4, x5, x6, x7], _ => ⟨by kernel_rfl, by kernel_rfl, by kernel_rfl⟩
  | [x0, x1, x2, x3, x4, x5, x6, x7, x8], _ => ⟨by kernel_rfl, by kernel_rfl, by kernel_rfl⟩
  | [x0, x1, x2, x3, x4, x5, x6, x7, x8, x9], _ => ⟨by kernel_rfl, by kernel_rfl, by kernel_rfl⟩
  | [x0, x1, x2, x3, x4, x5, x6, x7, x8, x9, x10], _ => ⟨by kernel_rfl, by kernel_rfl, by kernel_rfl⟩
  | x0 :: x1 :: x2 :: x3 :: x4 :: x5 :: x6 :: x7 :: x8 :: x9 :: x10 :: x11 :: r, hl => by simp only [List.length_cons] at hl; omega
theorem grp2 (a0 a1 a2 a3 a4 a5 a6 a7 a8 a9 b0 b1 b2 b5 b6 b7 b8 b9 c0 c1 c2 c3 c4 c5 c6 c7 : Option D) (h : LH) : ∀ cs : List Nat, cs.length ≤ 11 → g_in_groups [.str cs, .int 2, .str [58]] h = .ok (.str (gr 2 cs)) h ∧ eParts [a0, a1, a2, a3, a4, a5, a6, a7, a8, a9, b0, b1, b2, some (.int 2), some (.str cs), b5, b6, b7, b8, b9, c0, c1, c2, c3, c4, c5, c6, c7] h = .ok (.lst (pt 2 cs)) h ∧ mJoin (.str [58]) [.lst (pt 2 cs)] h = some (.str (gr 2 cs), h)
  | [], _ => ⟨by kernel_rfl, by kernel_rfl, by kernel_rfl⟩
  | [x0], _ => ⟨by kernel_rfl, by kernel_rfl, by kernel_rfl⟩
  | [x0, x1], _ => ⟨by kernel_rfl, by kernel_rfl, by kernel_rfl⟩
  | [x0, x1, x2], _ => ⟨by kernel_rfl, by kernel_rfl, by kernel_rfl⟩
  | [x0, x1, x2, x3], _ => ⟨by kernel_rfl, by kernel_rfl, by kernel_rfl⟩
  | [x0, x1, x2, x3, x4], _ => ⟨by kernel_rfl, by kernel_rfl, by kernel_rfl⟩
  | [x0, x1, x2, x3, x4, x5], _ => ⟨by kernel_rfl, by kernel_rfl, by kernel_rfl⟩
  | [x0, x1, x2, x3, x4, x5, x6], _ => ⟨by kernel_rfl, by kernel_rfl, by kernel_rfl⟩
  | [x0, x1, x2, x3, x4, x5, x6, x7], _ => ⟨by kernel_rfl, by kernel_rfl, by kernel_rfl⟩
  | [x0, x1, x2, x3, x4, x5, x6, x7, x8], _ => ⟨by kernel_rfl, by kernel_rfl, by kernel_rfl⟩
  | [x0, x1, x2, x3, x4, x5, x6, x7, x8, x9], _ => ⟨by kernel_rfl, by kernel_rfl, by kernel_rfl⟩
  | [x0, x1, x2, x3, x4, x5, x6, x7, x8, x9, x10], _ => ⟨by kernel_rfl, by kernel_rfl, by kernel_rfl⟩
  | x0 :: x1 :: x2 :: x3 :: x4 :: x5 :: x6 :: x7 :: x8 :: x9 :: x10 :: x11 :: r, hl => by simp only [List.length_cons] at hl; omega
theorem grp3 (a0 a1 a2 a3 a4 a5 a6 a7 a8 a9 b0 b1 b2 b5 b6 b7 b8 b9 c0 c1 c2 c3 c4 c5 c6 c7 : Option D) (h : LH) : ∀ cs : List Nat, cs.length ≤ 11 → g_in_groups [.str cs, .int 3, .str [58]] h = .ok (.str (gr 3 cs)) h ∧ eParts [a0, a1, a2, a3, a4, a5, a6, a7, a8, a9, b0, b1, b2, some (.int 3), some (.str cs), b5, b6, b7, b8, b9, c0, c1, c2, c3, c4, c5, c6, c7] h = .ok (.lst (pt 3 cs)) h ∧ mJoin (.str [58]) [.lst (pt 3 cs)] h = some (.str (gr 3 cs), h)
  | [], _ => ⟨by kernel_rfl, by kernel_rfl, by kernel_rfl⟩
  | [x0], _ => ⟨by kernel_rfl, by kernel_rfl, by kernel_rfl⟩
  | [x0, x1], _ => ⟨by kernel_rfl, by kernel_rfl, by kernel_rfl⟩
  | [x0, x1, x2], _ => ⟨by kernel_rfl, by kernel_rfl, by kernel_rfl⟩
  | [x0, x1, x2, x3], _ => ⟨by kernel_rfl, by kernel_rfl, by kernel_rfl⟩
  | [x0, x1, x2, x3, x4], _ => ⟨by kernel_rfl, by kernel_rfl, by kernel_rfl⟩
  | [x0, x1, x2, x3, x4, x5], _ => ⟨by kernel_rfl, by kernel_rfl, by kernel_rfl⟩
  | [x0, x1, x2, x3, x4, x5, x6], _ => ⟨by kernel_rfl, by kernel_rfl, by kernel_rfl⟩
  | [x0, x1, x2, x3, x4, x5, x6, x7], _ => ⟨by kernel_rfl, by kernel_rfl, by kernel_rfl⟩
  | [x0, x1, x2, x3, x4, x5, x6, x7, x8], _ => ⟨by kernel_rfl, by kernel_rfl, by kernel_rfl⟩
  | [x0, x1, x2, x3, x4, x5, x6, x7, x8, x9], _ => ⟨by kernel_rfl, by kernel_rfl, by kernel_rfl⟩
  | [x0, x1, x2, x3, x4, x5, x6, x7, x8, x9, x10], _ => ⟨by kernel_rfl, by kernel_rfl, by kernel_rfl⟩
  | x0 :: x1 :: x2 :: x3 :: x4 :: x5 :: x6 :: x7 :: x8 :: x9 :: x10 :: x11 :: r, hl => by simp only [List.length_cons] at hl; omega
theorem grp4 (a0 a1 a2 a3 a4 a5 a6 a7 a8 a9 b0 b1 b2 b5 b6 b7 b8 b9 c0 c1 c2 c3 c4 c5 c6 c7 : Option D) (h : LH) : ∀ cs : List Nat, cs.length ≤ 11 → g_in_groups [.str cs, .int 4, .str [58]] h = .ok (.str (gr 4 cs)) h ∧ eParts [a0, a1, a2, a3, a4, a5, a6, a7, a8, a9, b0, b1, b2, some (.int 4), some (.str cs), b5, b6, b7, b8, b9, c0, c1, c2, c3, c4, c5, c6, c7] h = .ok (.lst (pt 4 cs)) h ∧ mJoin (.str [58]) [.lst (pt 4 cs)] h = some (.str (gr 4 cs), h)
  | [], _ => ⟨by kernel_rfl, by kernel_rfl, by kernel_rfl⟩
  | [x0], _ => ⟨by kernel_rfl, by kernel_rfl, by kernel_rfl⟩
  | [x0, x1], _ => ⟨by kernel_rfl, by kernel_rfl, by kernel_rfl⟩
  | [x0, x1, x2], _ => ⟨by kernel_rfl, by kernel_rfl, by kernel_rfl⟩
  | [x0, x1, x2, x3], _ => ⟨by kernel_rfl, by kernel_rfl, by kernel_rfl⟩
  | [x0, x1, x2, x3, x4], _ => ⟨by kernel_rfl, by kernel_rfl, by kernel_rfl⟩
  | [x0, x1, x2, x3, x4, x5], _ => ⟨by kernel_rfl, by kernel_rfl, by kernel_rfl⟩
  | [x0, x1, x2, x3, x4, x5, x6], _ => ⟨by kernel_rfl, by kernel_rfl, by kernel_rfl⟩
  | [x0, x1, x2, x3, x4, x5, x6, x7], _ => ⟨by kernel_rfl, by kernel_rfl, by kernel_rfl⟩
  | [x0, x1, x2, x3, x4, x5, x6, x7, x8], _ => ⟨by kernel_rfl, by kernel_rfl, by kernel_rfl⟩
  | [x0, x1, x2, x3, x4, x5, x6, x7, x8, x9], _ => ⟨by kernel_rfl, by kernel_rfl, by kernel_rfl⟩
  | [x0, x1, x2, x3, x4, x5, x6, x7, x8, x9, x10], _ => ⟨by kernel_rfl, by kernel_rfl, by kernel_rfl⟩
  | x0 :: x1 :: x2 :: x3 :: x4 :: x5 :: x6 :: x7 :: x8 :: x9 :: x10 :: x11 :: r, hl => by simp only [List.length_cons] at hl; omega
theorem grp5 (a0 a1 a2 a3 a4 a5 a6 a7 a8 a9 b0 b1 b2 b5 b6 b7 b8 b9 c0 c1 c2 c3 c4 c5 c6 c7 : Option D) (h : LH) : ∀ cs : List Nat, cs.length ≤ 11 → g_in_groups [.str cs, .int 5, .str [58]] h = .ok (.str (gr 5 cs)) h ∧ eParts [a0, a1, a2, a3, a4, a5, a6, a7, a8, a9, b0, b1, b2, some (.int 5), some (.str cs), b5, b6, b7, b8, b9, c0, c1, c2, c3, c4, c5, c6, c7] h = .ok (.lst (pt 5 cs)) h ∧ mJoin (.str [58]) [.lst (pt 5 cs)] h = some (.str (gr 5 cs), h)
  | [], _ => ⟨by kernel_rfl, by kernel_rfl, by kernel_rfl⟩
  | [x0], _ => ⟨by kernel_rfl, by kernel_rfl, by kernel_rfl⟩
  | [x0, x1], _ => ⟨by kernel_rfl, by kernel_rfl, by kernel_rfl⟩
  | [x0, x1, x2], _ => ⟨by kernel_rfl, by kernel_rfl, by kernel_rfl⟩
  | [x0, x1, x2, x3], _ => ⟨by kernel_rfl, by kernel_rfl, by kernel_rfl⟩
  | [x0, x1, x2, x3, x4], _ => ⟨by kernel_rfl, by kernel_rfl, by kernel_rfl⟩
  | [x0, x1, x2, x3, x4, x5], _ => ⟨by kernel_rfl, by kernel_rfl, by kernel_rfl⟩
  | [x0, x1, x2, x3, x4, x5, x6], _ => ⟨by kernel_rfl, by kernel_rfl, by kernel_rfl⟩
  | [x0, x1, x2, x3, x4, x5, x6, x7], _ => ⟨by kernel_rfl, by kernel_rfl, by kernel_rfl⟩
  | [x0, x1, x2, x3, x4, x5, x6, x7, x8], _ => ⟨by kernel_rfl, by kernel_rfl, by kernel_rfl⟩
  | [x0, x1, x2, x3, x4, x5, x6, x7, x8, x9], _ => ⟨by kernel_rfl, by kernel_rfl, by kernel_rfl⟩
  | [x0, x1, x2, x3, x4, x5, x6, x7, x8, x9, x10], _ => ⟨by kernel_rfl, by kernel_rfl, by kernel_rfl⟩
  | x0 :: x1 :: x2 :: x3 :: x4 :: x5 :: x6 :: x7 :: x8 :: x9 :: x10 :: x11 :: r, hl => by simp only [List.length_cons] at hl; omega
end K01

set_option Elab.async false
set_option linter.all false
set_option maxRecDepth 100000
set_option maxHeartbeats 4000000
namespace K01
open PySem PySem.Spec PyProof.Rows L2 Sh
open PySem.Builtin
/-- a sign c told as z -/
def rc (c : Nat) (z : List Nat) (l : List Nat) : List Nat := l.flatMap fun k => if k = c then z else [k]
theorem rc_app (c : Nat) (z a b : List Nat) : rc c z (a ++ b) = rc c z a ++ rc c z b := by unfold rc; rw [List.flatMap_append]
theorem rc_free (c : Nat) (z : List Nat) : ∀ l : List Nat, c ∉ l → rc c z l = l
  | [], _ => rfl
  | k :: r, h => by
    have h1 : ¬ k = c := fun e => h (e ▸ List.mem_cons_self ..)
    have ih := rc_free c z r fun m => h (List.mem_cons_of_mem _ m)
    unfold rc at ih ⊢
    rw [List.flatMap_cons, if_neg h1, ih]; rfl
theorem rc_join (c : Nat) (z : List Nat) : ∀ parts : List Str, (∀ p ∈ parts, c ∉ p.cps.toList) → rc c z (Str.join ⟨#[c]⟩ parts).cps.toList = (Str.join (S z) parts).cps.toList
  | [], _ => rfl
  | [p], h => rc_free c z _ (h p (List.mem_singleton.mpr rfl))
  | p :: q :: r, h => by
    have ih := rc_join c z (q :: r) fun a ha => h a (List.mem_cons_of_mem _ ha)
    show rc c z (p ++ ⟨#[c]⟩ ++ Str.join ⟨#[c]⟩ (q :: r)).cps.toList = (p ++ S z ++ Str.join (S z) (q :: r)).cps.toList
    simp only [Str.cps_append, Array.toList_append]
    rw [rc_app, rc_app, ih, rc_free c z _ (h p (List.mem_cons_self ..))]
    congr 2
    show rc c z [c] = z
    unfold rc
    rw [List.flatMap_cons, if_pos rfl, List.flatMap_nil, List.append_nil]
theorem rep_char (a : List Nat) (c : Nat) (z : List Nat) : cp (Txt.replace (S a) (S [c]) (S z)) = rc c z a := by
  show (Txt.replace (S a) ⟨#[c]⟩ (S z)).cps.toList = _
  rw [StrLaws.replace_one, ← rc_join c z _ (StrLaws.split_free (S a) c), StrLaws.join_split]
def nrm (a : List Nat) : List Nat := rc 108 [49] (rc 105 [49] (rc 111 [48] (rc 45 [] (a.map PyProof.Rows.lo1))))
theorem nrm_app (a b : List Nat) : nrm (a ++ b) = nrm a ++ nrm b := by unfold nrm; rw [List.map_append, rc_app, rc_app, rc_app, rc_app]
def crock : List Nat := [48, 49, 50, 51, 52, 53, 54, 55, 56, 57, 97, 98, 99, 100, 101, 102, 103, 104, 106, 107, 109, 110, 112, 113, 114, 115, 116, 118, 119, 120, 121, 122]
theorem crock_al : crock ∈ als := by decide +kernel
theorem rc_len (c : Nat) {z : List Nat} (hz : z.length ≤ 1) : ∀ a : List Nat, (rc c z a).length ≤ a.length
  | [] => Nat.le_refl _
  | k :: r => by
    have ih := rc_len c hz r
    unfold rc at ih ⊢
    rw [List.flatMap_cons, List.length_append, List.length_cons]
    split
    · omega
    · simp only [List.length_cons, List.length_nil]; omega
theorem repl_ok {y : Nat} {z a : List Nat} {m : Ev} {ρ : En} {h : LH} (e : m ρ h = .ok (.str a) h) (hz : z.length ≤ 1) (hl : a.length ≤ 1000) : eRepl [y] z m ρ h = .ok (.str (rc y z a)) h := by
  have hb : a.length + (a.length + 1) * z.length ≤ 16777216 := by
    have : (a.length + 1) * z.length ≤ (a.length + 1) * 1 := Nat.mul_le_mul_left _ hz
    omega
  unfold eRepl
  rw [e, ev_b1]
  simp only
  rw [if_pos (decide_eq_true hb), rep_char]
theorem read_crock_eq {a js : List Nat} (ha : a.all (· < 128) = true) (hl : a.length ≤ 1000) (hn : nrm a = sg crock js) (hj : ∀ j ∈ js, j < 32) (h1 : 1 ≤ js.length) (h60 : js.length ≤ 60) (h : LH) : g_read_crock [.str a] h = .ok (.int (vl 32 js)) h := by
  have l0 : (a.map PyProof.Rows.lo1).length = a.length := List.length_map _
  have r1 := rc_len 45 (z := []) (by decide) (a.map PyProof.Rows.lo1)
  have r2 := rc_len 111 (z := [48]) (by decide) (rc 45 [] (a.map PyProof.Rows.lo1))
  have r3 := rc_len 105 (z := [49]) (by decide) (rc 111 [48] (rc 45 [] (a.map PyProof.Rows.lo1)))
  have low : eMt "str" (mS0 gLower) (eVar 0) aNil [some (.str a), none] h = .ok (.str (a.map PyProof.Rows.lo1)) h := by
    have e : gLower a = some (.str (a.map PyProof.Rows.lo1)) := by
      unfold gLower
      rw [if_pos (decide_eq_true (by omega)), SX.lower_S ha]
    have e2 : mS0 gLower (.str a) [] h = some (.str (a.map PyProof.Rows.lo1), h) := by simp only [mS0, e, Option.map_some]
    unfold eMt
    rw [var_ok (d := .str a) rfl, ev_b1]
    simp only [show tyD "str" (.str a) h = true from rfl, if_true, nil_ok, ev_b1, e2]
  have rep := repl_ok (y := 108) (z := [49]) (repl_ok (y := 105) (z := [49]) (repl_ok (y := 111) (z := [48]) (repl_ok (y := 45) (z := []) low (by decide) (by omega)) (by decide) (by omega)) (by decide) (by omega)) (by decide) (by omega)
  have rep : eRepl [108] [49] (eRepl [105] [49] (eRepl [111] [48] (eRepl [45] [] (eMt "str" (mS0 gLower) (eVar 0) aNil)))) [some (.str a), none] h = .ok (.str (sg crock js)) h := by rw [← hn]; exact rep
  exact fn_rt rfl (seq_nx (asg_nm rep) (ret_ok (call_ok (cons_ok (var_ok rfl) (cons_ok (x := .str crock) rfl nil_ok)) (from_base_eq crock_al hj h1 h60 h))))
end K01

set_option Elab.async false
set_option linter.all false
set_option maxRecDepth 100000
set_option maxHeartbeats 4000000
namespace K01
open PySem PySem.Spec PyProof.Rows L2 Sh
theorem new_ok {ma : Av} {ρ : En} {h h1 : LH} {ds : List D} (ha : ma ρ h = .ok ds h1) (hf : fits ds.length = true) : eNew ma ρ h = .ok (.obj h1.length) (h1 ++ [.lst ds]) := by unfold eNew; rw [ha, ev_b1, if_pos hf]
theorem cut1 (d : D) (l : List D) : Sh.cutD (d :: l) none (some 1) = [d] := by
  unfold Sh.cutD
  rw [show HT.sIx (d :: l).length 0 none = 0 from rfl, show HT.sIx (d :: l).length (d :: l).length (some 1) = min 1 (d :: l).length from HT.sIx_nat _ _ 1]
  rw [List.length_cons, Nat.min_eq_left (by omega)]
  rfl
theorem dice_ok (x : Int) (h : LH) : ∃ a b c, g_x_law_dice [.int x] h = .ok (.obj h.length) (h ++ [.lst [.int a, .int b, .int c]]) := by
  by_cases e : -10 < x ∧ x < 10
  · refine ⟨if x < 0 then -x else x, 0, 2, fn_rt rfl ?_⟩
    have c : (eChain dLt dLt (eBin dSub (eC (.int 0)) (eC (.int 10))) (eVar 0) (eC (.int 10))) [some (.int x)] h = .ok (.bl true) h :=
      chain_ok (bin_ok rfl rfl ev_sub) (var_ok rfl) (by rw [ev_ltI, decide_eq_true (by omega)]) rfl (by rw [ev_ltI, decide_eq_true (by omega)])
    exact seq_rt (if_yes (test_ok c) rfl)
  · refine ⟨x, 1 + x % 1009, if decide ((10 : Int) ^ 18 ≤ x) then 1 else 0, fn_rt rfl ?_⟩
    have c : (eChain dLt dLt (eBin dSub (eC (.int 0)) (eC (.int 10))) (eVar 0) (eC (.int 10))) [some (.int x)] h = .ok (.bl false) h := by
      by_cases e1 : -10 < x
      · exact chain_ok (bin_ok rfl rfl ev_sub) (var_ok rfl) (by rw [ev_ltI, decide_eq_true (by omega)]) rfl (by rw [ev_ltI, decide_eq_false (by omega)])
      · have f : dLt (.int (0 - 10)) (.int x) = some (.bl false) := by rw [ev_ltI, decide_eq_false (by omega)]
        unfold eChain
        rw [bin_ok (a := eC (.int 0)) (b := eC (.int 10)) (z := .int (0 - 10)) rfl rfl ev_sub, ev_b1, var_ok (d := .int x) rfl, ev_b1, f]
    have a2 : (eBin dAdd (eC (.int 1)) (eBin dMod (eCall (bRes bInt) (aCons (eVar 0) aNil)) (eC (.int 1009)))) [some (.int x)] h = .ok (.int (1 + x % 1009)) h :=
      bin_ok rfl (bin_ok (call_ok (cons_ok (var_ok rfl) nil_ok) (res_ok ev_int)) rfl (ev_mod (by decide))) ev_addI
    have a3 : (eCall (bRes bInt) (aCons (eBin dGe (eVar 0) (eBin dPow (eC (.int 10)) (eC (.int 18)))) aNil)) [some (.int x)] h = .ok (.int (if decide ((10 : Int) ^ 18 ≤ x) then 1 else 0)) h :=
      call_ok (cons_ok (bin_ok (y := .int ((10 : Int) ^ 18)) (var_ok rfl) (by kernel_rfl) ev_geI) nil_ok) (res_ok ev_intB)
    exact seq_nx (if_no (test_ok c) rfl) (ret_ok (new_ok (cons_ok (var_ok rfl) (cons_ok a2 (cons_ok a3 nil_ok))) (Sh.fits_le (by simp only [List.length_cons, List.length_nil]; omega))))
theorem rounds_ok (ns : List Int) : ∃ a b c, g_x_law_rounds [.fls (ns.map D.int), .int 1] [] = .ok (.lst [.obj 0]) (dice a b c) := by
  cases ns with
  | nil =>
    obtain ⟨a, b, c, e⟩ := dice_ok 0 []
    refine ⟨a, b, c, fn_rt rfl ?_⟩
    exact seq_nx (asg_nm (d := .lst []) rfl) (seq_nx (ρ1 := [some (.fls []), some (.int 1), some (.lst [.int 0]), none]) (h1 := []) rfl (ret_ok (elc_of (ds := [.int 0]) (h1 := []) rfl (lc_cons (y := .obj 0) (ρ2 := [some (.fls []), some (.int 1), some (.lst [.int 0]), some (.int 0)]) rfl rfl (call_ok (cons_ok (var_ok rfl) nil_ok) e) rfl rfl))))
  | cons x r =>
    obtain ⟨a, b, c, e⟩ := dice_ok x []
    refine ⟨a, b, c, fn_rt rfl ?_⟩
    have s1 : eSl (eVar 0) oNo (oYes (eVar 1)) [some (.fls ((x :: r).map D.int)), some (.int 1), none, none] [] = .ok (.lst [.int x]) [] := by
      have d1 : dSl [] (.fls ((x :: r).map D.int)) none (some 1) = some (.lst [.int x]) := by
        show some (D.lst (Sh.cutD (D.int x :: r.map D.int) none (some 1))) = _
        rw [cut1]
      unfold eSl
      rw [var_ok (d := .fls ((x :: r).map D.int)) rfl, ev_b1]
      show (liftO [] (dSl [] (.fls ((x :: r).map D.int)) none (some 1))) = _
      rw [d1]
      rfl
    exact seq_nx (asg_nm s1) (seq_nx (ρ1 := [some (.fls ((x :: r).map D.int)), some (.int 1), some (.lst [.int x]), none]) (h1 := []) rfl (ret_ok (elc_of (ds := [.int x]) (h1 := []) rfl (lc_cons (y := .obj 0) (ρ2 := [some (.fls ((x :: r).map D.int)), some (.int 1), some (.lst [.int x]), some (.int x)]) rfl rfl (call_ok (cons_ok (var_ok rfl) nil_ok) e) rfl rfl))))
end K01

set_option Elab.async false
set_option linter.all false
set_option maxRecDepth 100000
set_option maxHeartbeats 4000000
namespace K01
open PySem PySem.Spec PyProof.Rows L2 Sh
theorem wh_law {b many : Nat} (hb : b < 2 ^ 64) (s0 s1 s2 s3 s4 s5 s6 s7 s8 s9 s10 s11 s12 s13 s14 s15 s19 s20 s21 s22 s23 s24 s25 s26 s27 : Option D) (h : LH) : ∀ (f F k : Nat), f < F → k + f ≤ 1000000 → many ≤ b ^ (k + f) →
    sWh (bTest (eBin dLt (eCall g_power_of (aCons (eVar 17) (aCons (eVar 18) aNil))) (eVar 16))) (sAsg (eBin dAdd (eVar 18) (eC (.int 1))) (gNm 18)) F [s0, s1, s2, s3, s4, s5, s6, s7, s8, s9, s10, s11, s12, s13, s14, s15, some (.int many), some (.int b), some (.int k), s19, s20, s21, s22, s23, s24, s25, s26, s27] h = .nx [s0, s1, s2, s3, s4, s5, s6, s7, s8, s9, s10, s11, s12, s13, s14, s15, some (.int many), some (.int b), some (.int (nd b many f k : Nat)), s19, s20, s21, s22, s23, s24, s25, s26, s27] h
  | f, 0, k, hf, _, _ => absurd hf (Nat.not_lt_zero _)
  | f, F + 1, k, hf, hk, hm => by
    have pw : g_power_of [.int b, .int k] h = .ok (.int (b ^ k : Nat)) h := power_eq hb (by omega) h
    have cl : (eCall g_power_of (aCons (eVar 17) (aCons (eVar 18) aNil))) [s0, s1, s2, s3, s4, s5, s6, s7, s8, s9, s10, s11, s12, s13, s14, s15, some (.int many), some (.int b), some (.int k), s19, s20, s21, s22, s23, s24, s25, s26, s27] h = .ok (.int (b ^ k : Nat)) h := call_ok (cons_ok (var_ok rfl) (cons_ok (var_ok rfl) nil_ok)) pw
    by_cases z : b ^ k < many
    · cases f with
      | zero => simp only [Nat.add_zero] at hm; omega
      | succ f =>
        have ih := wh_law hb s0 s1 s2 s3 s4 s5 s6 s7 s8 s9 s10 s11 s12 s13 s14 s15 s19 s20 s21 s22 s23 s24 s25 s26 s27 h f F (k + 1) (by omega) (by omega) (by rw [show k + 1 + f = k + (f + 1) from by omega]; exact hm)
        refine wh_yes (test_ok (bin_ok cl (var_ok (d := .int many) rfl) (by rw [ev_ltI, decide_eq_true (by omega)]))) (asg_nm (bin_ok (var_ok rfl) rfl ev_addI)) ?_
        rw [show nd b many (f + 1) k = nd b many f (k + 1) from if_pos z]
        exact ih
    · have e2 : nd b many f k = k := by
        cases f with
        | zero => rfl
        | succ f => exact if_neg z
      rw [e2]
      exact wh_no (test_ok (bin_ok cl (var_ok (d := .int many) rfl) (by rw [ev_ltI, decide_eq_false (by omega)])))
theorem for_whole (s0 s1 s2 s3 s4 s5 s6 s7 s8 s9 s10 s11 s12 s13 s14 s15 s16 s17 s18 s19 s20 s21 s22 s26 s27 : Option D) (h : LH) : ∀ (ps : List (Nat × Nat)) (v : Nat) (o q : Option D), PsOk ps → ∃ o' q', sFor (gTp 2 (gCns (gNm 25) (gCns (gNm 23) gNils))) (sAsg (eBin dAdd (eBin dMul (eVar 24) (eCall g_power_of (aCons (eC (.int 2)) (aCons (eVar 23) aNil)))) (eVar 25)) (gNm 24))
      (List.zipWith pairD (nums ps) (wids ps)) [s0, s1, s2, s3, s4, s5, s6, s7, s8, s9, s10, s11, s12, s13, s14, s15, s16, s17, s18, s19, s20, s21, s22, o, some (.int v), q, s26, s27] h = .nx [s0, s1, s2, s3, s4, s5, s6, s7, s8, s9, s10, s11, s12, s13, s14, s15, s16, s17, s18, s19, s20, s21, s22, o', some (.int (pk ps v : Nat)), q', s26, s27] h
  | [], v, o, q, _ => ⟨o, q, rfl⟩
  | p :: ps, v, o, q, hp => by
    obtain ⟨w1, w2, w3⟩ := hp p (List.mem_cons_self ..)
    obtain ⟨o', q', ih⟩ := for_whole s0 s1 s2 s3 s4 s5 s6 s7 s8 s9 s10 s11 s12 s13 s14 s15 s16 s17 s18 s19 s20 s21 s22 s26 s27 h ps (v * 2 ^ p.2 + p.1) (some (.int (p.2 : Int))) (some (.int (p.1 : Int))) fun i hi => hp i (List.mem_cons_of_mem _ hi)
    have pw : g_power_of [.int 2, .int (p.2 : Int)] h = .ok (.int (2 ^ p.2 : Nat)) h := power2 (by omega) h
    have p9 := pow9 w2
    refine ⟨o', q', for_cons (ρ1 := [s0, s1, s2, s3, s4, s5, s6, s7, s8, s9, s10, s11, s12, s13, s14, s15, s16, s17, s18, s19, s20, s21, s22, some (.int (p.2 : Int)), some (.int v), some (.int (p.1 : Int)), s26, s27]) rfl (asg_nm (bin_ok (bin_ok (var_ok rfl) (call_ok (cons_ok rfl (cons_ok (var_ok rfl) nil_ok)) pw) (ev_mulN (n := v) (by omega))) (var_ok rfl) ev_addI)) ?_⟩
    exact ih
end K01

set_option Elab.async false
set_option linter.all false
set_option maxRecDepth 100000
set_option maxHeartbeats 4000000
namespace K01
open PySem PySem.Spec PyProof.Rows L2 Sh
inductive All2 (P : D → D → Prop) : List D → List D → Prop where
  | nil : All2 P [] []
  | cons {x y xs ys} : P x y → All2 P xs ys → All2 P (x :: xs) (y :: ys)
theorem All2.len {P : D → D → Prop} {xs ys : List D} (h : All2 P xs ys) : ys.length = xs.length := by
  induction h with
  | nil => rfl
  | cons _ _ ih => simp [ih]
/-- a comprehension over the dice: each item by rolls -/
theorem lc_roll {vs : List Nat} {g : Gv} {me : Ev} {ρ : En} {P : D → D → Prop} : ∀ (ds : List D), (∀ d ∈ ds, ∀ a b c, ∃ ρ2 y a' b' c', g d (wipeD ρ vs) (dice a b c) = some (ρ2, dice a b c) ∧ me ρ2 (dice a b c) = .ok y (dice a' b' c') ∧ P d y) →
    ∀ (a b c : Int) (acc : List D), acc.length + ds.length ≤ 1000 → ∃ ys a' b' c', lcGo vs g bYes me ρ ds acc (dice a b c) = .ok (.lst (acc ++ ys)) (dice a' b' c') ∧ All2 P ds ys
  | [], _, a, b, c, acc, _ => ⟨[], a, b, c, by rw [List.append_nil]; rfl, .nil⟩
  | d :: ds, st, a, b, c, acc, hb => by
    have hb : acc.length + (ds.length + 1) ≤ 1000 := hb
    obtain ⟨ρ2, y, a1, b1, c1, e1, e2, p⟩ := st d (List.mem_cons_self ..) a b c
    obtain ⟨ys, a2, b2, c2, e3, q⟩ := lc_roll ds (fun x hx => st x (List.mem_cons_of_mem _ hx)) a1 b1 c1 (acc ++ [y]) (by rw [List.length_append]; simp only [List.length_cons, List.length_nil]; omega)
    exact ⟨y :: ys, a2, b2, c2, lc_cons e1 rfl e2 (Sh.fits_le (by omega)) (by rw [e3, List.append_assoc]; rfl), .cons p q⟩
/-- a roll of the name i, so many -/
theorem roll_call {ρ : En} {i : Nat} {e : Ev} {many a b c : Int} (hv : ρ[i]? = some (some (.obj 0))) (he : ∀ h, e ρ h = .ok (.int many) h) (h0 : 0 < many) (h1 : many ≤ 100000000) :
    ∃ x a' b' c', eCall g_x_law_roll (aCons (eVar i) (aCons e aNil)) ρ (dice a b c) = .ok (.int x) (dice a' b' c') ∧ 0 ≤ x ∧ x < many := by
  obtain ⟨x, a', b', c', r, q⟩ := roll a b c many h0 h1
  exact ⟨x, a', b', c', call_ok (cons_ok (var_ok hv) (cons_ok (he _) nil_ok)) r, q⟩
theorem roll_nat {ρ : En} {i : Nat} {e : Ev} {many : Nat} {a b c : Int} (hv : ρ[i]? = some (some (.obj 0))) (he : ∀ h, e ρ h = .ok (.int many) h) (h0 : 0 < many) (h1 : many ≤ 100000000) :
    ∃ (x : Nat) (a' b' c' : Int), eCall g_x_law_roll (aCons (eVar i) (aCons e aNil)) ρ (dice a b c) = .ok (.int (x : Int)) (dice a' b' c') ∧ x < many := by
  obtain ⟨x, a', b', c', r, q1, q2⟩ := roll_call (a := a) (b := b) (c := c) hv he (by omega) (by omega)
  exact ⟨x.toNat, a', b', c', by rw [r, Int.toNat_of_nonneg q1], by omega⟩
end K01

set_option Elab.async false
set_option linter.all false
set_option maxRecDepth 100000
set_option maxHeartbeats 4000000
namespace K01
open PySem PySem.Spec PyProof.Rows L2 Sh
/-- what a sign may be told as -/
def vars (c : Nat) : List (List Nat) := if c = 48 then [[48], [111], [79]] else if c = 49 then [[49], [105], [73], [108], [76]] else [[c], [PyProof.Rows.up1 c]]
def pieceB (c : Nat) (v : List Nat) : Bool := v.all (· < 128) && decide (v.length ≤ 2) && decide (nrm v = [c])
theorem vars_ok : ∀ c ∈ crock, ∀ v ∈ vars c, pieceB c v = true ∧ pieceB c (v ++ [45]) = true := by decide +kernel
abbrev eR (k : Int) : Ev := eCall g_x_law_roll (aCons (eVar 2) (aCons (eC (.int k)) aNil))
def ePiece : Ev := (eBin dAdd (eGet2 (eDic [((eC (.str [48])), (eIx (eC (.str [48, 111, 79])) (eR 3))), ((eC (.str [49])), (eIx (eC (.str [49, 105, 73, 108, 76])) (eR 5)))]) (eVar 12) (eIx (eLst (aCons (eVar 12) (aCons (eMt "str" (mS0 gUpper) (eVar 12) aNil) aNil))) (eR 2))) (eBin dMul (eC (.str [45])) (eCall (bRes bInt) (aCons (eBin dEq (eR 4) (eC (.int 0))) aNil))))
theorem dic_ok {ρ : En} {h h1 h2 : LH} {e1 e2 : Ev} {x y : D} (a : e1 ρ h = .ok x h1) (b : e2 ρ h1 = .ok y h2) : eDic [((eC (.str [48])), e1), ((eC (.str [49])), e2)] ρ h = .ok (.dic [(.inr (S [48]), x), (.inr (S [49]), y)]) h2 := by
  have q : eDicP [((eC (.str [48])), e1), ((eC (.str [49])), e2)] ρ h = .ok [(.inr (S [48]), x), (.inr (S [49]), y)] h2 := by
    simp only [eDicP, eC, ev_b1, a, b, keyD]
  unfold eDic
  rw [q]
  rfl
theorem get_ok {ρ : En} {h h1 h2 h3 : LH} {mo mk mx : Ev} {kvs : List (Key × D)} {k : D} {x : D} {key : Key} (a : mo ρ h = .ok (.dic kvs) h1) (b : mk ρ h1 = .ok k h2) (c : mx ρ h2 = .ok x h3) (e : keyD k = some key) : eGet2 mo mk mx ρ h = .ok ((lookD kvs key).getD x) h3 := by
  unfold eGet2
  rw [a, ev_b1]
  simp only
  rw [b, ev_b1, c, ev_b1, e]
theorem get3 (l : List Nat) {j : Nat} (hj : j < l.length) (hl : l.length ≤ 100) (ρ : En) (h h1 : LH) (e : Ev) (he : e ρ h = .ok (.int (j : Int)) h1) : eIx (eC (.str l)) e ρ h = .ok (.str [l.getD j 0]) h1 :=
  ix_ok rfl he (ev_ixS hj (by omega))
/-- one sign's piece -/
theorem piece_ok {ρ : En} {c : Nat} (hc : c ∈ crock) (v2 : ρ[2]? = some (some (.obj 0))) (v12 : ρ[12]? = some (some (.str [c]))) (a b d : Int) : ∃ v a' b' d', ePiece ρ (dice a b d) = .ok (.str v) (dice a' b' d') ∧ pieceB c v = true := by
  obtain ⟨x3, a1, b1, d1, r3, l3⟩ := roll_nat (e := eC (.int 3)) (many := 3) (a := a) (b := b) (c := d) v2 (fun h => rfl) (by decide) (by decide)
  obtain ⟨x5, a2, b2, d2, r5, l5⟩ := roll_nat (e := eC (.int 5)) (many := 5) (a := a1) (b := b1) (c := d1) v2 (fun h => rfl) (by decide) (by decide)
  obtain ⟨x2, a3, b3, d3, r2, l2⟩ := roll_nat (e := eC (.int 2)) (many := 2) (a := a2) (b := b2) (c := d2) v2 (fun h => rfl) (by decide) (by decide)
  obtain ⟨x4, a4, b4, d4, r4, l4⟩ := roll_nat (e := eC (.int 4)) (many := 4) (a := a3) (b := b3) (c := d3) v2 (fun h => rfl) (by decide) (by decide)
  have up : eMt "str" (mS0 gUpper) (eVar 12) aNil ρ (dice a2 b2 d2) = .ok (.str [PyProof.Rows.up1 c]) (dice a2 b2 d2) := by
    have hA : [c].all (· < 128) = true := by
      have q : ∀ k ∈ crock, [k].all (· < 128) = true := by decide +kernel
      exact q c hc
    have e : gUpper [c] = some (.str [PyProof.Rows.up1 c]) := by
      unfold gUpper
      rw [if_pos (decide_eq_true (by simp only [List.length_cons, List.length_nil]; omega)), SX.upper_S hA]
      rfl
    have e2 : mS0 gUpper (.str [c]) [] (dice a2 b2 d2) = some (.str [PyProof.Rows.up1 c], dice a2 b2 d2) := by simp only [mS0, e, Option.map_some]
    unfold eMt
    rw [var_ok v12, ev_b1]
    simp only [show tyD "str" (.str [c]) (dice a2 b2 d2) = true from rfl, if_true, nil_ok, ev_b1, e2]
  have dft : ∃ u, eIx (eLst (aCons (eVar 12) (aCons (eMt "str" (mS0 gUpper) (eVar 12) aNil) aNil))) (eR 2) ρ (dice a2 b2 d2) = .ok (.str u) (dice a3 b3 d3) ∧ u ∈ [[c], [PyProof.Rows.up1 c]] := by
    have ls : eLst (aCons (eVar 12) (aCons (eMt "str" (mS0 gUpper) (eVar 12) aNil) aNil)) ρ (dice a2 b2 d2) = .ok (.lst [.str [c], .str [PyProof.Rows.up1 c]]) (dice a2 b2 d2) := lst_ok (cons_ok (var_ok v12) (cons_ok up nil_ok)) (Sh.fits_le (by simp only [List.length_cons, List.length_nil]; omega))
    rcases (show x2 = 0 ∨ x2 = 1 by omega) with rfl | rfl
    · exact ⟨[c], ix_ok ls r2 rfl, by simp⟩
    · exact ⟨[PyProof.Rows.up1 c], ix_ok ls r2 rfl, by simp⟩
  obtain ⟨u, du, hu⟩ := dft
  have g := get_ok (mk := eVar 12) (dic_ok (get3 [48, 111, 79] l3 (by decide) ρ _ _ (eR 3) r3) (get3 [49, 105, 73, 108, 76] l5 (by decide) ρ _ _ (eR 5) r5)) (var_ok v12) du rfl
  have pick : ∃ v, (lookD [((.inr (S [48]) : Key), D.str [[48, 111, 79].getD x3 0]), (.inr (S [49]), .str [[49, 105, 73, 108, 76].getD x5 0])] (.inr (S [c]))).getD (.str u) = .str v ∧ v ∈ vars c := by
    by_cases h8 : c = 48
    · subst h8
      refine ⟨[[48, 111, 79].getD x3 0], rfl, ?_⟩
      rcases (show x3 = 0 ∨ x3 = 1 ∨ x3 = 2 by omega) with rfl | rfl | rfl <;> decide
    · by_cases h9 : c = 49
      · subst h9
        refine ⟨[[49, 105, 73, 108, 76].getD x5 0], rfl, ?_⟩
        rcases (show x5 = 0 ∨ x5 = 1 ∨ x5 = 2 ∨ x5 = 3 ∨ x5 = 4 by omega) with rfl | rfl | rfl | rfl | rfl <;> decide
      · refine ⟨u, ?_, ?_⟩
        · have n1 : ¬ ((.inr (S [48]) : Key) = .inr (S [c])) := fun z => h8 (by have := S_inj (Sum.inr.inj z); simp at this; exact this.symm)
          have n2 : ¬ ((.inr (S [49]) : Key) = .inr (S [c])) := fun z => h9 (by have := S_inj (Sum.inr.inj z); simp at this; exact this.symm)
          simp [lookD, n1, n2]
        · unfold vars
          rw [if_neg h8, if_neg h9]
          exact hu
  obtain ⟨v, ev, hv⟩ := pick
  rw [ev] at g
  obtain ⟨p1, p2⟩ := vars_ok c hc v hv
  have lv : v.length ≤ 2 := by
    unfold pieceB at p1
    simp only [Bool.and_eq_true, decide_eq_true_eq] at p1
    exact p1.1.2
  by_cases z : x4 = 0
  · subst z
    refine ⟨v ++ [45], a4, b4, d4, bin_ok (y := .str [45]) g (bin_ok rfl (call_ok (cons_ok (bin_ok r4 rfl ev_eqI) nil_ok) (res_ok ev_intB)) rfl) ?_, p2⟩
    rw [ev_addS, if_pos (Sh.fits_le (by simp only [List.length_cons, List.length_nil]; omega))]
  · have e0 : (((x4 : Nat) : Int) == 0) = false := beq_eq_false_iff_ne.mpr (by omega)
    refine ⟨v, a4, b4, d4, bin_ok (y := .str []) g (bin_ok rfl (call_ok (cons_ok (bin_ok r4 rfl ev_eqI) nil_ok) (res_ok ev_intB)) (by rw [e0]; rfl)) ?_, p1⟩
    rw [ev_addS, if_pos (Sh.fits_le (by simp only [List.length_nil]; omega)), List.append_nil]
end K01

set_option Elab.async false
set_option linter.all false
set_option maxRecDepth 100000
set_option maxHeartbeats 4000000
namespace K01
open PySem PySem.Spec PyProof.Rows L2 Sh
theorem join0 : ∀ vs : List (List Nat), joinN [] vs = vs.flatten
  | [] => rfl
  | [p] => by simp [joinN]
  | p :: q :: r => by
    show p ++ ([] ++ joinN [] (q :: r)) = _
    rw [join0 (q :: r)]; simp
def PieceP (d y : D) : Prop := ∃ c v, d = .str [c] ∧ y = .str v ∧ pieceB c v = true
theorem pieces : ∀ {cs : List Nat} {ys : List D}, All2 PieceP (cs.map fun c => D.str [c]) ys → ∃ vs : List (List Nat), strsOf ys = some vs ∧ vs.length = cs.length ∧ nrm vs.flatten = cs ∧ vs.flatten.all (· < 128) = true ∧ vs.flatten.length ≤ 2 * cs.length ∧ (vs.map List.length).sum = vs.flatten.length
  | [], _, .nil => ⟨[], rfl, rfl, rfl, rfl, Nat.le_refl _, rfl⟩
  | c :: cs, _, .cons (y := y) (ys := ys) p q => by
    obtain ⟨vs, e1, e2, e3, e4, e5, e6⟩ := pieces q
    obtain ⟨c', v, h1, h2, h3⟩ := p
    cases h1
    subst h2
    unfold pieceB at h3
    simp only [Bool.and_eq_true, decide_eq_true_eq] at h3
    obtain ⟨⟨b1, b2⟩, b3⟩ := h3
    refine ⟨v :: vs, ?_, by simp [e2], ?_, ?_, ?_, ?_⟩
    · show (strsOf ys).map (fun zs => v :: zs) = _
      rw [e1]; rfl
    · rw [List.flatten_cons, nrm_app, b3, e3]; rfl
    · rw [List.flatten_cons, List.all_append, b1, e4]; rfl
    · rw [List.flatten_cons, List.length_append, List.length_cons]; omega
    · rw [List.map_cons, List.sum_cons, List.flatten_cons, List.length_append, e6]
theorem join_pieces {cs : List Nat} {ys : List D} (q : All2 PieceP (cs.map fun c => D.str [c]) ys) (hl : cs.length ≤ 1000) (h : LH) : ∃ t, mJoin (.str []) [.lst ys] h = some (.str t, h) ∧ nrm t = cs ∧ t.all (· < 128) = true ∧ t.length ≤ 2 * cs.length := by
  obtain ⟨vs, e1, e2, e3, e4, e5, e6⟩ := pieces q
  refine ⟨vs.flatten, ?_, e3, e4, e5⟩
  have hb : (vs.map List.length).sum + vs.length * ([] : List Nat).length ≤ 16777216 := by rw [e6]; simp only [List.length_nil, Nat.mul_zero]; omega
  show (match strsOf ys with
    | some ys => if decide ((ys.map List.length).sum + ys.length * ([] : List Nat).length ≤ 16777216) then some (D.str (joinN [] ys), h) else none
    | none => none) = _
  rw [e1]
  simp only
  rw [if_pos (decide_eq_true hb), join0]
end K01

set_option Elab.async false
set_option linter.all false
set_option maxRecDepth 100000
set_option maxHeartbeats 4000000
namespace K01
open PySem PySem.Spec PyProof.Rows L2 Sh
theorem ones : ∀ {ds ys : List D}, All2 (fun _ y => ∃ x, y = .str [x]) ds ys → ∃ t : List Nat, strsOf ys = some (t.map fun x => [x]) ∧ t.length = ds.length
  | [], _, .nil => ⟨[], rfl, rfl⟩
  | d :: ds, _, .cons (y := y) (ys := ys) p q => by
    obtain ⟨t, e1, e2⟩ := ones q
    obtain ⟨x, rfl⟩ := p
    refine ⟨x :: t, ?_, by simp [e2]⟩
    show (strsOf ys).map (fun zs => [x] :: zs) = _
    rw [e1]; rfl
theorem sum_ones : ∀ t : List Nat, ((t.map fun x => [x]).map List.length).sum = t.length
  | [] => rfl
  | x :: t => by
    have := sum_ones t
    simp only [List.map_cons, List.sum_cons, List.length_cons, List.length_nil] at *
    omega
theorem flat_ones : ∀ t : List Nat, (t.map fun x => [x]).flatten = t
  | [] => rfl
  | x :: t => by rw [List.map_cons, List.flatten_cons, flat_ones t]; rfl
theorem join_ones {ds ys : List D} (q : All2 (fun _ y => ∃ x, y = .str [x]) ds ys) (hl : ds.length ≤ 1000) (h : LH) : ∃ t : List Nat, mJoin (.str []) [.lst ys] h = some (.str t, h) ∧ t.length = ds.length := by
  obtain ⟨t, e1, e2⟩ := ones q
  refine ⟨t, ?_, e2⟩
  have hb : ((t.map fun x => [x]).map List.length).sum + (t.map fun x => [x]).length * ([] : List Nat).length ≤ 16777216 := by rw [sum_ones]; simp only [List.length_nil, Nat.mul_zero]; omega
  show (match strsOf ys with
    | some ys => if decide ((ys.map List.length).sum + ys.length * ([] : List Nat).length ≤ 16777216) then some (D.str (joinN [] ys), h) else none
    | none => none) = _
  rw [e1]
  simp only
  rw [if_pos (decide_eq_true hb), join0, flat_ones]
/-- widths drawn -/
theorem nats_of {k : Nat} : ∀ {ds ys : List D}, All2 (fun _ y => ∃ x : Nat, y = .int (x : Int) ∧ 1 ≤ x ∧ x ≤ k) ds ys → ∃ ws : List Nat, ys = iL ws ∧ ws.length = ds.length ∧ ∀ w ∈ ws, 1 ≤ w ∧ w ≤ k
  | [], _, .nil => ⟨[], rfl, rfl, fun w hw => by cases hw⟩
  | d :: ds, _, .cons p q => by
    obtain ⟨ws, rfl, e2, e3⟩ := nats_of q
    obtain ⟨x, rfl, p1, p2⟩ := p
    refine ⟨x :: ws, rfl, by simp [e2], fun w hw => ?_⟩
    rcases List.mem_cons.mp hw with rfl | hw
    · exact ⟨p1, p2⟩
    · exact e3 w hw
/-- numbers drawn for them -/
theorem ps_of : ∀ {ws : List Nat} {ys : List D}, (∀ w ∈ ws, 1 ≤ w ∧ w ≤ 9) → All2 (fun d y => ∃ w x : Nat, d = .int (w : Int) ∧ y = .int (x : Int) ∧ x < 2 ^ w) (iL ws) ys → ∃ ps : List (Nat × Nat), ws = ps.map (·.2) ∧ ys = nums ps ∧ PsOk ps
  | [], _, _, .nil => ⟨[], rfl, rfl, fun p hp => by cases hp⟩
  | w :: ws, _, hw, .cons p q => by
    obtain ⟨ps, e1, e2, e3⟩ := ps_of (fun v hv => hw v (List.mem_cons_of_mem _ hv)) q
    obtain ⟨w', x, h1, h2, h3⟩ := p
    have ew : w' = w := by
      injection h1 with h1
      omega
    subst ew
    obtain ⟨u1, u2⟩ := hw w' (List.mem_cons_self ..)
    refine ⟨(x, w') :: ps, by rw [e1]; rfl, by rw [h2, e2]; rfl, fun p hp => ?_⟩
    rcases List.mem_cons.mp hp with rfl | hp
    · exact ⟨u1, u2, h3⟩
    · exact e3 p hp
end K01

set_option Elab.async false
set_option linter.all false
set_option maxRecDepth 100000
set_option maxHeartbeats 4000000
namespace K01
open PySem PySem.Spec PyProof.Rows L2 Sh
abbrev names : D := .lst (tab_ALPHABETS.map fun q => .str q.1)
theorem pick_al : ∀ i < 8, ∃ k s, atI (tab_ALPHABETS.map fun q => (D.str q.1)) ((i : Nat) : Int) = some (.str k) ∧ lookN tab_ALPHABETS k = some (.str s) ∧ s ∈ als := by
  intro i hi
  have m : ∀ j : Nat, j < 8 → als.getD j [] ∈ als := by decide +kernel
  rcases (show i = 0 ∨ i = 1 ∨ i = 2 ∨ i = 3 ∨ i = 4 ∨ i = 5 ∨ i = 6 ∨ i = 7 by omega) with rfl | rfl | rfl | rfl | rfl | rfl | rfl | rfl <;> exact ⟨_, _, rfl, rfl, m _ hi⟩
theorem kix_ok {ρ : En} {h h1 : LH} {e : Ev} {i : Nat} (hi : i < 8) (v1 : ρ[1]? = some (some names)) (he : e ρ h = .ok (.int (i : Int)) h1) : ∃ s, s ∈ als ∧ eKix tab_ALPHABETS (eIx (eVar 1) e) ρ h = .ok (.str s) h1 := by
  obtain ⟨k, s, e1, e2, e3⟩ := pick_al i hi
  refine ⟨s, e3, ?_⟩
  unfold eKix
  rw [ix_ok (var_ok v1) he (z := .str k) (by rw [ev_ixL]; exact e1), ev_b1]
  simp only
  rw [e2]; rfl
end K01

set_option Elab.async false
set_option linter.all false
set_option maxRecDepth 100000
set_option maxHeartbeats 4000000
namespace K01
open PySem PySem.Spec PyProof.Rows L2 Sh
def IsDice (h : LH) : Prop := ∃ a b c : Int, h = dice a b c
theorem rollN (a b c : Int) {many : Int} (h0 : 0 < many) (h1 : many ≤ 100000000) : ∃ (x : Nat) (a' b' c' : Int), g_x_law_roll [.obj 0, .int many] (dice a b c) = .ok (.int (x : Int)) (dice a' b' c') ∧ (x : Int) < many := by
  obtain ⟨x, a', b', c', r, q1, q2⟩ := roll a b c many h0 h1
  exact ⟨x.toNat, a', b', c', by rw [r, Int.toNat_of_nonneg q1], by omega⟩
/-- one and two drawn -/
theorem draw2 {ρ : En} (v2 : (wipeD ρ [8])[2]? = some (some (.obj 0))) (hl : (wipeD ρ [8]).length = 28) (a b c : Int) : ∃ (n m : Nat) (a' b' c' : Int), eLc (iRng1 (aCons (eC (.int 2)) aNil)) [8] (gNm 8) bYes (eCall g_x_law_roll (aCons (eVar 2) (aCons (eIx (eLst (aCons (eC (.int 9)) (aCons (eC (.int 900)) (aCons (eC (.int 900000)) aNil)))) (eCall g_x_law_roll (aCons (eVar 2) (aCons (eC (.int 3)) aNil)))) aNil))) ρ (dice a b c)
    = .ok (.lst [.int (n : Int), .int (m : Int)]) (dice a' b' c') ∧ n < 900000 ∧ m < 900000 := by
  have it : iRng1 (aCons (eC (.int 2)) aNil) ρ (dice a b c) = .ok ⟨rngD 0 2, none⟩ (dice a b c) := rng1 (j := 2) (by decide) rfl
  obtain ⟨ys, a', b', c', e, q⟩ := lc_roll (vs := [8]) (g := gNm 8) (me := eCall g_x_law_roll (aCons (eVar 2) (aCons (eIx (eLst (aCons (eC (.int 9)) (aCons (eC (.int 900)) (aCons (eC (.int 900000)) aNil)))) (eCall g_x_law_roll (aCons (eVar 2) (aCons (eC (.int 3)) aNil)))) aNil))) (ρ := ρ) (P := fun _ y => ∃ n : Nat, y = .int (n : Int) ∧ n < 900000) (rngD 0 2) (fun d _ a b c => by
    obtain ⟨x, a1, b1, c1, r1, l1⟩ := rollN a b c (many := 3) (by decide) (by decide)
    have v2' : ((wipeD ρ [8]).set 8 (some d))[2]? = some (some (.obj 0)) := by rw [List.getElem?_set_ne (by decide)]; exact v2
    have big : ∃ k : Nat, atI [D.int 9, .int 900, .int 900000] (x : Int) = some (.int (k : Int)) ∧ 0 < k ∧ k ≤ 900000 := by
      rcases (show x = 0 ∨ x = 1 ∨ x = 2 by omega) with rfl | rfl | rfl
      · exact ⟨9, rfl, by decide, by decide⟩
      · exact ⟨900, rfl, by decide, by decide⟩
      · exact ⟨900000, rfl, by decide, by decide⟩
    obtain ⟨k, ek, k0, k1⟩ := big
    obtain ⟨y, a2, b2, c2, r2, l2⟩ := rollN a1 b1 c1 (many := (k : Int)) (by omega) (by omega)
    exact ⟨(wipeD ρ [8]).set 8 (some d), .int (y : Int), a2, b2, c2, rfl, call_ok (cons_ok (var_ok v2') (cons_ok (ix_ok (lst_ok (cons_ok rfl (cons_ok rfl (cons_ok rfl nil_ok))) rfl) (call_ok (cons_ok (var_ok v2') (cons_ok rfl nil_ok)) r1) ek) nil_ok)) r2, y, rfl, by omega⟩) a b c [] (by decide)
  have q' : All2 (fun _ y => ∃ n : Nat, y = .int (n : Int) ∧ n < 900000) [.int (0 + (0 : Nat)), .int (0 + (1 : Nat))] ys := q
  cases q' with
  | cons p1 q1 =>
    cases q1 with
    | cons p2 q2 =>
      cases q2
      obtain ⟨n, rfl, hn⟩ := p1
      obtain ⟨m, rfl, hm⟩ := p2
      exact ⟨n, m, a', b', c', elc_of it (by rw [e]; rfl), hn, hm⟩
theorem told_crock {n : Nat} (hn : n < 2000000) (h : LH) : g_x_law_told_in [.int n, .str crock, .int 1] h = .ok (.str (sg crock (pd 1 (dg 32 n)))) h := told_in_eq (w := 1) crock_al hn (by decide) h
theorem sg_crock (js : List Nat) (hj : ∀ j ∈ js, j < 32) : ∀ c ∈ sg crock js, c ∈ crock := by
  intro c hc
  unfold sg at hc
  obtain ⟨j, h1, rfl⟩ := List.mem_map.mp hc
  have h2 := hj j h1
  rw [List.getD_eq_getElem?_getD, List.getElem?_eq_getElem (show j < crock.length from h2)]
  exact List.getElem_mem _
/-- mixed -/
theorem mixed_ok {ρ : En} {js : List Nat} (hj : ∀ j ∈ js, j < 32) (hl : js.length ≤ 60) (v10 : ρ[10]? = some (some (.str (sg crock js)))) (hr : ρ.length = 28) (v2 : ρ[2]? = some (some (.obj 0))) (a b c : Int) :
    ∃ (t : List Nat) (a' b' c' : Int), eMt "str" (mJoin) (eC (.str [])) (aCons (eLc (iSeq (eVar 10)) [12] (gNm 12) bYes ePiece) aNil) ρ (dice a b c) = .ok (.str t) (dice a' b' c') ∧ nrm t = sg crock js ∧ t.all (· < 128) = true ∧ t.length ≤ 120 := by
  have it : iSeq (eVar 10) ρ (dice a b c) = .ok ⟨(sg crock js).map fun c => .str [c], none⟩ (dice a b c) := by unfold iSeq; rw [var_ok v10]; rfl
  have hw : (wipeD ρ [12]) = ρ.set 12 none := rfl
  obtain ⟨ys, a', b', c', e, q⟩ := lc_roll (vs := [12]) (g := gNm 12) (me := ePiece) (ρ := ρ) (P := PieceP) ((sg crock js).map fun c => .str [c]) (fun d hd a b c => by
    obtain ⟨x, hx, rfl⟩ := List.mem_map.mp hd
    have hc := sg_crock js hj x hx
    obtain ⟨v, a1, b1, c1, e1, p1⟩ := piece_ok (ρ := (ρ.set 12 none).set 12 (some (.str [x]))) hc (by rw [List.getElem?_set_ne (by decide), List.getElem?_set_ne (by decide)]; exact v2) (by rw [List.set_set, List.getElem?_set_self (by omega)]) a b c
    exact ⟨_, .str v, a1, b1, c1, rfl, e1, x, v, rfl, rfl, p1⟩) a b c [] (by simp only [List.length_nil, List.length_map, sg_len]; omega)
  obtain ⟨t, j1, j2, j3, j4⟩ := join_pieces q (by rw [sg_len]; omega) (dice a' b' c')
  rw [sg_len] at j4
  refine ⟨t, a', b', c', ?_, j2, j3, by omega⟩
  exact mt_ok (x := .str []) rfl rfl (cons_ok (elc_of it e) nil_ok) j1
/-- a drawn text of abc -/
theorem plain_drawn {ρ : En} (hr : ρ.length = 28) (v2 : ρ[2]? = some (some (.obj 0))) (a b c : Int) :
    ∃ (t : List Nat) (a' b' c' : Int), eMt "str" (mJoin) (eC (.str [])) (aCons (eLc (iRng1 (aCons (eCall g_x_law_roll (aCons (eVar 2) (aCons (eC (.int 12)) aNil))) aNil)) [8] (gNm 8) bYes (eIx (eC (.str [97, 98, 99])) (eCall g_x_law_roll (aCons (eVar 2) (aCons (eC (.int 3)) aNil))))) aNil) ρ (dice a b c) = .ok (.str t) (dice a' b' c') ∧ t.length ≤ 11 := by
  obtain ⟨x, a0, b0, c0, r0, l0⟩ := rollN a b c (many := 12) (by decide) (by decide)
  have it := rng1N_ok (ma := aCons (eCall g_x_law_roll (aCons (eVar 2) (aCons (eC (.int 12)) aNil))) aNil) (ρ := ρ) (cons_ok (call_ok (cons_ok (var_ok v2) (cons_ok rfl nil_ok)) r0) nil_ok) (by omega)
  obtain ⟨ys, a', b', c', e, q⟩ := lc_roll (vs := [8]) (g := gNm 8) (me := eIx (eC (.str [97, 98, 99])) (eCall g_x_law_roll (aCons (eVar 2) (aCons (eC (.int 3)) aNil)))) (ρ := ρ) (P := fun _ y => ∃ x, y = .str [x]) (rngD 0 x) (fun d hd a b c => by
    obtain ⟨k, a1, b1, c1, r1, l1⟩ := rollN a b c (many := 3) (by decide) (by decide)
    exact ⟨(ρ.set 8 none).set 8 (some d), _, a1, b1, c1, rfl, get3 [97, 98, 99] (j := k) (by show k < 3; omega) (by decide) _ _ _ _ (call_ok (cons_ok (var_ok (by rw [List.getElem?_set_ne (by decide), List.getElem?_set_ne (by decide)]; exact v2)) (cons_ok rfl nil_ok)) r1), _, rfl⟩) a0 b0 c0 [] (by rw [rng_len]; show 0 + x ≤ _; omega)
  obtain ⟨t, j1, j2⟩ := join_ones q (by rw [rng_len]; omega) (dice a' b' c')
  rw [rng_len] at j2
  refine ⟨t, a', b', c', ?_, by omega⟩
  exact mt_ok (x := .str []) rfl rfl (cons_ok (elc_of it e) nil_ok) j1
/-- widths -/
theorem widths_ok {ρ : En} (hr : ρ.length = 28) (v2 : ρ[2]? = some (some (.obj 0))) (a b c : Int) :
    ∃ (ws : List Nat) (a' b' c' : Int), eLc (iRng1 (aCons (eBin dAdd (eC (.int 1)) (eCall g_x_law_roll (aCons (eVar 2) (aCons (eC (.int 4)) aNil)))) aNil)) [8] (gNm 8) bYes (eBin dAdd (eC (.int 1)) (eCall g_x_law_roll (aCons (eVar 2) (aCons (eC (.int 9)) aNil)))) ρ (dice a b c) = .ok (.lst (iL ws)) (dice a' b' c') ∧ 1 ≤ ws.length ∧ ws.length ≤ 4 ∧ ∀ w ∈ ws, 1 ≤ w ∧ w ≤ 9 := by
  obtain ⟨x, a0, b0, c0, r0, l0⟩ := rollN a b c (many := 4) (by decide) (by decide)
  have it := rng1N_ok (j := x + 1) (ma := aCons (eBin dAdd (eC (.int 1)) (eCall g_x_law_roll (aCons (eVar 2) (aCons (eC (.int 4)) aNil)))) aNil) (ρ := ρ) (cons_ok (by rw [show ((x + 1 : Nat) : Int) = 1 + (x : Int) by omega]; exact bin_ok rfl (call_ok (cons_ok (var_ok v2) (cons_ok rfl nil_ok)) r0) ev_addI) nil_ok) (by omega)
  obtain ⟨ys, a', b', c', e, q⟩ := lc_roll (vs := [8]) (g := gNm 8) (me := eBin dAdd (eC (.int 1)) (eCall g_x_law_roll (aCons (eVar 2) (aCons (eC (.int 9)) aNil)))) (ρ := ρ) (P := fun _ y => ∃ x : Nat, y = .int (x : Int) ∧ 1 ≤ x ∧ x ≤ 9) (rngD 0 (x + 1)) (fun d hd a b c => by
    obtain ⟨k, a1, b1, c1, r1, l1⟩ := rollN a b c (many := 9) (by decide) (by decide)
    exact ⟨(ρ.set 8 none).set 8 (some d), _, a1, b1, c1, rfl, bin_ok rfl (call_ok (cons_ok (var_ok (by rw [List.getElem?_set_ne (by decide), List.getElem?_set_ne (by decide)]; exact v2)) (cons_ok rfl nil_ok)) r1) ev_addI, k + 1, by rw [show (1 : Int) + (k : Int) = ((k + 1 : Nat) : Int) by omega], by omega, by omega⟩) a0 b0 c0 [] (by rw [rng_len]; show 0 + (x + 1) ≤ _; omega)
  obtain ⟨ws, rfl, w2, w3⟩ := nats_of q
  rw [rng_len] at w2
  exact ⟨ws, a', b', c', elc_of it e, by omega, by omega, w3⟩
/-- numbers -/
theorem numbers_ok {ρ : En} {ws : List Nat} (hw : ∀ w ∈ ws, 1 ≤ w ∧ w ≤ 9) (h4 : ws.length ≤ 4) (hr : ρ.length = 28) (v2 : ρ[2]? = some (some (.obj 0))) (v21 : ρ[21]? = some (some (.lst (iL ws)))) (a b c : Int) :
    ∃ (ps : List (Nat × Nat)) (a' b' c' : Int), eLc (iSeq (eVar 21)) [23] (gNm 23) bYes (eCall g_x_law_roll (aCons (eVar 2) (aCons (eCall g_power_of (aCons (eC (.int 2)) (aCons (eVar 23) aNil))) aNil))) ρ (dice a b c) = .ok (.lst (nums ps)) (dice a' b' c') ∧ ws = ps.map (·.2) ∧ PsOk ps := by
  have it : iSeq (eVar 21) ρ (dice a b c) = .ok ⟨iL ws, none⟩ (dice a b c) := seq_of (var_ok v21)
  obtain ⟨ys, a', b', c', e, q⟩ := lc_roll (vs := [23]) (g := gNm 23) (me := eCall g_x_law_roll (aCons (eVar 2) (aCons (eCall g_power_of (aCons (eC (.int 2)) (aCons (eVar 23) aNil))) aNil))) (ρ := ρ) (P := fun d y => ∃ w x : Nat, d = .int (w : Int) ∧ y = .int (x : Int) ∧ x < 2 ^ w) (iL ws) (fun d hd a b c => by
    obtain ⟨w, hw', rfl⟩ := List.mem_map.mp hd
    obtain ⟨w1, w9⟩ := hw w hw'
    have p9 := pow9 w9
    have p1 : 0 < 2 ^ w := Nat.two_pow_pos w
    obtain ⟨k, a1, b1, c1, r1, l1⟩ := rollN a b c (many := ((2 ^ w : Nat) : Int)) (by omega) (by omega)
    refine ⟨(ρ.set 23 none).set 23 (some (.int (w : Int))), _, a1, b1, c1, rfl, call_ok (cons_ok (var_ok (by rw [List.getElem?_set_ne (by decide), List.getElem?_set_ne (by decide)]; exact v2)) (cons_ok (call_ok (cons_ok rfl (cons_ok (var_ok (by rw [List.set_set, List.getElem?_set_self (by omega)])) nil_ok)) (power2 (n := w) (by omega) _)) nil_ok)) r1, w, k, rfl, rfl, by omega⟩) a b c [] (by rw [iL_len]; show 0 + ws.length ≤ _; omega)
  obtain ⟨ps, p1, rfl, p3⟩ := ps_of hw q
  exact ⟨ps, a', b', c', elc_of it e, p1, p3⟩
end K01

set_option Elab.async false
set_option linter.all false
set_option maxRecDepth 100000
set_option maxHeartbeats 4000000
namespace K01
open PySem PySem.Spec PyProof.Rows L2 Sh
def B : Sv := (sSeq (sAsg (eTup (aCons (eKix tab_ALPHABETS (eIx (eVar 1) (eCall g_x_law_roll (aCons (eVar 2) (aCons (eC (.int 8)) aNil))))) (aCons (eKix tab_ALPHABETS (eIx (eVar 1) (eCall g_x_law_roll (aCons (eVar 2) (aCons (eC (.int 8)) aNil))))) (aCons (eCall g_x_law_roll (aCons (eVar 2) (aCons (eC (.int 12)) aNil))) aNil)))) (gTp 3 (gCns (gNm 3) (gCns (gNm 4) (gCns (gNm 5) gNils))))) (sSeq (sAsg (eLc (iRng1 (aCons (eC (.int 2)) aNil)) [8] (gNm 8) bYes (eCall g_x_law_roll (aCons (eVar 2) (aCons (eIx (eLst (aCons (eC (.int 9)) (aCons (eC (.int 900)) (aCons (eC (.int 900000)) aNil)))) (eCall g_x_law_roll (aCons (eVar 2) (aCons (eC (.int 3)) aNil)))) aNil)))) (gTp 2 (gCns (gNm 6) (gCns (gNm 7) gNils)))) (sSeq (sAsg (eCall g_in_base (aCons (eVar 6) (aCons (eVar 3) (aCons (eVar 5) aNil)))) (gNm 9)) (sSeq (sIf (bOr (bTest (eBin dNe (eVar 9) (eCall g_x_law_told_in (aCons (eVar 6) (aCons (eVar 3) (aCons (eVar 5) aNil)))))) (bTest (eBin dNe (eCall g_from_base (aCons (eVar 9) (aCons (eVar 3) aNil))) (eVar 6)))) (sRet (eC (.bl false))) sNil) (sSeq (sIf (bTest (eBin dNe (eCall g_between_bases (aCons (eVar 9) (aCons (eVar 3) (aCons (eVar 4) (aCons (eVar 5) aNil))))) (eCall g_x_law_told_in (aCons (eVar 6) (aCons (eVar 4) (aCons (eVar 5) aNil)))))) (sRet (eC (.bl false))) sNil) (sSeq (sIf (bTest (eBin dNe (eBin dEq (eCall g_in_base_d2 (aCons (eVar 6) (aCons (eVar 3) aNil))) (eCall g_in_base_d2 (aCons (eVar 7) (aCons (eVar 3) aNil)))) (eBin dEq (eVar 6) (eVar 7)))) (sRet (eC (.bl false))) sNil) (sSeq (sIf (bTest (eBin dNe (eBin dLt (eCall g_in_base (aCons (eVar 6) (aCons (eKix tab_ALPHABETS (eC (.str [115, 105, 120, 116, 101, 101, 110]))) (aCons (eC (.int 8)) aNil)))) (eCall g_in_base (aCons (eVar 7) (aCons (eKix tab_ALPHABETS (eC (.str [115, 105, 120, 116, 101, 101, 110]))) (aCons (eC (.int 8)) aNil))))) (eBin dLt (eVar 6) (eVar 7)))) (sRet (eC (.bl false))) sNil) (sSeq (sAsg (eCall g_x_law_told_in (aCons (eVar 6) (aCons (eKix tab_ALPHABETS (eC (.str [99, 114, 111, 99, 107]))) (aCons (eC (.int 1)) aNil)))) (gNm 10)) (sSeq (sAsg (eMt "str" (mJoin) (eC (.str [])) (aCons (eLc (iSeq (eVar 10)) [12] (gNm 12) bYes (eBin dAdd (eGet2 (eDic [((eC (.str [48])), (eIx (eC (.str [48, 111, 79])) (eCall g_x_law_roll (aCons (eVar 2) (aCons (eC (.int 3)) aNil))))), ((eC (.str [49])), (eIx (eC (.str [49, 105, 73, 108, 76])) (eCall g_x_law_roll (aCons (eVar 2) (aCons (eC (.int 5)) aNil)))))]) (eVar 12) (eIx (eLst (aCons (eVar 12) (aCons (eMt "str" (mS0 gUpper) (eVar 12) aNil) aNil))) (eCall g_x_law_roll (aCons (eVar 2) (aCons (eC (.int 2)) aNil))))) (eBin dMul (eC (.str [45])) (eCall (bRes bInt) (aCons (eBin dEq (eCall g_x_law_roll (aCons (eVar 2) (aCons (eC (.int 4)) aNil))) (eC (.int 0))) aNil))))) aNil)) (gNm 11)) (sSeq (sAsg (eTup (aCons (eBin dAdd (eC (.int 1)) (eCall g_x_law_roll (aCons (eVar 2) (aCons (eC (.int 5)) aNil)))) (aCons (eMt "str" (mJoin) (eC (.str [])) (aCons (eLc (iRng1 (aCons (eCall g_x_law_roll (aCons (eVar 2) (aCons (eC (.int 12)) aNil))) aNil)) [8] (gNm 8) bYes (eIx (eC (.str [97, 98, 99])) (eCall g_x_law_roll (aCons (eVar 2) (aCons (eC (.int 3)) aNil))))) aNil)) aNil))) (gTp 2 (gCns (gNm 13) (gCns (gNm 14) gNils)))) (sSeq (sAsg (eRevA (eLc (iRng1 (aCons (eUn dNeg (eBin dDiv (eUn dNeg (eCall (bRes bLen) (aCons (eVar 14) aNil))) (eVar 13))) aNil)) [8] (gNm 8) bYes (eSl (eVar 14) (oYes (eCall (bRes bMax) (aCons (eC (.int 0)) (aCons (eBin dSub (eCall (bRes bLen) (aCons (eVar 14) aNil)) (eBin dMul (eVar 13) (eBin dAdd (eVar 8) (eC (.int 1))))) aNil)))) (oYes (eBin dSub (eCall (bRes bLen) (aCons (eVar 14) aNil)) (eBin dMul (eVar 13) (eVar 8))))))) (gNm 15)) (sSeq (sIf (bOr (bTest (eBin dNe (eCall g_read_crock (aCons (eVar 11) aNil)) (eVar 6))) (bTest (eBin dNe (eCall g_in_groups (aCons (eVar 14) (aCons (eVar 13) (aCons (eC (.str [58])) aNil)))) (eMt "str" (mJoin) (eC (.str [58])) (aCons (eVar 15) aNil))))) (sRet (eC (.bl false))) sNil) (sSeq (sPar3 16 17 18 (aCons (eBin dAdd (eC (.int 1)) (eCall g_x_law_roll (aCons (eVar 2) (aCons (eC (.int 5000)) aNil)))) (aCons (eBin dAdd (eC (.int 2)) (eCall g_x_law_roll (aCons (eVar 2) (aCons (eC (.int 40)) aNil)))) (aCons (eC (.int 1)) aNil)))) (sSeq (sWh (bTest (eBin dLt (eCall g_power_of (aCons (eVar 17) (aCons (eVar 18) aNil))) (eVar 16))) (sAsg (eBin dAdd (eVar 18) (eC (.int 1))) (gNm 18)) fuel) (sSeq (sIf (bOr (bTest (eBin dNe (eCall g_signs_needed (aCons (eVar 16) (aCons (eVar 17) aNil))) (eVar 18))) (bTest (eBin dNe (eCall g_next_text (aCons (eVar 9) (aCons (eVar 3) aNil))) (eCall g_x_law_told_in (aCons (eBin dAdd (eVar 6) (eC (.int 1))) (aCons (eVar 3) (aCons (eCall (bRes bLen) (aCons (eVar 9) aNil)) aNil))))))) (sRet (eC (.bl false))) sNil) (sSeq (sAsg (eBin dAdd (eC (.int 1)) (eCall g_x_law_roll (aCons (eVar 2) (aCons (eC (.int 24)) aNil)))) (gNm 19)) (sSeq (sAsg (eIf (bTest (eBin dLt (eVar 6) (eCall g_power_of (aCons (eC (.int 2)) (aCons (eVar 19) aNil))))) (eCall g_x_law_bits (aCons (eVar 6) (aCons (eVar 19) aNil))) (eC (.str [66, 97, 115, 101, 69, 114, 114, 111, 114]))) (gNm 20)) (sSeq (sIf (bOr (bTest (eBin dNe (eTold toldCat toldRet (eCall g_bits_of (aCons (eVar 6) (aCons (eVar 19) aNil)))) (eVar 20))) (bAnd (bTest (eBin dNe (eVar 20) (eC (.str [66, 97, 115, 101, 69, 114, 114, 111, 114])))) (bTest (eBin dNe (eCall g_from_bits (aCons (eVar 20) aNil)) (eVar 6))))) (sRet (eC (.bl false))) sNil) (sSeq (sAsg (eLc (iRng1 (aCons (eBin dAdd (eC (.int 1)) (eCall g_x_law_roll (aCons (eVar 2) (aCons (eC (.int 4)) aNil)))) aNil)) [8] (gNm 8) bYes (eBin dAdd (eC (.int 1)) (eCall g_x_law_roll (aCons (eVar 2) (aCons (eC (.int 9)) aNil))))) (gNm 21)) (sSeq (sAsg (eLc (iSeq (eVar 21)) [23] (gNm 23) bYes (eCall g_x_law_roll (aCons (eVar 2) (aCons (eCall g_power_of (aCons (eC (.int 2)) (aCons (eVar 23) aNil))) aNil)))) (gNm 22)) (sSeq (sAsg (eC (.int 0)) (gNm 24)) (sSeq (sForI (iZipD (aCons (eVar 22) (aCons (eVar 21) aNil))) (gTp 2 (gCns (gNm 25) (gCns (gNm 23) gNils))) (sAsg (eBin dAdd (eBin dMul (eVar 24) (eCall g_power_of (aCons (eC (.int 2)) (aCons (eVar 23) aNil)))) (eVar 25)) (gNm 24))) (sSeq (sIf (bOr (bTest (eBin dNe (eCall g_packed_number (aCons (eVar 22) (aCons (eVar 21) aNil))) (eVar 24))) (bTest (eBin dNe (eCall (bRes bList) (aCons (eCall g_unpacked_numbers (aCons (eVar 24) (aCons (eVar 21) aNil))) aNil)) (eVar 22)))) (sRet (eC (.bl false))) sNil) (sSeq (sAsg (eLc (iSeq (eLst (aCons (eC (.str [48, 79])) (aCons (eC (.str [48, 111])) (aCons (eC (.str [79, 111])) (aCons (eC (.str [49, 108])) (aCons (eC (.str [49, 73])) (aCons (eC (.str [108, 73])) (aCons (eC (.str [53, 83])) (aCons (eC (.str [50, 90])) (aCons (eC (.str [56, 66])) aNil))))))))))) [27] (gNm 27) (bAnd (bTest (eBin dIn (eIx (eVar 27) (eC (.int 0))) (eVar 3))) (bTest (eBin dIn (eIx (eVar 27) (eC (.int 1))) (eVar 3)))) (eVar 27)) (gNm 26)) (sIf (bTest (eBin dNe (eCall (bRes bList) (aCons (eCall g_alike_signs (aCons (eVar 3) aNil)) aNil)) (eVar 26))) (sRet (eC (.bl false))) sNil)))))))))))))))))))))))))
theorem tick_eq {n : Nat} : ((n : Int) + 1) = ((n + 1 : Nat) : Int) := by omega
theorem tick_eq' {n : Nat} : (1 + (n : Int)) = ((n + 1 : Nat) : Int) := by omega
theorem body_ok (X0 : D) (a b c : Int) : Goes IsDice (B [some X0, some names, some (.obj 0), none, none, none, none, none, none, none, none, none, none, none, none, none, none, none, none, none, none, none, none, none, none, none, none, none] (dice a b c)) := by
  unfold B
  obtain ⟨x1, a1, b1, c1, r_x1, l_x1⟩ := rollN a b c (many := 8) (by decide) (by decide)
  obtain ⟨s, hs, k1⟩ := kix_ok (e := eR 8) (ρ := [some X0, some names, some (.obj 0), none, none, none, none, none, none, none, none, none, none, none, none, none, none, none, none, none, none, none, none, none, none, none, none, none]) (i := x1) (by omega) rfl (call_ok (cons_ok (var_ok rfl) (cons_ok rfl nil_ok)) r_x1)
  obtain ⟨x2, a2, b2, c2, r_x2, l_x2⟩ := rollN a1 b1 c1 (many := 8) (by decide) (by decide)
  obtain ⟨t, ht, k2⟩ := kix_ok (e := eR 8) (ρ := [some X0, some names, some (.obj 0), none, none, none, none, none, none, none, none, none, none, none, none, none, none, none, none, none, none, none, none, none, none, none, none, none]) (i := x2) (by omega) rfl (call_ok (cons_ok (var_ok rfl) (cons_ok rfl nil_ok)) r_x2)
  obtain ⟨w, a3, b3, c3, r_w, l_w⟩ := rollN a2 b2 c2 (many := 12) (by decide) (by decide)
  refine fin_seq (asg_g (tup_ok (cons_ok k1 (cons_ok k2 (cons_ok (call_ok (cons_ok (var_ok rfl) (cons_ok rfl nil_ok)) r_w) nil_ok))) rfl) rfl) ?_
  show Goes IsDice ((_ : Sv) [some X0, some names, some (.obj 0), some (.str s), some (.str t), some (.int (w : Int)), none, none, none, none, none, none, none, none, none, none, none, none, none, none, none, none, none, none, none, none, none, none] (dice a3 b3 c3))
  obtain ⟨n, m, a4, b4, c4, e2, hn, hm⟩ := draw2 (ρ := [some X0, some names, some (.obj 0), some (.str s), some (.str t), some (.int (w : Int)), none, none, none, none, none, none, none, none, none, none, none, none, none, none, none, none, none, none, none, none, none, none]) rfl rfl a3 b3 c3
  refine fin_seq (asg_g e2 rfl) ?_
  show Goes IsDice ((_ : Sv) [some X0, some names, some (.obj 0), some (.str s), some (.str t), some (.int (w : Int)), some (.int (n : Int)), some (.int (m : Int)), none, none, none, none, none, none, none, none, none, none, none, none, none, none, none, none, none, none, none, none] (dice a4 b4 c4))
  obtain ⟨l2, l3⟩ := al_len s hs
  have V : ∀ {i : Nat} {d : D} {ρ : En} {h : LH}, ρ[i]? = some (some d) → eVar i ρ h = .ok d h := var_ok
  refine fin_seq (asg_nm (call_ok (cons_ok (V rfl) (cons_ok (V rfl) (cons_ok (V rfl) nil_ok))) (in_base_eq (w := w) hs (by omega) (by omega) _))) ?_
  show Goes IsDice ((_ : Sv) [some X0, some names, some (.obj 0), some (.str s), some (.str t), some (.int (w : Int)), some (.int (n : Int)), some (.int (m : Int)), none, some (.str (sg s (pd w (dg s.length n)))), none, none, none, none, none, none, none, none, none, none, none, none, none, none, none, none, none, none] (dice a4 b4 c4))
  refine fin_seq (if_no (or_no (test_ok (bin_ok (V rfl) (call_ok (cons_ok (V rfl) (cons_ok (V rfl) (cons_ok (V rfl) nil_ok))) (told_in_eq (w := w) hs (by omega) (by omega) _)) neS_same)) (test_ok (bin_ok (call_ok (cons_ok (V rfl) (cons_ok (V rfl) nil_ok)) (back_eq hs (by omega) (by omega) _)) (V rfl) neI_same))) rfl) ?_
  refine fin_seq (if_no (test_ok (bin_ok (call_ok (cons_ok (V rfl) (cons_ok (V rfl) (cons_ok (V rfl) (cons_ok (V rfl) nil_ok)))) (between_eq hs ht (by omega) (by omega) _)) (call_ok (cons_ok (V rfl) (cons_ok (V rfl) (cons_ok (V rfl) nil_ok))) (told_in_eq (w := w) ht (by omega) (by omega) _)) neS_same)) rfl) ?_
  have q1 : dEq (.str (sg s (pd 0 (dg s.length n)))) (.str (sg s (pd 0 (dg s.length m)))) = some (.bl ((n : Int) == (m : Int))) := by rw [ev_eqS, eq_eq hs (by omega) (by omega)]
  refine fin_seq (if_no (test_ok (bin_ok (bin_ok (call_ok (cons_ok (V rfl) (cons_ok (V rfl) nil_ok)) (in_base_d2 hs (by omega) _)) (call_ok (cons_ok (V rfl) (cons_ok (V rfl) nil_ok)) (in_base_d2 hs (by omega) _)) q1) (bin_ok (V rfl) (V rfl) ev_eqI) neB_same)) rfl) ?_
  have q2 : dLt (.str (sg hex (pd 8 (dg 16 n)))) (.str (sg hex (pd 8 (dg 16 m)))) = some (.bl (decide ((n : Int) < (m : Int)))) := by
    rw [ev_ltS, lt_eq (by omega) (by omega)]
    congr 2
    exact decide_eq_decide.mpr (by omega)
  have hx : ∀ (ρ : En) (h : LH), eKix tab_ALPHABETS (eC (.str [115, 105, 120, 116, 101, 101, 110])) ρ h = .ok (.str hex) h := fun _ _ => rfl
  have hc : ∀ (ρ : En) (h : LH), eKix tab_ALPHABETS (eC (.str [99, 114, 111, 99, 107])) ρ h = .ok (.str crock) h := fun _ _ => rfl
  refine fin_seq (if_no (test_ok (bin_ok (bin_ok (call_ok (cons_ok (V rfl) (cons_ok (hx _ _) (cons_ok rfl nil_ok))) (in_base_eq (w := 8) hex_al (by omega) (by omega) _)) (call_ok (cons_ok (V rfl) (cons_ok (hx _ _) (cons_ok rfl nil_ok))) (in_base_eq (w := 8) hex_al (by omega) (by omega) _)) q2) (bin_ok (V rfl) (V rfl) ev_ltI) neB_same)) rfl) ?_
  refine fin_seq (asg_nm (call_ok (cons_ok (V rfl) (cons_ok (hc _ _) (cons_ok rfl nil_ok))) (told_crock (by omega) _))) ?_
  show Goes IsDice ((_ : Sv) [some X0, some names, some (.obj 0), some (.str s), some (.str t), some (.int (w : Int)), some (.int (n : Int)), some (.int (m : Int)), none, some (.str (sg s (pd w (dg s.length n)))), some (.str (sg crock (pd 1 (dg 32 n)))), none, none, none, none, none, none, none, none, none, none, none, none, none, none, none, none, none] (dice a4 b4 c4))
  have dl : (dg 32 n).length ≤ 21 := dg_len2 (by decide) 21 n (Nat.lt_of_lt_of_le (show n < 2 ^ 21 by omega) (pow_le (by decide)))
  have jl : (pd 1 (dg 32 n)).length ≤ 60 := by rw [pd_len]; omega
  have j1 : 1 ≤ (pd 1 (dg 32 n)).length := by rw [pd_len]; omega
  have jj : ∀ j ∈ pd 1 (dg 32 n), j < 32 := pd_lt (by decide) (dg_lt (by decide) n)
  obtain ⟨mx, a5, b5, c5, e3, m1, m2, m3⟩ := mixed_ok (ρ := [some X0, some names, some (.obj 0), some (.str s), some (.str t), some (.int (w : Int)), some (.int (n : Int)), some (.int (m : Int)), none, some (.str (sg s (pd w (dg s.length n)))), some (.str (sg crock (pd 1 (dg 32 n)))), none, none, none, none, none, none, none, none, none, none, none, none, none, none, none, none, none]) jj jl rfl rfl rfl a4 b4 c4
  refine fin_seq (asg_nm e3) ?_
  show Goes IsDice ((_ : Sv) [some X0, some names, some (.obj 0), some (.str s), some (.str t), some (.int (w : Int)), some (.int (n : Int)), some (.int (m : Int)), none, some (.str (sg s (pd w (dg s.length n)))), some (.str (sg crock (pd 1 (dg 32 n)))), some (.str mx), none, none, none, none, none, none, none, none, none, none, none, none, none, none, none, none] (dice a5 b5 c5))
  obtain ⟨z, a6, b6, c6, r_z, l_z⟩ := rollN a5 b5 c5 (many := 5) (by decide) (by decide)
  obtain ⟨pl, a7, b7, c7, e4, p1⟩ := plain_drawn (ρ := [some X0, some names, some (.obj 0), some (.str s), some (.str t), some (.int (w : Int)), some (.int (n : Int)), some (.int (m : Int)), none, some (.str (sg s (pd w (dg s.length n)))), some (.str (sg crock (pd 1 (dg 32 n)))), some (.str mx), none, none, none, none, none, none, none, none, none, none, none, none, none, none, none, none]) rfl rfl a6 b6 c6
  refine fin_seq (asg_g (tup_ok (cons_ok (bin_ok rfl (call_ok (cons_ok (var_ok rfl) (cons_ok rfl nil_ok)) r_z) ev_addI) (cons_ok e4 nil_ok)) rfl) rfl) ?_
  show Goes IsDice ((_ : Sv) [some X0, some names, some (.obj 0), some (.str s), some (.str t), some (.int (w : Int)), some (.int (n : Int)), some (.int (m : Int)), none, some (.str (sg s (pd w (dg s.length n)))), some (.str (sg crock (pd 1 (dg 32 n)))), some (.str mx), none, some (.int (1 + (z : Int))), some (.str pl), none, none, none, none, none, none, none, none, none, none, none, none, none] (dice a7 b7 c7))
  have gp : ∃ (ps : List D) (gt : List Nat), g_in_groups [.str pl, .int (1 + (z : Int)), .str [58]] (dice a7 b7 c7) = .ok (.str gt) (dice a7 b7 c7) ∧ eParts [some X0, some names, some (.obj 0), some (.str s), some (.str t), some (.int (w : Int)), some (.int (n : Int)), some (.int (m : Int)), none, some (.str (sg s (pd w (dg s.length n)))), some (.str (sg crock (pd 1 (dg 32 n)))), some (.str mx), none, some (.int (1 + (z : Int))), some (.str pl), none, none, none, none, none, none, none, none, none, none, none, none, none] (dice a7 b7 c7) = .ok (.lst ps) (dice a7 b7 c7) ∧ mJoin (.str [58]) [.lst ps] (dice a7 b7 c7) = some (.str gt, (dice a7 b7 c7)) := by
    rcases (show z = 0 ∨ z = 1 ∨ z = 2 ∨ z = 3 ∨ z = 4 by omega) with rfl | rfl | rfl | rfl | rfl
    · obtain ⟨u1, u2, u3⟩ := grp1 _ _ _ _ _ _ _ _ _ _ _ _ _ _ _ _ _ _ _ _ _ _ _ _ _ _ (dice a7 b7 c7) pl (by omega)
      exact ⟨_, _, u1, u2, u3⟩
    · obtain ⟨u1, u2, u3⟩ := grp2 _ _ _ _ _ _ _ _ _ _ _ _ _ _ _ _ _ _ _ _ _ _ _ _ _ _ (dice a7 b7 c7) pl (by omega)
      exact ⟨_, _, u1, u2, u3⟩
    · obtain ⟨u1, u2, u3⟩ := grp3 _ _ _ _ _ _ _ _ _ _ _ _ _ _ _ _ _ _ _ _ _ _ _ _ _ _ (dice a7 b7 c7) pl (by omega)
      exact ⟨_, _, u1, u2, u3⟩
    · obtain ⟨u1, u2, u3⟩ := grp4 _ _ _ _ _ _ _ _ _ _ _ _ _ _ _ _ _ _ _ _ _ _ _ _ _ _ (dice a7 b7 c7) pl (by omega)
      exact ⟨_, _, u1, u2, u3⟩
    · obtain ⟨u1, u2, u3⟩ := grp5 _ _ _ _ _ _ _ _ _ _ _ _ _ _ _ _ _ _ _ _ _ _ _ _ _ _ (dice a7 b7 c7) pl (by omega)
      exact ⟨_, _, u1, u2, u3⟩
  obtain ⟨ps, gt, u1, u2, u3⟩ := gp
  refine fin_seq (asg_nm u2) ?_
  show Goes IsDice ((_ : Sv) [some X0, some names, some (.obj 0), some (.str s), some (.str t), some (.int (w : Int)), some (.int (n : Int)), some (.int (m : Int)), none, some (.str (sg s (pd w (dg s.length n)))), some (.str (sg crock (pd 1 (dg 32 n)))), some (.str mx), none, some (.int (1 + (z : Int))), some (.str pl), some (.lst ps), none, none, none, none, none, none, none, none, none, none, none, none] (dice a7 b7 c7))
  have rc : g_read_crock [.str mx] (dice a7 b7 c7) = .ok (.int (n : Int)) (dice a7 b7 c7) := by
    rw [read_crock_eq m2 (by omega) m1 jj j1 jl, vl_pd (by decide)]
  refine fin_seq (if_no (or_no (test_ok (bin_ok (call_ok (cons_ok (V rfl) nil_ok) rc) (V rfl) neI_same)) (test_ok (bin_ok (call_ok (cons_ok (V rfl) (cons_ok (V rfl) (cons_ok rfl nil_ok))) u1) (mt_ok (x := .str [58]) rfl rfl (cons_ok (V rfl) nil_ok) u3) neS_same))) rfl) ?_
  obtain ⟨y1, a8, b8, c8, r_y1, l_y1⟩ := rollN a7 b7 c7 (many := 5000) (by decide) (by decide)
  obtain ⟨y2, a9, b9, c9, r_y2, l_y2⟩ := rollN a8 b8 c8 (many := 40) (by decide) (by decide)
  refine fin_seq (par3_ok (cons_ok (bin_ok rfl (call_ok (cons_ok (var_ok rfl) (cons_ok rfl nil_ok)) r_y1) ev_addI) (cons_ok (bin_ok rfl (call_ok (cons_ok (var_ok rfl) (cons_ok rfl nil_ok)) r_y2) ev_addI) (cons_ok rfl nil_ok)))) ?_
  show Goes IsDice ((_ : Sv) [some X0, some names, some (.obj 0), some (.str s), some (.str t), some (.int (w : Int)), some (.int (n : Int)), some (.int (m : Int)), none, some (.str (sg s (pd w (dg s.length n)))), some (.str (sg crock (pd 1 (dg 32 n)))), some (.str mx), none, some (.int (1 + (z : Int))), some (.str pl), some (.lst ps), some (.int (1 + (y1 : Int))), some (.int (2 + (y2 : Int))), some (.int 1), none, none, none, none, none, none, none, none, none] (dice a9 b9 c9))
  obtain ⟨many, hmany⟩ : ∃ many : Nat, many = y1 + 1 := ⟨_, rfl⟩
  obtain ⟨bs, hbs⟩ : ∃ bs : Nat, bs = y2 + 2 := ⟨_, rfl⟩
  have em : (1 + (y1 : Int)) = (many : Int) := by omega
  have eb : (2 + (y2 : Int)) = (bs : Int) := by omega
  rw [em, eb]
  show Goes IsDice ((_ : Sv) [some X0, some names, some (.obj 0), some (.str s), some (.str t), some (.int (w : Int)), some (.int (n : Int)), some (.int (m : Int)), none, some (.str (sg s (pd w (dg s.length n)))), some (.str (sg crock (pd 1 (dg 32 n)))), some (.str mx), none, some (.int (1 + (z : Int))), some (.str pl), some (.lst ps), some (.int (many : Int)), some (.int (bs : Int)), some (.int 1), none, none, none, none, none, none, none, none, none] (dice a9 b9 c9))
  have hp13 : many ≤ bs ^ (1 + 13) := Nat.le_trans (show many ≤ 2 ^ (1 + 13) by omega) (Nat.pow_le_pow_left (by omega) _)
  refine fin_seq (wh_law (b := bs) (many := many) (by omega) _ _ _ _ _ _ _ _ _ _ _ _ _ _ _ _ _ _ _ _ _ _ _ _ _ _ 13 fuel 1 (by decide) (by decide) hp13) ?_
  show Goes IsDice ((_ : Sv) [some X0, some names, some (.obj 0), some (.str s), some (.str t), some (.int (w : Int)), some (.int (n : Int)), some (.int (m : Int)), none, some (.str (sg s (pd w (dg s.length n)))), some (.str (sg crock (pd 1 (dg 32 n)))), some (.str mx), none, some (.int (1 + (z : Int))), some (.str pl), some (.lst ps), some (.int (many : Int)), some (.int (bs : Int)), some (.int (nd bs many 13 1 : Nat)), none, none, none, none, none, none, none, none, none] (dice a9 b9 c9))
  have ln : fits (sg s (pd w (dg s.length n))).length = true := Sh.fits_le (by rw [sg_len, pd_len]; have := dg_len2 l2 21 n (Nat.lt_of_lt_of_le (show n < 2 ^ 21 by omega) (pow_le l2)); omega)
  have lw : (sg s (pd w (dg s.length n))).length = (pd w (dg s.length n)).length := sg_len _ _
  have lw2 : (pd w (dg s.length n)).length ≤ 60 := by rw [pd_len]; have := dg_len2 l2 21 n (Nat.lt_of_lt_of_le (show n < 2 ^ 21 by omega) (pow_le l2)); omega
  have lenr : bLen [.str (sg s (pd w (dg s.length n)))] (dice a9 b9 c9) = some (.int ((pd w (dg s.length n)).length : Nat), (dice a9 b9 c9)) := by rw [ev_len, ln, lw]; rfl
  have tnx : g_x_law_told_in [.int ((n : Int) + 1), .str s, .int ((pd w (dg s.length n)).length : Nat)] (dice a9 b9 c9) = .ok (.str (sg s (pd (pd w (dg s.length n)).length (dg s.length (n + 1))))) (dice a9 b9 c9) := by
    rw [tick_eq]; exact told_in_eq hs (by omega) (by omega) _
  refine fin_seq (if_no (or_no (test_ok (bin_ok (call_ok (cons_ok (V rfl) (cons_ok (V rfl) nil_ok)) (signs_needed_eq (b := bs) (many := many) (by omega) (by omega) (by omega) (by omega) _)) (V rfl) neI_same)) (test_ok (bin_ok (call_ok (cons_ok (V rfl) (cons_ok (V rfl) nil_ok)) (next_eq hs (by omega) (by omega) _)) (call_ok (cons_ok (bin_ok (V rfl) rfl ev_addI) (cons_ok (V rfl) (cons_ok (call_ok (cons_ok (V rfl) nil_ok) (res_ok lenr)) nil_ok))) tnx) neS_same))) rfl) ?_
  obtain ⟨v, a10, b10, c10, r_v, l_v⟩ := rollN a9 b9 c9 (many := 24) (by decide) (by decide)
  refine fin_seq (asg_nm (bin_ok rfl (call_ok (cons_ok (var_ok rfl) (cons_ok rfl nil_ok)) r_v) ev_addI)) ?_
  obtain ⟨bt, hbt⟩ : ∃ bt : Nat, bt = v + 1 := ⟨_, rfl⟩
  have ev : (1 + (v : Int)) = (bt : Int) := by omega
  rw [ev]
  show Goes IsDice ((_ : Sv) [some X0, some names, some (.obj 0), some (.str s), some (.str t), some (.int (w : Int)), some (.int (n : Int)), some (.int (m : Int)), none, some (.str (sg s (pd w (dg s.length n)))), some (.str (sg crock (pd 1 (dg 32 n)))), some (.str mx), none, some (.int (1 + (z : Int))), some (.str pl), some (.lst ps), some (.int (many : Int)), some (.int (bs : Int)), some (.int (nd bs many 13 1 : Nat)), some (.int (bt : Int)), none, none, none, none, none, none, none, none] (dice a10 b10 c10))
  have pw : g_power_of [.int 2, .int (bt : Int)] (dice a10 b10 c10) = .ok (.int (2 ^ bt : Nat)) (dice a10 b10 c10) := power2 (by omega) _
  have due : ∃ du : D, (eIf (bTest (eBin dLt (eVar 6) (eCall g_power_of (aCons (eC (.int 2)) (aCons (eVar 19) aNil))))) (eCall g_x_law_bits (aCons (eVar 6) (aCons (eVar 19) aNil))) (eC (.str [66, 97, 115, 101, 69, 114, 114, 111, 114]))) [some X0, some names, some (.obj 0), some (.str s), some (.str t), some (.int (w : Int)), some (.int (n : Int)), some (.int (m : Int)), none, some (.str (sg s (pd w (dg s.length n)))), some (.str (sg crock (pd 1 (dg 32 n)))), some (.str mx), none, some (.int (1 + (z : Int))), some (.str pl), some (.lst ps), some (.int (many : Int)), some (.int (bs : Int)), some (.int (nd bs many 13 1 : Nat)), some (.int (bt : Int)), none, none, none, none, none, none, none, none] (dice a10 b10 c10) = .ok du (dice a10 b10 c10)
      ∧ ∀ ρ : En, ρ[6]? = some (some (.int (n : Int))) → ρ[19]? = some (some (.int (bt : Int))) → ρ[20]? = some (some du) → (bOr (bTest (eBin dNe (eTold toldCat toldRet (eCall g_bits_of (aCons (eVar 6) (aCons (eVar 19) aNil)))) (eVar 20))) (bAnd (bTest (eBin dNe (eVar 20) (eC (.str [66, 97, 115, 101, 69, 114, 114, 111, 114])))) (bTest (eBin dNe (eCall g_from_bits (aCons (eVar 20) aNil)) (eVar 6))))) ρ (dice a10 b10 c10) = .ok false (dice a10 b10 c10) := by
    by_cases hb : n < 2 ^ bt
    · refine ⟨.tup (iL (bl bt n)), eif_yes (test_ok (bin_ok (V rfl) (call_ok (cons_ok rfl (cons_ok (V rfl) nil_ok)) pw) (by rw [ev_ltI, decide_eq_true (by omega)]))) (call_ok (cons_ok (V rfl) (cons_ok (V rfl) nil_ok)) (law_bits_eq (by omega) _)), fun ρ v6 v19 v20 => ?_⟩
      have o1 : Py.ok (⟨bl bt n⟩ : Tu Nat) = true := List.all_eq_true.mpr fun _ _ => rfl
      have n1 : dNe (.tup (iL (bl bt n))) (.tup (iL (bl bt n))) = some (.bl false) := dNe_same (a := (⟨bl bt n⟩ : Tu Nat)) o1 (by decide)
      have n2 : dNe (.tup (iL (bl bt n))) (.str [66, 97, 115, 101, 69, 114, 114, 111, 114]) = some (.bl true) := by
        exact neTS (⟨bl bt n⟩ : Tu Nat) rfl o1 (by decide) (by decide)
      have bo : eTold toldCat toldRet (eCall g_bits_of (aCons (eVar 6) (aCons (eVar 19) aNil))) ρ (dice a10 b10 c10) = .ok (.tup (iL (bl bt n))) (dice a10 b10 c10) := by
        unfold eTold
        rw [call_ok (cons_ok (V v6) (cons_ok (V v19) nil_ok)) (bits_ok (by omega) (by omega) hb _)]
      exact or_no (test_ok (bin_ok bo (V v20) n1)) (and_yes (test_ok (bin_ok (V v20) rfl n2)) (test_ok (bin_ok (call_ok (cons_ok (V v20) nil_ok) (from_bits_eq (by omega) (by omega) hb _)) (V v6) neI_same)))
    · refine ⟨.str [66, 97, 115, 101, 69, 114, 114, 111, 114], eif_no (test_ok (bin_ok (V rfl) (call_ok (cons_ok rfl (cons_ok (V rfl) nil_ok)) pw) (by rw [ev_ltI, decide_eq_false (by omega)]))) rfl, fun ρ v6 v19 v20 => ?_⟩
      have bo : eTold toldCat toldRet (eCall g_bits_of (aCons (eVar 6) (aCons (eVar 19) aNil))) ρ (dice a10 b10 c10) = .ok (.str [66, 97, 115, 101, 69, 114, 114, 111, 114]) (dice a10 b10 c10) := by
        have e : eCall g_bits_of (aCons (eVar 6) (aCons (eVar 19) aNil)) ρ (dice a10 b10 c10) = .exc "BaseError" (dice a10 b10 c10) := by
          unfold eCall
          rw [cons_ok (V v6) (cons_ok (V v19) nil_ok), ev_b1]
          exact bits_no (by omega) (by omega) (by omega) _
        unfold eTold
        rw [e]
        rfl
      exact or_no (test_ok (bin_ok bo (V v20) neS_same)) (and_no (test_ok (bin_ok (V v20) rfl neS_same)))
  obtain ⟨du, d1, d2⟩ := due
  refine fin_seq (asg_nm d1) ?_
  show Goes IsDice ((_ : Sv) [some X0, some names, some (.obj 0), some (.str s), some (.str t), some (.int (w : Int)), some (.int (n : Int)), some (.int (m : Int)), none, some (.str (sg s (pd w (dg s.length n)))), some (.str (sg crock (pd 1 (dg 32 n)))), some (.str mx), none, some (.int (1 + (z : Int))), some (.str pl), some (.lst ps), some (.int (many : Int)), some (.int (bs : Int)), some (.int (nd bs many 13 1 : Nat)), some (.int (bt : Int)), some du, none, none, none, none, none, none, none] (dice a10 b10 c10))
  refine fin_seq (if_no (d2 _ rfl rfl rfl) rfl) ?_
  obtain ⟨ws, a12, b12, c12, w1, w2, w3, w4⟩ := widths_ok (ρ := [some X0, some names, some (.obj 0), some (.str s), some (.str t), some (.int (w : Int)), some (.int (n : Int)), some (.int (m : Int)), none, some (.str (sg s (pd w (dg s.length n)))), some (.str (sg crock (pd 1 (dg 32 n)))), some (.str mx), none, some (.int (1 + (z : Int))), some (.str pl), some (.lst ps), some (.int (many : Int)), some (.int (bs : Int)), some (.int (nd bs many 13 1 : Nat)), some (.int (bt : Int)), some du, none, none, none, none, none, none, none]) rfl rfl a10 b10 c10
  refine fin_seq (asg_nm w1) ?_
  show Goes IsDice ((_ : Sv) [some X0, some names, some (.obj 0), some (.str s), some (.str t), some (.int (w : Int)), some (.int (n : Int)), some (.int (m : Int)), none, some (.str (sg s (pd w (dg s.length n)))), some (.str (sg crock (pd 1 (dg 32 n)))), some (.str mx), none, some (.int (1 + (z : Int))), some (.str pl), some (.lst ps), some (.int (many : Int)), some (.int (bs : Int)), some (.int (nd bs many 13 1 : Nat)), some (.int (bt : Int)), some du, some (.lst (iL ws)), none, none, none, none, none, none] (dice a12 b12 c12))
  obtain ⟨pr, a13, b13, c13, n1, n2, n3⟩ := numbers_ok (ρ := [some X0, some names, some (.obj 0), some (.str s), some (.str t), some (.int (w : Int)), some (.int (n : Int)), some (.int (m : Int)), none, some (.str (sg s (pd w (dg s.length n)))), some (.str (sg crock (pd 1 (dg 32 n)))), some (.str mx), none, some (.int (1 + (z : Int))), some (.str pl), some (.lst ps), some (.int (many : Int)), some (.int (bs : Int)), some (.int (nd bs many 13 1 : Nat)), some (.int (bt : Int)), some du, some (.lst (iL ws)), none, none, none, none, none, none]) w4 w3 rfl rfl rfl a12 b12 c12
  refine fin_seq (asg_nm n1) ?_
  subst n2
  show Goes IsDice ((_ : Sv) [some X0, some names, some (.obj 0), some (.str s), some (.str t), some (.int (w : Int)), some (.int (n : Int)), some (.int (m : Int)), none, some (.str (sg s (pd w (dg s.length n)))), some (.str (sg crock (pd 1 (dg 32 n)))), some (.str mx), none, some (.int (1 + (z : Int))), some (.str pl), some (.lst ps), some (.int (many : Int)), some (.int (bs : Int)), some (.int (nd bs many 13 1 : Nat)), some (.int (bt : Int)), some du, some (.lst (wids pr)), some (.lst (nums pr)), none, none, none, none, none] (dice a13 b13 c13))
  refine fin_seq (asg_nm (d := .int ((0 : Nat) : Int)) rfl) ?_
  show Goes IsDice ((_ : Sv) [some X0, some names, some (.obj 0), some (.str s), some (.str t), some (.int (w : Int)), some (.int (n : Int)), some (.int (m : Int)), none, some (.str (sg s (pd w (dg s.length n)))), some (.str (sg crock (pd 1 (dg 32 n)))), some (.str mx), none, some (.int (1 + (z : Int))), some (.str pl), some (.lst ps), some (.int (many : Int)), some (.int (bs : Int)), some (.int (nd bs many 13 1 : Nat)), some (.int (bt : Int)), some du, some (.lst (wids pr)), some (.lst (nums pr)), none, some (.int ((0 : Nat) : Int)), none, none, none] (dice a13 b13 c13))
  obtain ⟨o1, o2, fw⟩ := for_whole _ _ _ _ _ _ _ _ _ _ _ _ _ _ _ _ _ _ _ _ _ _ _ _ _ (dice a13 b13 c13) pr 0 none none n3
  have iz : Sh.iZipD (aCons (eVar 22) (aCons (eVar 21) aNil)) [some X0, some names, some (.obj 0), some (.str s), some (.str t), some (.int (w : Int)), some (.int (n : Int)), some (.int (m : Int)), none, some (.str (sg s (pd w (dg s.length n)))), some (.str (sg crock (pd 1 (dg 32 n)))), some (.str mx), none, some (.int (1 + (z : Int))), some (.str pl), some (.lst ps), some (.int (many : Int)), some (.int (bs : Int)), some (.int (nd bs many 13 1 : Nat)), some (.int (bt : Int)), some du, some (.lst (wids pr)), some (.lst (nums pr)), none, some (.int ((0 : Nat) : Int)), none, none, none] (dice a13 b13 c13) = .ok ⟨List.zipWith pairD (nums pr) (wids pr), none⟩ (dice a13 b13 c13) := by
    unfold Sh.iZipD
    rw [cons_ok (V (d := .lst (nums pr)) rfl) (cons_ok (V (d := .lst (wids pr)) rfl) nil_ok)]
    rfl
  refine fin_seq (for_of iz fw) ?_
  show Goes IsDice ((_ : Sv) [some X0, some names, some (.obj 0), some (.str s), some (.str t), some (.int (w : Int)), some (.int (n : Int)), some (.int (m : Int)), none, some (.str (sg s (pd w (dg s.length n)))), some (.str (sg crock (pd 1 (dg 32 n)))), some (.str mx), none, some (.int (1 + (z : Int))), some (.str pl), some (.lst ps), some (.int (many : Int)), some (.int (bs : Int)), some (.int (nd bs many 13 1 : Nat)), some (.int (bt : Int)), some du, some (.lst (wids pr)), some (.lst (nums pr)), o1, some (.int (pk pr 0 : Nat)), o2, none, none] (dice a13 b13 c13))
  rw [List.length_map] at w2 w3
  have nn : dNe (.lst (nums pr)) (.lst (nums pr)) = some (.bl false) := dNe_same (α := List Nat) (a := pr.map Prod.fst) (List.all_eq_true.mpr fun _ _ => rfl) (by decide)
  have li : bRes bList [.tup (nums pr)] (dice a13 b13 c13) = .ok (.lst (nums pr)) (dice a13 b13 c13) := rfl
  refine fin_seq (if_no (or_no (test_ok (bin_ok (call_ok (cons_ok (V rfl) (cons_ok (V rfl) nil_ok)) (packed_eq n3 _)) (V rfl) neI_same)) (test_ok (bin_ok (call_ok (cons_ok (call_ok (cons_ok (V rfl) (cons_ok (V rfl) nil_ok)) (unpacked_eq n3 w2 (by omega) _)) nil_ok) li) (V rfl) nn))) rfl) ?_
  refine fin_seq (asg_nm (lc_alike hs _ _ _ _ _ _ _ _ _ _ _ _ _ _ _ _ _ _ _ _ _ _ _ _ _ _ _ (dice a13 b13 c13))) ?_
  show Goes IsDice ((_ : Sv) [some X0, some names, some (.obj 0), some (.str s), some (.str t), some (.int (w : Int)), some (.int (n : Int)), some (.int (m : Int)), none, some (.str (sg s (pd w (dg s.length n)))), some (.str (sg crock (pd 1 (dg 32 n)))), some (.str mx), none, some (.int (1 + (z : Int))), some (.str pl), some (.lst ps), some (.int (many : Int)), some (.int (bs : Int)), some (.int (nd bs many 13 1 : Nat)), some (.int (bt : Int)), some du, some (.lst (wids pr)), some (.lst (nums pr)), o1, some (.int (pk pr 0 : Nat)), o2, some (.lst (prs s)), none] (dice a13 b13 c13))
  have pp : dNe (.lst (prs s)) (.lst (prs s)) = some (.bl false) := by
    have e : ∀ z ∈ als, dNe (.lst (prs z)) (.lst (prs z)) = some (.bl false) := by
      intro z hz
      simp only [als, tab_ALPHABETS, List.map_cons, List.map_nil, List.mem_cons, List.mem_nil_iff, or_false] at hz
      rcases hz with rfl | rfl | rfl | rfl | rfl | rfl | rfl | rfl <;> kernel_rfl
    exact e s hs
  have li2 : bRes bList [.tup (prs s)] (dice a13 b13 c13) = .ok (.lst (prs s)) (dice a13 b13 c13) := rfl
  exact fin_end (if_no (test_ok (bin_ok (call_ok (cons_ok (call_ok (cons_ok (V rfl) nil_ok) (alike_eq hs _)) nil_ok) li2) (V rfl) pp)) rfl) ⟨_, _, _, rfl⟩
theorem law_ok (ns : List Int) : ∃ h', f_law [.fls (ns.map D.int)] [] = .ok (.bl true) h' := by
  obtain ⟨a, b, c, e⟩ := rounds_ok ns
  obtain ⟨ρ', h', e1, _⟩ := body_ok (.fls (ns.map D.int)) a b c
  refine ⟨h', ?_⟩
  have m : m_law ([.fls (ns.map D.int)].map some ++ List.replicate (28 - [D.fls (ns.map D.int)].length) none) [] = .rt (.bl true) h' := by
    unfold m_law
    refine seq_nx (asg_nm (d := names) rfl) (seq_nx (for_of (seq_of (call_ok (cons_ok (var_ok rfl) (cons_ok rfl nil_ok)) e)) (for_cons rfl e1 for_nil)) (ret_ok (call_ok nil_ok (plain_ok h'))))
  show fn 28 m_law _ _ = _
  unfold fn
  rw [m]
end K01

set_option maxRecDepth 100000 in
set_option maxHeartbeats 0 in
theorem PySem.Challenge.cw_idstack_k01_numbers_in_bases_holds : PySem.Challenge.rw_idstack_k01_numbers_in_bases.Holds := by
  exact K01.holds fun ns _ _ => K01.law_ok ns
