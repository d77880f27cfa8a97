import PyProof.Rows.All
import Wide.All
import OpenK.AllK
import Wide.FinOn
import HandS.ForMost
import HandS.Exc
import HandS.TryOnly
import HandS.ExcOwn
import HandS.Defaults
import HandS.Wide
import HandS.WideMore
import HandS.Replace
import HandS.StrMore
import HandS.Lambda
import HandS.AnyAll
import HandS.Conv
import HandS.Rev
import HandS.Zip
import HandS.More
import HandS.Codes
import HandS.HeadEnd
import HandS.HeadHook1
import HandS.HeadHook2
import HandS.HeadHook3
import HandS.HeadHook4
import HandS.GenList
import HandS.RaiseMore
import HandS.Style
import HandS.TupAny
import HandS.Small
import HandS.ReplaceLit
import KE.KStateDown
import HandS.Head0
import HandS.Head1
import HandS.Head2
import HandS.EndTab
import HandS.HeadWalk
import KE.GoesMore
import KE.GoesEnum
import KE.GoesZip
import PyProof.SumAny
import PyProof.SliceStr2
import HandS.Strs
import HandS.SortInts
import PyProof.Rows.SortKeyStr
import PyProof.Rows.SortStr
import PySem.Challenge.RW_idstack_k19_stripes_of_codes
set_option Elab.async false
set_option linter.all false
set_option maxRecDepth 100000
set_option maxHeartbeats 4000000
/-! Sh0: data as trees, what may be changed as numbered objects, and what they stand for over the abstract heap. -/
namespace Sh
open PySem PySem.Spec PyProof.Rows L2

/-- data: a text is its codes; obj n: the n-th object that may be changed; fn k: a lambda; fls: a list that the text or the caller holds -/
inductive D where
  | non | bl (b : Bool) | int (i : Int) | str (x : List Nat)
  | tup (xs : List D) | lst (xs : List D) | dic (kvs : List (Key × D)) | obj (n : Nat) | fn (k : Nat) | fls (xs : List D)
  deriving Inhabited

/-- an object that may be changed -/
inductive LO where
  | lst (xs : List D) | dic (kvs : List (Key × D)) | dt (kvs : List (List Key × D)) | ins (C : Str) (fs : List (Str × D)) | gone
  deriving Inhabited

abbrev LH := List LO
inductive Res (α : Type) where
  | ok (a : α) (h : LH) | exc (c : Str) (h : LH) | err
@[simp] def Res.bind {α β : Type} : Res α → (α → LH → Res β) → Res β
  | .ok a h, f => f a h
  | .exc c h, _ => .exc c h
  | .err, _ => .err

theorem nodup_at {α : Type} {N : List α} (hN : N.Nodup) {i j : Nat} {x : α} (a : N[i]? = some x) (b : N[j]? = some x) : i = j := by
  obtain ⟨h1, e1⟩ := List.getElem?_eq_some_iff.mp a
  obtain ⟨h2, e2⟩ := List.getElem?_eq_some_iff.mp b
  exact (List.getElem_inj hN).mp (e1.trans e2.symm)

/-- the ghost: what never changes any more, where the objects stand -/
structure Gh where
  F : Hp
  α : List Addr
  /-- what is held for the moment (a list that a comprehension fills) -/
  E : Hp
structure Gh.lw (G G' : Gh) : Prop where
  F : ∀ a o, G.F a = some o → G'.F a = some o
  α : ∀ (i : Nat) (a : Addr), G.α[i]? = some a → G'.α[i]? = some a
structure Gh.le (G G' : Gh) : Prop extends Gh.lw G G' where
  E : G'.E = G.E
theorem Gh.le.w {G G' : Gh} (l : G.le G') : G.lw G' := ⟨l.F, l.α⟩
theorem Gh.lw.refl (G : Gh) : G.lw G := ⟨fun _ _ h => h, fun _ _ h => h⟩
theorem Gh.lw.trans {G G1 G2 : Gh} (a : G.lw G1) (b : G1.lw G2) : G.lw G2 := ⟨fun c o h => b.F c o (a.F c o h), fun i c h => b.α i c (a.α i c h)⟩
theorem Gh.le.refl (G : Gh) : G.le G := ⟨.refl G, rfl⟩
theorem Gh.le.trans {G G1 G2 : Gh} (a : G.le G1) (b : G1.le G2) : G.le G2 := ⟨a.w.trans b.w, b.E.trans a.E⟩

abbrev S (l : List Nat) : Str := ⟨l.toArray⟩

mutual
inductive RD (K : PySem.W.Frag) (G : Gh) : D → V → Prop where
  | non : RD K G .non .non
  | bl (b) : RD K G (.bl b) (.bl b)
  | int (i) : RD K G (.int i) (.int i)
  | str (x) : RD K G (.str x) (.str (S x))
  | tup {xs vs a} : SqT K G.F a vs → RDs K G xs vs → RD K G (.tup xs) (.ref a)
  | lst {xs vs a} : G.F a = some (.lst vs) → RDs K G xs vs → RD K G (.lst xs) (.ref a)
  | fls {xs vs a} : SqL K G.F a vs → RDs K G xs vs → RD K G (.fls xs) (.ref a)
  | dic {xs vs a} : G.F a = some (.dK vs) → RKs K G xs vs → RD K G (.dic xs) (.ref a)
  | obj {n a} : G.α[n]? = some a → RD K G (.obj n) (.ref a)
inductive RDs (K : PySem.W.Frag) (G : Gh) : List D → List V → Prop where
  | nil : RDs K G [] []
  | cons {x xs v vs} : RD K G x v → RDs K G xs vs → RDs K G (x :: xs) (v :: vs)
inductive RKs (K : PySem.W.Frag) (G : Gh) : List (Key × D) → List (Key × V) → Prop where
  | nil : RKs K G [] []
  | cons {k x xs v vs} : RD K G x v → RKs K G xs vs → RKs K G ((k, x) :: xs) ((k, v) :: vs)
end

theorem Rd.mono {H H' : Hp} {a : Addr} {u : HO} (r : Rd H a u) (h : ∀ a o, H a = some o → H' a = some o) : Rd H' a u := by
  rcases r with r | ⟨o, r⟩
  · exact .inl (h _ _ r)
  · exact .inr ⟨o, h _ _ r⟩
theorem SqL.mono {K : PySem.W.Frag} {H H' : Hp} {a : Addr} {xs : List V} (r : SqL K H a xs) (h : ∀ a o, H a = some o → H' a = some o) : SqL K H' a xs := by
  rcases r with r | r
  · exact .inl (Rd.mono r h)
  · exact .inr r
theorem SqT.mono {K : PySem.W.Frag} {H H' : Hp} {a : Addr} {xs : List V} (r : SqT K H a xs) (h : ∀ a o, H a = some o → H' a = some o) : SqT K H' a xs := by
  rcases r with r | r
  · exact .inl (Rd.mono r h)
  · exact .inr r

mutual
theorem RD.monow {K : PySem.W.Frag} {G G' : Gh} (l : G.lw G') : ∀ {d : D} {v : V}, RD K G d v → RD K G' d v
  | _, _, .non => .non
  | _, _, .bl b => .bl b
  | _, _, .int i => .int i
  | _, _, .str x => .str x
  | _, _, .tup h r => .tup (SqT.mono h l.F) (RDs.monow l r)
  | _, _, .lst h r => .lst (l.F _ _ h) (RDs.monow l r)
  | _, _, .fls h r => .fls (SqL.mono h l.F) (RDs.monow l r)
  | _, _, .dic h r => .dic (l.F _ _ h) (RKs.monow l r)
  | _, _, .obj h => .obj (l.α _ _ h)
theorem RDs.monow {K : PySem.W.Frag} {G G' : Gh} (l : G.lw G') : ∀ {d : List D} {v : List V}, RDs K G d v → RDs K G' d v
  | _, _, .nil => .nil
  | _, _, .cons a b => .cons (RD.monow l a) (RDs.monow l b)
theorem RKs.monow {K : PySem.W.Frag} {G G' : Gh} (l : G.lw G') : ∀ {d : List (Key × D)} {v : List (Key × V)}, RKs K G d v → RKs K G' d v
  | _, _, .nil => .nil
  | _, _, .cons a b => .cons (RD.monow l a) (RKs.monow l b)
end

theorem RD.mono {K : PySem.W.Frag} {G G' : Gh} {d : D} {v : V} (r : RD K G d v) (l : G.le G') : RD K G' d v := r.monow l.w
theorem RDs.mono {K : PySem.W.Frag} {G G' : Gh} {d : List D} {v : List V} (r : RDs K G d v) (l : G.le G') : RDs K G' d v := r.monow l.w
theorem RKs.mono {K : PySem.W.Frag} {G G' : Gh} {d : List (Key × D)} {v : List (Key × V)} (r : RKs K G d v) (l : G.le G') : RKs K G' d v := r.monow l.w

section
variable {K : PySem.W.Frag} {G : Gh}
theorem RDs.length : ∀ {xs : List D} {vs : List V}, RDs K G xs vs → xs.length = vs.length
  | _, _, .nil => rfl
  | _, _, .cons _ t => congrArg (· + 1) (RDs.length t)
theorem RDs.get : ∀ {xs : List D} {vs : List V} {i : Nat} {x : D}, RDs K G xs vs → xs[i]? = some x → ∃ v, vs[i]? = some v ∧ RD K G x v
  | _, _, _, _, .nil, e => by simp at e
  | _, _, 0, _, .cons r _, e => by simp at e; subst e; exact ⟨_, rfl, r⟩
  | _, _, i + 1, x, .cons _ t, e => by
    obtain ⟨u, h1, h2⟩ := RDs.get (i := i) (x := x) t (by simpa using e)
    exact ⟨u, by simpa using h1, h2⟩
theorem RDs.append : ∀ {xs ys : List D} {vs ws : List V}, RDs K G xs vs → RDs K G ys ws → RDs K G (xs ++ ys) (vs ++ ws)
  | _, _, _, _, .nil, s => s
  | _, _, _, _, .cons r t, s => .cons r (RDs.append t s)
theorem RDs.take : ∀ {xs : List D} {vs : List V} (n : Nat), RDs K G xs vs → RDs K G (xs.take n) (vs.take n)
  | _, _, 0, _ => by rw [List.take_zero, List.take_zero]; exact .nil
  | _, _, _ + 1, .nil => .nil
  | _, _, n + 1, .cons r t => .cons r (RDs.take n t)
theorem RDs.drop : ∀ {xs : List D} {vs : List V} (n : Nat), RDs K G xs vs → RDs K G (xs.drop n) (vs.drop n)
  | _, _, 0, r => r
  | _, _, _ + 1, .nil => .nil
  | _, _, n + 1, .cons _ t => RDs.drop n t
theorem RDs.reverse {xs : List D} {vs : List V} (h : RDs K G xs vs) : RDs K G xs.reverse vs.reverse := by
  induction h using RDs.rec (motive_1 := fun _ _ _ => True) (motive_3 := fun _ _ _ => True) with
  | cons r t _ ih => rw [List.reverse_cons, List.reverse_cons]; exact ih.append (.cons r .nil)
  | nil => exact .nil
  | _ => trivial
theorem RDs.set : ∀ {xs : List D} {vs : List V} (i : Nat) {x : D} {v : V}, RD K G x v → RDs K G xs vs → RDs K G (xs.set i x) (vs.set i v)
  | _, _, _, _, _, _, .nil => .nil
  | _, _, 0, _, _, r, .cons _ t => .cons r t
  | _, _, i + 1, _, _, r, .cons q t => .cons q (RDs.set i r t)
end

/-- fields -/
inductive RFs (K : PySem.W.Frag) (G : Gh) : List (Str × D) → List (Str × V) → Prop where
  | nil : RFs K G [] []
  | cons {f x xs v vs} : RD K G x v → RFs K G xs vs → RFs K G ((f, x) :: xs) ((f, v) :: vs)
/-- keys that are tuples -/
inductive RTs (K : PySem.W.Frag) (G : Gh) : List (List Key × D) → List (List Key × V) → Prop where
  | nil : RTs K G [] []
  | cons {k x xs v vs} : RD K G x v → RTs K G xs vs → RTs K G ((k, x) :: xs) ((k, v) :: vs)
theorem RFs.monow {K : PySem.W.Frag} {G G' : Gh} (l : G.lw G') : ∀ {d : List (Str × D)} {v : List (Str × V)}, RFs K G d v → RFs K G' d v
  | _, _, .nil => .nil
  | _, _, .cons a b => .cons (RD.monow l a) (RFs.monow l b)
theorem RTs.monow {K : PySem.W.Frag} {G G' : Gh} (l : G.lw G') : ∀ {d : List (List Key × D)} {v : List (List Key × V)}, RTs K G d v → RTs K G' d v
  | _, _, .nil => .nil
  | _, _, .cons a b => .cons (RD.monow l a) (RTs.monow l b)
/-- what stands at an object's place a -/
inductive RO (K : PySem.W.Frag) (G : Gh) (a : Addr) : LO → HO → Prop where
  | lst {xs vs} : RDs K G xs vs → RO K G a (.lst xs) (.lst vs)
  | dic {xs vs} : RKs K G xs vs → RO K G a (.dic xs) (.dK vs)
  | dt {xs vs} : RTs K G xs vs → RO K G a (.dt xs) (.dT vs)
  | ins {C fs gs dx} : G.F dx = some (.own a) → RFs K G fs gs → RO K G a (.ins C fs) (.ins (He.ga K C) dx gs)
theorem RO.monow {K : PySem.W.Frag} {G G' : Gh} (l : G.lw G') {a : Addr} : ∀ {o : LO} {u : HO}, RO K G a o u → RO K G' a o u
  | _, _, .lst r => .lst (r.monow l)
  | _, _, .dic r => .dic (r.monow l)
  | _, _, .dt r => .dt (r.monow l)
  | _, _, .ins h r => .ins (l.F _ _ h) (r.monow l)
theorem RFs.mono {K : PySem.W.Frag} {G G' : Gh} {d : List (Str × D)} {v : List (Str × V)} (r : RFs K G d v) (l : G.le G') : RFs K G' d v := r.monow l.w
theorem RTs.mono {K : PySem.W.Frag} {G G' : Gh} {d : List (List Key × D)} {v : List (List Key × V)} (r : RTs K G d v) (l : G.le G') : RTs K G' d v := r.monow l.w
theorem RO.mono {K : PySem.W.Frag} {G G' : Gh} {a : Addr} {o : LO} {u : HO} (r : RO K G a o u) (l : G.le G') : RO K G' a o u := r.monow l.w

/-- where the code tables stand, the name that their codes bear -/
abbrev Tb := List (Addr × Str)
/-- what may be held for the moment -/
def HoldOk (o : HO) : Prop := (∀ φ, o ≠ .ext φ) ∧ ∀ ps, o ≠ .tbl ps
theorem holdL (vs : List V) : HoldOk (.lst vs) := ⟨(fun _ e => by cases e), (fun _ e => by cases e)⟩
theorem holdD (vs : List (Key × V)) : HoldOk (.dK vs) := ⟨(fun _ e => by cases e), (fun _ e => by cases e)⟩
/-- the heap -/
structure RH (K : PySem.W.Frag) (T : Tb) (G : Gh) (h : LH) (H : Hp) : Prop where
  F : ∀ a o, G.F a = some o → H a = some o
  len : G.α.length = h.length
  nd : G.α.Nodup
  obj : ∀ (n : Nat) (o : LO) (a : Addr), h[n]? = some o → G.α[n]? = some a → (o = .gone ∧ (G.F a).isSome = true) ∨ (G.F a = none ∧ ∃ u, H a = some u ∧ RO K G a o u)
  tab : ∀ p ∈ T, (∃ ps : Array Value, H p.1 = some (.tbl ps) ∧ TriplesOk ps.toList ∧ ∀ (pos : Pos) (cv : Value), codeAmong pos ps.toList = some cv → ∃ c, cv = .ref c ∧ G.F c = some (LamX.CodeO c p.2)) ∧ G.F p.1 = none ∧ p.1 ∉ G.α ∧ G.E p.1 = none
  ext : ∀ a o, G.E a = some o → H a = some o ∧ G.F a = none ∧ a ∉ G.α ∧ HoldOk o
  ntb : ∀ a ps, G.F a ≠ some (.tbl ps)

section
variable {K : PySem.W.Frag} {T : Tb} {G : Gh} {h : LH} {H : Hp}
theorem RH.some_at (r : RH K T G h H) {n : Nat} {a : Addr} (e : G.α[n]? = some a) : (H a).isSome = true := by
  have hn : n < h.length := by rw [← r.len]; exact (List.getElem?_eq_some_iff.mp e).1
  rcases r.obj n h[n] a (List.getElem?_eq_getElem hn) e with ⟨_, z⟩ | ⟨_, u, z, _⟩
  · obtain ⟨o, z⟩ := Option.isSome_iff_exists.mp z
    rw [r.F a o z]; rfl
  · rw [z]; rfl
theorem RH.notα (r : RH K T G h H) {p : Addr} (hp : H p = none) : p ∉ G.α := fun hm => by
  obtain ⟨n, hn, e⟩ := List.getElem_of_mem hm
  have := r.some_at (n := n) (a := p) (by rw [List.getElem?_eq_getElem hn, e])
  rw [hp] at this; cases this
theorem RH.notF (r : RH K T G h H) {p : Addr} (hp : H p = none) : G.F p = none := by
  cases q : G.F p with
  | none => rfl
  | some o => have := r.F p o q; rw [hp] at this; cases this
theorem RH.notE (r : RH K T G h H) {p : Addr} (hp : H p = none) : G.E p = none := by
  cases q : G.E p with
  | none => rfl
  | some o => have := (r.ext p o q).1; rw [hp] at this; cases this
theorem RH.notT (r : RH K T G h H) {p : Addr} (hp : H p = none) : ∀ q ∈ T, q.1 ≠ p := fun q hm z => by
  obtain ⟨⟨ps, e, _⟩, _⟩ := r.tab q hm
  rw [z, hp] at e; cases e
theorem RO.not_tbl {a : Addr} {o : LO} {u : HO} (r : RO K G a o u) : ∀ ps, u ≠ .tbl ps := fun ps e => by cases r <;> cases e
theorem RO.not_ext {a : Addr} {o : LO} {u : HO} (r : RO K G a o u) : ∀ φ, u ≠ .ext φ := fun φ e => by cases r <;> cases e
/-- the tables, with what never changes grown -/
theorem tab_mono {T : Tb} {G G' : Gh} {H H' : Hp} {p : Addr × Str} (hF : ∀ a o, G.F a = some o → G'.F a = some o) (hH : H' p.1 = H p.1) (r : ∃ ps : Array Value, H p.1 = some (.tbl ps) ∧ TriplesOk ps.toList ∧ ∀ (pos : Pos) (cv : Value), codeAmong pos ps.toList = some cv → ∃ c, cv = .ref c ∧ G.F c = some (LamX.CodeO c p.2)) :
    ∃ ps : Array Value, H' p.1 = some (.tbl ps) ∧ TriplesOk ps.toList ∧ ∀ (pos : Pos) (cv : Value), codeAmong pos ps.toList = some cv → ∃ c, cv = .ref c ∧ G'.F c = some (LamX.CodeO c p.2) := by
  obtain ⟨ps, e, t, q⟩ := r
  refine ⟨ps, hH.trans e, t, fun pos cv z => ?_⟩
  obtain ⟨c, e1, e2⟩ := q pos cv z
  exact ⟨c, e1, hF _ _ e2⟩
/-- something new that never changes -/
abbrev Gh.put (G : Gh) (p : Addr) (o : HO) : Gh := ⟨upd G.F p o, G.α, G.E⟩
theorem Gh.put_le {G : Gh} {p : Addr} {o : HO} (hp : G.F p = none) : G.le (G.put p o) :=
  ⟨⟨fun a u e => by show upd G.F p o a = some u; rw [upd_ne (ne_of_none e hp)]; exact e, fun _ _ e => e⟩, rfl⟩
theorem RH.new (r : RH K T G h H) {p : Addr} (hp : H p = none) (o : HO) (ho : ∀ ps, o ≠ .tbl ps := by intro ps e; cases e) : RH K T (G.put p o) h (upd H p o) := by
  have l := Gh.put_le (o := o) (r.notF hp)
  refine ⟨fun a u e => ?_, r.len, r.nd, fun n u a e1 e2 => ?_, fun P hP => ?_, fun a u e => ?_, fun a ps e => ?_⟩
  · have e : upd G.F p o a = some u := e
    by_cases ha : a = p
    · subst ha; rw [upd_same] at e ⊢; exact e
    · rw [upd_ne ha] at e ⊢; exact r.F a u e
  · have hne : a ≠ p := fun z => r.notα hp (z ▸ List.mem_of_getElem? e2)
    rcases r.obj n u a e1 e2 with ⟨z, q⟩ | ⟨z, w, q1, q2⟩
    · exact .inl ⟨z, by show (upd G.F p o a).isSome = true; rw [upd_ne hne]; exact q⟩
    · exact .inr ⟨by show upd G.F p o a = none; rw [upd_ne hne]; exact z, w, by rw [upd_ne hne]; exact q1, q2.mono l⟩
  · obtain ⟨q, z, w⟩ := r.tab P hP
    have hne := r.notT hp P hP
    exact ⟨tab_mono (T := T) l.F (by rw [upd_ne hne]) q, by show upd G.F p o P.1 = none; rw [upd_ne hne]; exact z, w⟩
  · obtain ⟨e1, e2, e3⟩ := r.ext a u e
    have hne := ne_of_none e1 hp
    exact ⟨by rw [upd_ne hne]; exact e1, by show upd G.F p o a = none; rw [upd_ne hne]; exact e2, e3⟩
  · have e : upd G.F p o a = some (.tbl ps) := e
    by_cases ha : a = p
    · subst ha; rw [upd_same] at e; exact ho ps (Option.some.inj e)
    · rw [upd_ne ha] at e; exact r.ntb a ps e
/-- a new object that may be changed -/
abbrev Gh.add (G : Gh) (p : Addr) : Gh := ⟨G.F, G.α ++ [p], G.E⟩
theorem Gh.add_le {G : Gh} {p : Addr} : G.le (G.add p) := ⟨⟨fun _ _ e => e, fun i a e => by
  show (G.α ++ [p])[i]? = some a
  rw [List.getElem?_append_left (List.getElem?_eq_some_iff.mp e).1]; exact e⟩, rfl⟩
theorem Gh.add_at {G : Gh} {p : Addr} : (G.add p).α[G.α.length]? = some p := by show (G.α ++ [p])[G.α.length]? = _; simp
theorem RH.add (r : RH K T G h H) {p : Addr} (hp : H p = none) {o : LO} {u : HO} (q : RO K (G.add p) p o u) : RH K T (G.add p) (h ++ [o]) (upd H p u) := by
  refine ⟨fun a w e => ?_, by simp [r.len], ?_, fun n w a e1 e2 => ?_, fun P hP => ?_, fun a w e => ?_, r.ntb⟩
  · rw [upd_ne (ne_of_none (r.F a w e) hp)]; exact r.F a w e
  · exact List.nodup_append.mpr ⟨r.nd, (by simp), fun a ha b hb z => by
      have hb := List.mem_singleton.mp hb
      exact r.notα hp (by rw [← hb, ← z]; exact ha)⟩
  · have e2 : (G.α ++ [p])[n]? = some a := e2
    by_cases hn : n < G.α.length
    · rw [List.getElem?_append_left hn] at e2
      rw [List.getElem?_append_left (by rw [← r.len]; exact hn)] at e1
      have hne : a ≠ p := fun z => r.notα hp (z ▸ List.mem_of_getElem? e2)
      rcases r.obj n w a e1 e2 with ⟨z, q⟩ | ⟨z, w', q1, q2⟩
      · exact .inl ⟨z, q⟩
      · exact .inr ⟨z, w', by rw [upd_ne hne]; exact q1, q2.mono Gh.add_le⟩
    · have hn' : n < (G.α ++ [p]).length := (List.getElem?_eq_some_iff.mp e2).1
      have en : n = G.α.length := by rw [List.length_append] at hn'; simp at hn'; omega
      subst en
      have ea : a = p := by simpa using e2.symm
      have eo : w = o := by rw [r.len] at e1; simpa using e1.symm
      subst ea eo
      exact .inr ⟨r.notF hp, u, upd_same, q⟩
  · obtain ⟨q, z, w⟩ := r.tab P hP
    have hne := r.notT hp P hP
    exact ⟨tab_mono (T := T) (fun _ _ e => e) (by rw [upd_ne hne]) q, z, (fun hm => by
      rcases List.mem_append.mp hm with hm | hm
      · exact w.1 hm
      · exact hne (List.mem_singleton.mp hm)), w.2⟩
  · obtain ⟨e1, e2, e3, e4⟩ := r.ext a w e
    have hne := ne_of_none e1 hp
    exact ⟨by rw [upd_ne hne]; exact e1, e2, (fun hm => by
      rcases List.mem_append.mp hm with hm | hm
      · exact e3 hm
      · exact hne (List.mem_singleton.mp hm)), e4⟩
/-- an object is there -/
theorem RH.at (r : RH K T G h H) {n : Nat} {a : Addr} {o : LO} (e1 : h[n]? = some o) (e2 : G.α[n]? = some a) (ho : o ≠ .gone) : ∃ u, H a = some u ∧ RO K G a o u := by
  rcases r.obj n o a e1 e2 with ⟨z, _⟩ | ⟨_, q⟩
  · exact absurd z ho
  · exact q
theorem RH.nF (r : RH K T G h H) {n : Nat} {a : Addr} {o : LO} (e1 : h[n]? = some o) (e2 : G.α[n]? = some a) (ho : o ≠ .gone) : G.F a = none := by
  rcases r.obj n o a e1 e2 with ⟨z, _⟩ | ⟨z, _⟩
  · exact absurd z ho
  · exact z
/-- an object is changed -/
theorem RH.set (r : RH K T G h H) {n : Nat} {a : Addr} {o o' : LO} {u' : HO} (e1 : h[n]? = some o) (e2 : G.α[n]? = some a) (ho : o ≠ .gone) (q' : RO K G a o' u') : RH K T G (h.set n o') (upd H a u') := by
  have hF := r.nF e1 e2 ho
  have hm := List.mem_of_getElem? e2
  refine ⟨fun b w e => ?_, by rw [List.length_set]; exact r.len, r.nd, fun m w b f1 f2 => ?_, fun P hP => ?_, fun b w e => ?_, r.ntb⟩
  · rw [upd_ne (ne_of_none e hF)]; exact r.F b w e
  · by_cases hm : m = n
    · subst hm
      rw [e2] at f2; cases f2
      have hn : m < h.length := (List.getElem?_eq_some_iff.mp e1).1
      rw [List.getElem?_set_self hn] at f1; cases f1
      exact .inr ⟨hF, u', upd_same, q'⟩
    · rw [List.getElem?_set_ne (Ne.symm hm)] at f1
      have hne : b ≠ a := fun z => hm (nodup_at r.nd f2 (by rw [z]; exact e2))
      rcases r.obj m w b f1 f2 with ⟨z, q⟩ | ⟨z, w', q1, q2⟩
      · exact .inl ⟨z, q⟩
      · exact .inr ⟨z, w', by rw [upd_ne hne]; exact q1, q2⟩
  · obtain ⟨q, z, w⟩ := r.tab P hP
    have hne : P.1 ≠ a := fun z => w.1 (by rw [z]; exact hm)
    exact ⟨tab_mono (T := T) (fun _ _ e => e) (by rw [upd_ne hne]) q, z, w⟩
  · obtain ⟨f1, f2, f3⟩ := r.ext b w e
    exact ⟨by rw [upd_ne (show b ≠ a from fun z => f3.1 (by rw [z]; exact hm))]; exact f1, f2, f3⟩
/-- an object that never changes any more -/
theorem RH.freeze (r : RH K T G h H) {n : Nat} {a : Addr} {o : LO} {u : HO} (e1 : h[n]? = some o) (e2 : G.α[n]? = some a) (ho : o ≠ .gone) (eu : H a = some u) : G.le (G.put a u) ∧ RH K T (G.put a u) (h.set n .gone) H := by
  have hF := r.nF e1 e2 ho
  have hm := List.mem_of_getElem? e2
  have l := Gh.put_le (o := u) hF
  obtain ⟨u', eu', ro⟩ := r.at e1 e2 ho
  rw [eu] at eu'
  cases eu'
  refine ⟨l, fun b w e => ?_, by rw [List.length_set]; exact r.len, r.nd, fun m w b f1 f2 => ?_, fun P hP => ?_, fun b w e => ?_, fun b ps e => ?_⟩
  · have e : upd G.F a u b = some w := e
    by_cases hb : b = a
    · subst hb; rw [upd_same] at e; cases e; exact eu
    · rw [upd_ne hb] at e; exact r.F b w e
  · by_cases hm : m = n
    · subst hm
      rw [e2] at f2; cases f2
      have hn : m < h.length := (List.getElem?_eq_some_iff.mp e1).1
      rw [List.getElem?_set_self hn] at f1; cases f1
      exact .inl ⟨rfl, by show (upd G.F a u a).isSome = true; rw [upd_same]; rfl⟩
    · rw [List.getElem?_set_ne (Ne.symm hm)] at f1
      have hne : b ≠ a := fun z => hm (nodup_at r.nd f2 (by rw [z]; exact e2))
      rcases r.obj m w b f1 f2 with ⟨z, q⟩ | ⟨z, w', q1, q2⟩
      · exact .inl ⟨z, by show (upd G.F a u b).isSome = true; rw [upd_ne hne]; exact q⟩
      · exact .inr ⟨by show upd G.F a u b = none; rw [upd_ne hne]; exact z, w', q1, q2.mono l⟩
  · obtain ⟨q, z, w⟩ := r.tab P hP
    have hne : P.1 ≠ a := fun z => w.1 (by rw [z]; exact hm)
    exact ⟨tab_mono (T := T) l.F rfl q, by show upd G.F a u P.1 = none; rw [upd_ne hne]; exact z, w⟩
  · obtain ⟨f1, f2, f3⟩ := r.ext b w e
    exact ⟨f1, by show upd G.F a u b = none; rw [upd_ne (show b ≠ a from fun z => f3.1 (by rw [z]; exact hm))]; exact f2, f3⟩
  · have e : upd G.F a u b = some (.tbl ps) := e
    by_cases hb : b = a
    · subst hb; rw [upd_same] at e; exact ro.not_tbl ps (Option.some.inj e)
    · rw [upd_ne hb] at e; exact r.ntb b ps e
/-- a lambda's, a generator expression's code has come: tables may have grown -/
noncomputable def Gh.code (G : Gh) (H1 : Hp) : Gh := ⟨fun a => match G.F a with
  | some o => some o
  | none => open Classical in if (∃ q, H1 a = some (LamX.CodeO a q)) ∧ a ∉ G.α ∧ G.E a = none then H1 a else none, G.α, G.E⟩
theorem Gh.code_le {G : Gh} {H1 : Hp} : G.le (G.code H1) := ⟨⟨fun a o e => by show (match G.F a with | some o => some o | none => _) = some o; rw [e], fun _ _ e => e⟩, rfl⟩
theorem Gh.code_at {G : Gh} {H1 : Hp} {a : Addr} {o : HO} (h : (G.code H1).F a = some o) : G.F a = some o ∨ (G.F a = none ∧ (∃ q, H1 a = some (LamX.CodeO a q)) ∧ a ∉ G.α ∧ G.E a = none ∧ H1 a = some o) := by
  have h : (match G.F a with
    | some o => some o
    | none => open Classical in if (∃ q, H1 a = some (LamX.CodeO a q)) ∧ a ∉ G.α ∧ G.E a = none then H1 a else none) = some o := h
  cases e : G.F a with
  | some u => rw [e] at h; exact .inl h
  | none =>
    rw [e] at h
    simp only at h
    split at h
    · rename_i z
      exact .inr ⟨rfl, z.1, z.2.1, z.2.2, h⟩
    · cases h
theorem codeO_ext {c : Addr} {q : Str} : ∃ φ, LamX.CodeO c q = .ext φ := ⟨_, rfl⟩
theorem RH.code (r : RH K T G h H) {H1 : Hp} (e : LamX.ExtN H H1) (t : LamX.Tabs T H1) : RH K T (G.code H1) h H1 := by
  have hF : ∀ a o, G.F a = some o → H1 a = some o := fun a o q => e a o (r.F a o q) fun ps z => r.ntb a ps (by rw [← z]; exact q)
  have hT : ∀ p ∈ T, ∃ ps, H1 p.1 = some (.tbl ps) := fun p hp => let ⟨ps, q, _⟩ := t p hp; ⟨ps, q⟩
  refine ⟨fun a o q => ?_, r.len, r.nd, fun n o a e1 e2 => ?_, fun p hp => ?_, fun a o q => ?_, fun a ps q => ?_⟩
  · rcases Gh.code_at q with q | ⟨_, _, _, _, q⟩
    · exact hF a o q
    · exact q
  · rcases r.obj n o a e1 e2 with ⟨z, q⟩ | ⟨z, u, q1, q2⟩
    · obtain ⟨w, q⟩ := Option.isSome_iff_exists.mp q
      exact .inl ⟨z, by rw [Gh.code_le.F a w q]; rfl⟩
    · refine .inr ⟨?_, u, e a u q1 fun ps y => q2.not_tbl ps y, q2.mono Gh.code_le⟩
      cases y : (G.code H1).F a with
      | none => rfl
      | some w =>
        rcases Gh.code_at y with y | ⟨_, _, y, _⟩
        · rw [z] at y; cases y
        · exact absurd (List.mem_of_getElem? e2) y
  · obtain ⟨_, z, w1, w2⟩ := r.tab p hp
    obtain ⟨ps, q1, q2, q3⟩ := t p hp
    refine ⟨⟨ps, q1, q2, fun pos cv y => ?_⟩, ?_, w1, w2⟩
    · obtain ⟨c, y1, y2⟩ := q3 pos cv y
      refine ⟨c, y1, ?_⟩
      show (match G.F c with
        | some o => some o
        | none => _) = some (LamX.CodeO c p.2)
      cases y3 : G.F c with
      | some o =>
        have := hF c o y3
        rw [y2] at this
        exact this.symm
      | none =>
        simp only
        have hα : c ∉ G.α := fun hm => by
          obtain ⟨n, hn, en⟩ := List.getElem_of_mem hm
          have e2 : G.α[n]? = some c := by rw [List.getElem?_eq_getElem hn, en]
          have hn' : n < h.length := by rw [← r.len]; exact hn
          rcases r.obj n h[n] c (List.getElem?_eq_getElem hn') e2 with ⟨_, q⟩ | ⟨_, u, q4, q5⟩
          · rw [y3] at q; cases q
          · have q6 := e c u q4 fun ps z => q5.not_tbl ps z
            rw [y2] at q6
            have q7 := Option.some.inj q6
            exact (q5.not_ext _ q7.symm).elim
        have hE : G.E c = none := by
          cases y4 : G.E c with
          | none => rfl
          | some o =>
            obtain ⟨f1, _, _, hk⟩ := r.ext c o y4
            have q6 := e c _ f1 fun ps z => hk.2 ps z
            rw [y2] at q6
            exact (hk.1 _ (Option.some.inj q6).symm).elim
        rw [if_pos ⟨⟨p.2, y2⟩, hα, hE⟩]
        exact y2
    · cases y : (G.code H1).F p.1 with
      | none => rfl
      | some w =>
        rcases Gh.code_at y with y | ⟨_, ⟨q, y⟩, _⟩
        · rw [z] at y; cases y
        · rw [q1] at y
          have y2 := Option.some.inj y
          unfold LamX.CodeO at y2
          cases y2
  · obtain ⟨f1, f2, f3, hk⟩ := r.ext a o q
    refine ⟨e a o f1 (fun ps z => hk.2 ps z), ?_, f3, hk⟩
    cases y : (G.code H1).F a with
    | none => rfl
    | some w =>
      rcases Gh.code_at y with y | ⟨_, _, _, y, _⟩
      · rw [f2] at y; cases y
      · have q : G.E a = some o := q
        rw [q] at y; cases y
  · rcases Gh.code_at q with q | ⟨_, ⟨w, y⟩, _, _, q⟩
    · exact r.ntb a ps q
    · rw [y] at q
      have y2 := Option.some.inj q
      unfold LamX.CodeO at y2
      cases y2
theorem RH.tabs (r : RH K T G h H) : LamX.Tabs T H := fun p hp => by
  obtain ⟨⟨ps, e, t, q⟩, _⟩ := r.tab p hp
  refine ⟨ps, e, t, fun pos cv y => ?_⟩
  obtain ⟨c, e1, e2⟩ := q pos cv y
  exact ⟨c, e1, r.F _ _ e2⟩
/-- something new that is held for the moment -/
abbrev Gh.hold (G : Gh) (p : Addr) (o : HO) : Gh := ⟨G.F, G.α, upd G.E p o⟩
theorem Gh.hold_lw {G : Gh} {p : Addr} {o : HO} : G.lw (G.hold p o) := ⟨fun _ _ e => e, fun _ _ e => e⟩
theorem RH.hold (r : RH K T G h H) {p : Addr} (hp : H p = none) (o : HO) (ho : HoldOk o := by first | exact holdL _ | exact holdD _) : RH K T (G.hold p o) h (upd H p o) := by
  refine ⟨fun a u e => by rw [upd_ne (ne_of_none (r.F a u e) hp)]; exact r.F a u e, r.len, r.nd, fun n u a e1 e2 => ?_, fun P hP => ?_, fun a u e => ?_, r.ntb⟩
  · have hne : a ≠ p := fun z => r.notα hp (z ▸ List.mem_of_getElem? e2)
    rcases r.obj n u a e1 e2 with ⟨z, q⟩ | ⟨z, w, q1, q2⟩
    · exact .inl ⟨z, q⟩
    · exact .inr ⟨z, w, by rw [upd_ne hne]; exact q1, q2.monow Gh.hold_lw⟩
  · obtain ⟨q, z, w⟩ := r.tab P hP
    have hne := r.notT hp P hP
    exact ⟨tab_mono (T := T) (fun _ _ e => e) (by rw [upd_ne hne]) q, z, w.1, by show upd G.E p _ P.1 = none; rw [upd_ne hne]; exact w.2⟩
  · have e : upd G.E p o a = some u := e
    by_cases ha : a = p
    · subst ha
      rw [upd_same] at e ⊢
      exact ⟨e, r.notF hp, r.notα hp, Option.some.inj e ▸ ho⟩
    · rw [upd_ne ha] at e ⊢
      exact r.ext a u e
/-- .. is changed -/
theorem RH.held (r : RH K T G h H) {p : Addr} {o : HO} (hp : G.E p = some o) (o' : HO) (ho : HoldOk o' := by first | exact holdL _ | exact holdD _) : RH K T (G.hold p o') h (upd H p o') := by
  obtain ⟨p1, p2, p3, _⟩ := r.ext p o hp
  refine ⟨fun a w e => by rw [upd_ne (ne_of_none e p2)]; exact r.F a w e, r.len, r.nd, fun n w a e1 e2 => ?_, fun P hP => ?_, fun a w e => ?_, r.ntb⟩
  · have hne : a ≠ p := fun z => p3 (z ▸ List.mem_of_getElem? e2)
    rcases r.obj n w a e1 e2 with ⟨z, q⟩ | ⟨z, w, q1, q2⟩
    · exact .inl ⟨z, q⟩
    · exact .inr ⟨z, w, by rw [upd_ne hne]; exact q1, q2.monow Gh.hold_lw⟩
  · obtain ⟨q, z, w⟩ := r.tab P hP
    have hne : P.1 ≠ p := fun z => by rw [z, hp] at w; cases w.2
    exact ⟨tab_mono (T := T) (fun _ _ e => e) (by rw [upd_ne hne]) q, z, w.1, by show upd G.E p _ P.1 = none; rw [upd_ne hne]; exact w.2⟩
  · have e : upd G.E p o' a = some w := e
    by_cases ha : a = p
    · subst ha
      rw [upd_same] at e ⊢
      exact ⟨e, p2, p3, Option.some.inj e ▸ ho⟩
    · rw [upd_ne ha] at e ⊢
      exact r.ext a w e
/-- .. never changes any more: the outer hold E0 again -/
abbrev Gh.back (G : Gh) (p : Addr) (o : HO) (E0 : Hp) : Gh := ⟨upd G.F p o, G.α, E0⟩
theorem RH.back (r : RH K T G h H) {p : Addr} {o : HO} {E0 : Hp} (hp : G.E p = some o) (h0 : E0 p = none) (hE : ∀ a u, E0 a = some u → G.E a = some u) : G.lw (G.back p o E0) ∧ RH K T (G.back p o E0) h H := by
  obtain ⟨p1, p2, p3, hk⟩ := r.ext p o hp
  have l : G.lw (G.back p o E0) := ⟨fun a u e => by show upd G.F p o a = some u; rw [upd_ne (ne_of_none e p2)]; exact e, fun _ _ e => e⟩
  refine ⟨l, fun a u e => ?_, r.len, r.nd, fun n u a e1 e2 => ?_, fun P hP => ?_, fun a u e => ?_, fun a ps e => ?_⟩
  · have e : upd G.F p o a = some u := e
    by_cases ha : a = p
    · subst ha; rw [upd_same] at e; cases e; exact p1
    · rw [upd_ne ha] at e; exact r.F a u e
  · have hne : a ≠ p := fun z => p3 (z ▸ List.mem_of_getElem? e2)
    rcases r.obj n u a e1 e2 with ⟨z, q⟩ | ⟨z, w, q1, q2⟩
    · exact .inl ⟨z, by show (upd G.F p o a).isSome = true; rw [upd_ne hne]; exact q⟩
    · exact .inr ⟨by show upd G.F p o a = none; rw [upd_ne hne]; exact z, w, q1, q2.monow l⟩
  · obtain ⟨q, z, w⟩ := r.tab P hP
    have hne : P.1 ≠ p := fun z => by rw [z, hp] at w; cases w.2
    refine ⟨tab_mono (T := T) l.F rfl q, by show upd G.F p o P.1 = none; rw [upd_ne hne]; exact z, w.1, ?_⟩
    show E0 P.1 = none
    cases e : E0 P.1 with
    | none => rfl
    | some u => have := hE P.1 u e; rw [w.2] at this; cases this
  · have e : E0 a = some u := e
    have hne : a ≠ p := fun z => by rw [z, h0] at e; cases e
    obtain ⟨f1, f2, f3⟩ := r.ext a u (hE a u e)
    exact ⟨f1, by show upd G.F p o a = none; rw [upd_ne hne]; exact f2, f3⟩
  · have e : upd G.F p o a = some (.tbl ps) := e
    by_cases ha : a = p
    · subst ha; rw [upd_same] at e; exact hk.2 ps (Option.some.inj e)
    · rw [upd_ne ha] at e; exact r.ntb a ps e
/-- what is held is let go -/
abbrev Gh.drop (G : Gh) (E0 : Hp) : Gh := ⟨G.F, G.α, E0⟩
theorem RH.drop (r : RH K T G h H) {E0 : Hp} (hE : ∀ a u, E0 a = some u → G.E a = some u) : RH K T (G.drop E0) h H := by
  have l : G.lw (G.drop E0) := ⟨fun _ _ e => e, fun _ _ e => e⟩
  refine ⟨r.F, r.len, r.nd, fun n u a e1 e2 => ?_, fun P hP => ?_, fun a u e => r.ext a u (hE a u e), r.ntb⟩
  · rcases r.obj n u a e1 e2 with ⟨z, q⟩ | ⟨z, w, q1, q2⟩
    · exact .inl ⟨z, q⟩
    · exact .inr ⟨z, w, q1, q2.monow l⟩
  · obtain ⟨q, z, w⟩ := r.tab P hP
    refine ⟨q, z, w.1, ?_⟩
    show E0 P.1 = none
    cases e : E0 P.1 with
    | none => rfl
    | some u => have := hE P.1 u e; rw [w.2] at this; cases this
end

abbrev En := List (Option D)
/-- the names -/
structure RE (K : PySem.W.Frag) (G : Gh) (ρ : En) (σ : L2.St) : Prop where
  len : ρ.length = σ.length
  get : ∀ (i : Nat) (d : D), ρ[i]? = some (some d) → ∃ v, σ[i]? = some (some v) ∧ RD K G d v
theorem RE.monow {K : PySem.W.Frag} {G G' : Gh} {ρ : En} {σ : L2.St} (r : RE K G ρ σ) (l : G.lw G') : RE K G' ρ σ := ⟨r.len, fun i d e => let ⟨v, h1, h2⟩ := r.get i d e; ⟨v, h1, h2.monow l⟩⟩
theorem RE.mono {K : PySem.W.Frag} {G G' : Gh} {ρ : En} {σ : L2.St} (r : RE K G ρ σ) (l : G.le G') : RE K G' ρ σ := r.monow l.w

abbrev Ev := En → LH → Res D
/-- what is wanted behind a result -/
def Post (K : PySem.W.Frag) (T : Tb) (W : WX) (σ : L2.St) (G : Gh) (r : Res D) (Q : VK) : Prop := match r with
  | .ok d h' => ∀ G' H' v, G.le G' → RH K T G' h' H' → RD K G' d v → Q v H'
  | .exc c h' => ∀ G' H', G.le G' → RH K T G' h' H' → W (.ref (He.ga K c)) none σ H'
  | .err => False
theorem Post.mono {K : PySem.W.Frag} {T : Tb} {W : WX} {σ : L2.St} {G G' : Gh} {r : Res D} {Q : VK} (h : Post K T W σ G r Q) (l : G.le G') : Post K T W σ G' r Q := by
  cases r with
  | ok d h' => exact fun G2 H v l2 => h G2 H v (l.trans l2)
  | exc c h' => exact fun G2 H l2 => h G2 H (l.trans l2)
  | err => exact h
def tE (K : PySem.W.Frag) (T : Tb) (W : WX) (m : Ev) : TE := fun σ H Q => ∃ G ρ h, RE K G ρ σ ∧ RH K T G h H ∧ Post K T W σ G (m ρ h) Q
/-- an expression and its mirror -/
structure DE (X : Cx) (T : Tb) (W : WX) (e : Expr) (m : Ev) : Prop where
  p : PE X e (tE X.K T W m)
theorem PE.imp {X : Cx} {e : Expr} {t t' : TE} (h : PE X e t) (i : ∀ σ H Q, t' σ H Q → t σ H Q) : PE X e t' := ⟨fun pins s σ H Q I q => h.run pins s σ H Q I (i _ _ _ q)⟩

section
variable {X : Cx} {T : Tb} {W : WX} {pos : Pos}
def eVar (i : Nat) : Ev := fun ρ h => match ρ[i]? with
  | some (some d) => .ok d h
  | _ => .err
theorem de_var {i : Nat} {x : Str} (hN : X.N[i]? = some x) (hv : Vis X.env.scope x) (hd : (x == ("__debug__" : Str)) = false := by decide) (hcd : (x == ("__classdict__" : Str)) = false := by decide) : DE X T W (.Name x pos) (eVar i) := by
  refine ⟨PE.imp (pe_var hN hv hd hcd) fun σ H Q ⟨G, ρ, h, re, rh, p⟩ => ?_⟩
  unfold eVar at p
  split at p
  · rename_i d e
    obtain ⟨v, h1, h2⟩ := re.get i d e
    exact ⟨v, h1, p G H v (.refl G) rh h2⟩
  · exact p.elim
def eC (d : D) : Ev := fun _ h => .ok d h
theorem de_int {i j} : DE X T W (.Constant (.int i) j pos) (eC (.int i)) := ⟨PE.imp pe_int fun σ H Q ⟨G, ρ, h, re, rh, p⟩ => p G H _ (.refl G) rh (.int i)⟩
theorem de_bl {i j} : DE X T W (.Constant (.bool i) j pos) (eC (.bl i)) := ⟨PE.imp pe_bl fun σ H Q ⟨G, ρ, h, re, rh, p⟩ => p G H _ (.refl G) rh (.bl i)⟩
theorem de_non {j} : DE X T W (.Constant .none j pos) (eC .non) := ⟨PE.imp pe_non fun σ H Q ⟨G, ρ, h, re, rh, p⟩ => p G H _ (.refl G) rh .non⟩
theorem de_str {x j} (l : List Nat) (e : x = S l := by rfl) : DE X T W (.Constant (.str x) j pos) (eC (.str l)) := ⟨PE.imp pe_str fun σ H Q ⟨G, ρ, h, re, rh, p⟩ => p G H _ (.refl G) rh (e ▸ .str l)⟩
end
end Sh

set_option Elab.async false
set_option linter.all false
set_option maxRecDepth 100000
set_option maxHeartbeats 4000000
/-! Sh1: operators, comparisons, tests. -/
namespace Sh
open PySem PySem.Spec PyProof.Rows L2

/-- an operation upon data: what its reading asks -/
def rOp (K : PySem.W.Frag) (T : Tb) (f : D → D → Option D) : R2 := fun x y H Q => ∃ G h dx dy d, RH K T G h H ∧ RD K G dx x ∧ RD K G dy y ∧ f dx dy = some d ∧ ∀ G' H' z, G.le G' → RH K T G' h H' → RD K G' d z → Q z H'
abbrev OpD (X : Cx) (T : Tb) (fv : Value → Value → Sem Value) (f : D → D → Option D) : Prop := OpR X fv (rOp X.K T f)
def liftO (h : LH) : Option D → Res D
  | some d => .ok d h
  | none => .err
def eBin (f : D → D → Option D) (a b : Ev) : Ev := fun ρ h => (a ρ h).bind fun x h1 => (b ρ h1).bind fun y h2 => liftO h2 (f x y)
section
variable {X : Cx} {T : Tb} {W : WX} {pos : Pos} {a b c : Expr} {ma mb mc : Ev} {f g : D → D → Option D}
theorem bin_red {σ : L2.St} {H : Hp} {Q : VK} (k : tE X.K T W (eBin f ma mb) σ H Q) : tOp (rOp X.K T f) (tE X.K T W ma) (tE X.K T W mb) σ H Q := by
  obtain ⟨G, ρ, h, re, rh, p⟩ := k
  refine ⟨G, ρ, h, re, rh, ?_⟩
  unfold eBin at p
  cases e1 : ma ρ h with
  | ok x h1 =>
    rw [e1] at p
    intro G1 H1 v1 l1 rh1 rd1
    refine ⟨G1, ρ, h1, re.mono l1, rh1, ?_⟩
    simp only [Res.bind] at p
    cases e2 : mb ρ h1 with
    | ok y h2 =>
      rw [e2] at p
      simp only [Res.bind] at p
      intro G2 H2 v2 l2 rh2 rd2
      cases e3 : f x y with
      | some d =>
        rw [e3] at p
        exact ⟨G2, h2, x, y, d, rh2, rd1.mono l2, rd2, e3, fun G3 H3 z l3 r3 q3 => p G3 H3 z ((l1.trans l2).trans l3) r3 q3⟩
      | none => rw [e3] at p; exact p.elim
    | exc c h2 => rw [e2] at p; exact fun G2 H2 l2 rh2 => p G2 H2 (l1.trans l2) rh2
    | err => rw [e2] at p; exact p.elim
  | exc c h1 => rw [e1] at p; exact p
  | err => rw [e1] at p; exact p.elim
theorem de_bin {op : Operator} (ho : OpD X T (binaryOp op) f) (ha : DE X T W a ma) (hb : DE X T W b mb) : DE X T W (.BinOp a op b pos) (eBin f ma mb) := ⟨PE.imp (pe_op ho ha.p hb.p) fun σ H Q k => bin_red k⟩
theorem de_cmp {op : CmpOp} (ho : OpD X T (compareOp op) f) (ha : DE X T W a ma) (hb : DE X T W b mb) (hm : behindInMarks op b = false := by first | exact nomark _ | rfl) : DE X T W (.Compare a [op] [b] pos) (eBin f ma mb) := ⟨PE.imp (pe_cmpR ho ha.p hb.p hm) fun σ H Q k => bin_red k⟩
/-! ### tests -/
abbrev Bv := En → LH → Res Bool
def PostB (K : PySem.W.Frag) (T : Tb) (W : WX) (σ : L2.St) (G : Gh) (r : Res Bool) (Q : Bool → Hp → Prop) : Prop := match r with
  | .ok d h' => ∀ G' H', G.le G' → RH K T G' h' H' → Q d H'
  | .exc c h' => ∀ G' H', G.le G' → RH K T G' h' H' → W (.ref (He.ga K c)) none σ H'
  | .err => False
theorem PostB.mono {K : PySem.W.Frag} {T : Tb} {W : WX} {σ : L2.St} {G G' : Gh} {r : Res Bool} {Q : Bool → Hp → Prop} (h : PostB K T W σ G r Q) (l : G.le G') : PostB K T W σ G' r Q := by
  cases r with
  | ok d h' => exact fun G2 H l2 => h G2 H (l.trans l2)
  | exc c h' => exact fun G2 H l2 => h G2 H (l.trans l2)
  | err => exact h
def tT (K : PySem.W.Frag) (T : Tb) (W : WX) (m : Bv) : TT := fun σ H Q => ∃ G ρ h, RE K G ρ σ ∧ RH K T G h H ∧ PostB K T W σ G (m ρ h) Q
structure DT (X : Cx) (T : Tb) (W : WX) (e : Expr) (m : Bv) : Prop where
  p : PT X e (tT X.K T W m)
structure DW (X : Cx) (T : Tb) (W : WX) (e : Expr) (m : Bv) : Prop where
  p : PW X e (tT X.K T W m)
theorem PT.imp {e : Expr} {t t' : TT} (h : PT X e t) (i : ∀ σ H Q, t' σ H Q → t σ H Q) : PT X e t' := ⟨fun pins s σ H Q I q => h.run pins s σ H Q I (i _ _ _ q)⟩
theorem PW.imp {e : Expr} {t t' : TT} (h : PW X e t) (i : ∀ σ H Q, t' σ H Q → t σ H Q) : PW X e t' := ⟨fun wh pins s σ H Q I q => h.run wh pins s σ H Q I (i _ _ _ q)⟩
/-- a bool -/
def bTest (m : Ev) : Bv := fun ρ h => (m ρ h).bind fun d h1 => match d with
  | .bl k => .ok k h1
  | _ => .err
theorem test_red {σ : L2.St} {H : Hp} {Q : Bool → Hp → Prop} (k : tT X.K T W (bTest ma) σ H Q) : tE X.K T W ma σ H fun x H' => ∃ c, x = .bl c ∧ Q c H' := by
  obtain ⟨G, ρ, h, re, rh, p⟩ := k
  refine ⟨G, ρ, h, re, rh, ?_⟩
  unfold bTest at p
  cases e1 : ma ρ h with
  | ok x h1 =>
    rw [e1] at p
    intro G1 H1 v1 l1 rh1 rd1
    cases rd1 with
    | bl k => exact ⟨k, rfl, p G1 H1 l1 rh1⟩
    | _ => exact p.elim
  | exc c h1 => rw [e1] at p; exact p
  | err => rw [e1] at p; exact p.elim
theorem dt_val (ha : DE X T W a ma) (he : ∀ whole, isTrue a X.env whole = (do let v ← whole; standAt a.pos; holding [v] (truthy v)) := by intro _; rfl) : DT X T W a (bTest ma) :=
  ⟨PT.imp (pt_val ha.p he) fun σ H Q k => test_red k⟩
theorem dt_cmp {op : CmpOp} (ho : OpD X T (compareOp op) f) (ha : DE X T W a ma) (hb : DE X T W b mb) (hm : behindInMarks op b = false := by first | exact nomark _ | rfl) : DT X T W (.Compare a [op] [b] pos) (bTest (eBin f ma mb)) :=
  ⟨PT.imp (pt_cmpR ho ha.p hb.p hm) fun σ H Q k => by
    obtain ⟨G, ρ, h, re, rh, p⟩ := test_red k
    exact bin_red ⟨G, ρ, h, re, rh, p⟩⟩
def bNot (m : Bv) : Bv := fun ρ h => (m ρ h).bind fun k h1 => .ok (!k) h1
def bAnd (m n : Bv) : Bv := fun ρ h => (m ρ h).bind fun k h1 => if k = true then n ρ h1 else .ok false h1
def bOr (m n : Bv) : Bv := fun ρ h => (m ρ h).bind fun k h1 => if k = true then .ok true h1 else n ρ h1
variable {ta tb : Bv} {rest : List Expr}
theorem dt_not (ha : DT X T W a ta) : DT X T W (.UnaryOp .Not a pos) (bNot ta) := ⟨PT.imp (pt_not ha.p) fun σ H Q ⟨G, ρ, h, re, rh, p⟩ => by
  refine ⟨G, ρ, h, re, rh, ?_⟩
  unfold bNot at p
  cases e1 : ta ρ h with
  | ok x h1 => rw [e1] at p; exact p
  | exc c h1 => rw [e1] at p; exact p
  | err => rw [e1] at p; exact p⟩
theorem dw_one_and (ha : DT X T W a ta) : DW X T W (.BoolOp .And [a] pos) ta := ⟨pw_and1 ha.p⟩
theorem dw_one_or (ha : DT X T W a ta) : DW X T W (.BoolOp .Or [a] pos) ta := ⟨pw_or1 ha.p⟩
theorem dw_and (ha : DT X T W a ta) (hb : DW X T W (.BoolOp .And (b :: rest) pos) tb) : DW X T W (.BoolOp .And (a :: b :: rest) pos) (bAnd ta tb) := ⟨PW.imp (pw_and ha.p hb.p) fun σ H Q ⟨G, ρ, h, re, rh, p⟩ => by
  refine ⟨G, ρ, h, re, rh, ?_⟩
  unfold bAnd at p
  cases e1 : ta ρ h with
  | ok x h1 =>
    rw [e1] at p
    intro G1 H1 l1 rh1
    cases x with
    | true => rw [if_pos rfl]; exact ⟨G1, ρ, h1, re.mono l1, rh1, PostB.mono p l1⟩
    | false => rw [if_neg Bool.false_ne_true]; exact p G1 H1 l1 rh1
  | exc c h1 => rw [e1] at p; exact p
  | err => rw [e1] at p; exact p⟩
theorem dw_or (ha : DT X T W a ta) (hb : DW X T W (.BoolOp .Or (b :: rest) pos) tb) : DW X T W (.BoolOp .Or (a :: b :: rest) pos) (bOr ta tb) := ⟨PW.imp (pw_or ha.p hb.p) fun σ H Q ⟨G, ρ, h, re, rh, p⟩ => by
  refine ⟨G, ρ, h, re, rh, ?_⟩
  unfold bOr at p
  cases e1 : ta ρ h with
  | ok x h1 =>
    rw [e1] at p
    intro G1 H1 l1 rh1
    cases x with
    | true => rw [if_pos rfl]; exact p G1 H1 l1 rh1
    | false => rw [if_neg Bool.false_ne_true]; exact ⟨G1, ρ, h1, re.mono l1, rh1, PostB.mono p l1⟩
  | exc c h1 => rw [e1] at p; exact p
  | err => rw [e1] at p; exact p⟩
theorem DW.dt {e : Expr} (h : DW X T W e ta) : DT X T W e ta := ⟨h.p.pt⟩
/-- and, or as values: bools -/
def eAnd (m n : Ev) : Ev := fun ρ h => (m ρ h).bind fun k h1 => match k with
  | .bl true => n ρ h1
  | .bl false => .ok (.bl false) h1
  | _ => .err
def eOr (m n : Ev) : Ev := fun ρ h => (m ρ h).bind fun k h1 => match k with
  | .bl true => .ok (.bl true) h1
  | .bl false => n ρ h1
  | _ => .err
theorem de_one {op} (ha : DE X T W a ma) : DE X T W (.BoolOp op [a] pos) ma := ⟨pe_one ha.p⟩
theorem de_and (ha : DE X T W a ma) (hb : DE X T W (.BoolOp .And (b :: rest) pos) mb) : DE X T W (.BoolOp .And (a :: b :: rest) pos) (eAnd ma mb) := ⟨PE.imp (pe_and ha.p hb.p) fun σ H Q ⟨G, ρ, h, re, rh, p⟩ => by
  refine ⟨G, ρ, h, re, rh, ?_⟩
  unfold eAnd at p
  cases e1 : ma ρ h with
  | ok x h1 =>
    rw [e1] at p
    intro G1 H1 v l1 rh1 rd1
    cases rd1 with
    | bl k =>
      refine ⟨k, rfl, ?_⟩
      cases k with
      | true => rw [if_pos rfl]; exact ⟨G1, ρ, h1, re.mono l1, rh1, Post.mono p l1⟩
      | false => rw [if_neg Bool.false_ne_true]; exact p G1 H1 _ l1 rh1 (.bl _)
    | _ => exact p.elim
  | exc c h1 => rw [e1] at p; exact p
  | err => rw [e1] at p; exact p⟩
theorem de_or (ha : DE X T W a ma) (hb : DE X T W (.BoolOp .Or (b :: rest) pos) mb) : DE X T W (.BoolOp .Or (a :: b :: rest) pos) (eOr ma mb) := ⟨PE.imp (pe_or ha.p hb.p) fun σ H Q ⟨G, ρ, h, re, rh, p⟩ => by
  refine ⟨G, ρ, h, re, rh, ?_⟩
  unfold eOr at p
  cases e1 : ma ρ h with
  | ok x h1 =>
    rw [e1] at p
    intro G1 H1 v l1 rh1 rd1
    cases rd1 with
    | bl k =>
      refine ⟨k, rfl, ?_⟩
      cases k with
      | true => rw [if_pos rfl]; exact p G1 H1 _ l1 rh1 (.bl _)
      | false => rw [if_neg Bool.false_ne_true]; exact ⟨G1, ρ, h1, re.mono l1, rh1, Post.mono p l1⟩
    | _ => exact p.elim
  | exc c h1 => rw [e1] at p; exact p
  | err => rw [e1] at p; exact p⟩
def eNot (m : Ev) : Ev := fun ρ h => (m ρ h).bind fun k h1 => match k with
  | .bl k => .ok (.bl (!k)) h1
  | _ => .err
theorem de_not (ha : DE X T W a ma) : DE X T W (.UnaryOp .Not a pos) (eNot ma) := ⟨PE.imp (pe_not ha.p) fun σ H Q ⟨G, ρ, h, re, rh, p⟩ => by
  refine ⟨G, ρ, h, re, rh, ?_⟩
  unfold eNot at p
  cases e1 : ma ρ h with
  | ok x h1 =>
    rw [e1] at p
    intro G1 H1 v l1 rh1 rd1
    cases rd1 with
    | bl k => exact ⟨k, rfl, p G1 H1 _ l1 rh1 (.bl _)⟩
    | _ => exact p.elim
  | exc c h1 => rw [e1] at p; exact p
  | err => rw [e1] at p; exact p⟩
def eIf (t : Bv) (a b : Ev) : Ev := fun ρ h => (t ρ h).bind fun k h1 => if k = true then a ρ h1 else b ρ h1
theorem de_if (hc : DT X T W c ta) (ha : DE X T W a ma) (hb : DE X T W b mb) : DE X T W (.IfExp c a b pos) (eIf ta ma mb) := ⟨PE.imp (pe_ifExp hc.p ha.p hb.p) fun σ H Q ⟨G, ρ, h, re, rh, p⟩ => by
  refine ⟨G, ρ, h, re, rh, ?_⟩
  unfold eIf at p
  cases e1 : ta ρ h with
  | ok x h1 =>
    rw [e1] at p
    intro G1 H1 l1 rh1
    cases x with
    | true => rw [if_pos rfl]; exact ⟨G1, ρ, h1, re.mono l1, rh1, Post.mono p l1⟩
    | false => rw [if_neg Bool.false_ne_true]; exact ⟨G1, ρ, h1, re.mono l1, rh1, Post.mono p l1⟩
  | exc c h1 => rw [e1] at p; exact p
  | err => rw [e1] at p; exact p⟩
/-! ### chains -/
def eChain (f g : D → D → Option D) (a b c : Ev) : Ev := fun ρ h => (a ρ h).bind fun x h1 => (b ρ h1).bind fun y h2 => match f x y with
  | some (.bl true) => (c ρ h2).bind fun z h3 => liftO h3 (g y z)
  | some (.bl false) => .ok (.bl false) h2
  | _ => .err
theorem chain_red {σ : L2.St} {H : Hp} {Q : VK} (k : tE X.K T W (eChain f g ma mb mc) σ H Q) : tChain (rOp X.K T f) (rOp X.K T g) (tE X.K T W ma) (tE X.K T W mb) (tE X.K T W mc) σ H Q := by
  obtain ⟨G, ρ, h, re, rh, p⟩ := k
  refine ⟨G, ρ, h, re, rh, ?_⟩
  unfold eChain at p
  cases e1 : ma ρ h with
  | ok x h1 =>
    rw [e1] at p
    intro G1 H1 v1 l1 rh1 rd1
    refine ⟨G1, ρ, h1, re.mono l1, rh1, ?_⟩
    simp only [Res.bind] at p
    cases e2 : mb ρ h1 with
    | ok y h2 =>
      rw [e2] at p
      simp only [Res.bind] at p
      intro G2 H2 v2 l2 rh2 rd2
      cases e3 : f x y with
      | some d =>
        rw [e3] at p
        refine ⟨G2, h2, x, y, d, rh2, rd1.mono l2, rd2, e3, fun G3 H3 z l3 r3 q3 => ?_⟩
        cases q3 with
        | bl k =>
          refine ⟨k, rfl, ?_⟩
          cases k with
          | true =>
            rw [if_pos rfl]
            refine ⟨G3, ρ, h2, re.mono ((l1.trans l2).trans l3), r3, ?_⟩
            have p : Post X.K T W σ G ((mc ρ h2).bind fun z h3 => liftO h3 (g y z)) Q := p
            cases e4 : mc ρ h2 with
            | ok w h3 =>
              rw [e4] at p
              simp only [Res.bind] at p
              intro G4 H4 v4 l4 rh4 rd4
              cases e5 : g y w with
              | some d' =>
                rw [e5] at p
                exact ⟨G4, h3, y, w, d', rh4, (rd2.mono l3).mono l4, rd4, e5, fun G5 H5 z l5 r5 q5 => p G5 H5 z (((l1.trans l2).trans l3).trans (l4.trans l5)) r5 q5⟩
              | none => rw [e5] at p; exact p.elim
            | exc c h3 => rw [e4] at p; exact fun G4 H4 l4 rh4 => p G4 H4 (((l1.trans l2).trans l3).trans l4) rh4
            | err => rw [e4] at p; exact p.elim
          | false => rw [if_neg Bool.false_ne_true]; exact p G3 H3 _ ((l1.trans l2).trans l3) r3 (.bl _)
        | _ => exact p.elim
      | none => rw [e3] at p; exact p.elim
    | exc c h2 => rw [e2] at p; exact fun G2 H2 l2 rh2 => p G2 H2 (l1.trans l2) rh2
    | err => rw [e2] at p; exact p.elim
  | exc c h1 => rw [e1] at p; exact p
  | err => rw [e1] at p; exact p.elim
theorem de_chain {op op' : CmpOp} (ho : OpD X T (compareOp op) f) (ho' : OpD X T (compareOp op') g) (ha : DE X T W a ma) (hb : DE X T W b mb) (hc : DE X T W c mc) (hm : lastMarks [op, op'] [b, c] = false := by rfl) : DE X T W (.Compare a [op, op'] [b, c] pos) (eChain f g ma mb mc) :=
  ⟨PE.imp (pe_chain ho ho' ha.p hb.p hc.p hm) fun σ H Q k => chain_red k⟩
theorem dt_chain {op op' : CmpOp} (ho : OpD X T (compareOp op) f) (ho' : OpD X T (compareOp op') g) (ha : DE X T W a ma) (hb : DE X T W b mb) (hc : DE X T W c mc) (hm : lastMarks [op, op'] [b, c] = false := by rfl) : DT X T W (.Compare a [op, op'] [b, c] pos) (bTest (eChain f g ma mb mc)) :=
  ⟨PT.imp (pt_chain ho ho' ha.p hb.p hc.p hm) fun σ H Q k => by
    obtain ⟨G, ρ, h, re, rh, p⟩ := test_red k
    exact chain_red ⟨G, ρ, h, re, rh, p⟩⟩
/-! ### arguments -/
abbrev Av := En → LH → Res (List D)
def PostA (K : PySem.W.Frag) (T : Tb) (W : WX) (σ : L2.St) (G : Gh) (r : Res (List D)) (Q : List V → Hp → Prop) : Prop := match r with
  | .ok d h' => ∀ G' H' v, G.le G' → RH K T G' h' H' → RDs K G' d v → Q v H'
  | .exc c h' => ∀ G' H', G.le G' → RH K T G' h' H' → W (.ref (He.ga K c)) none σ H'
  | .err => False
theorem PostA.mono {K : PySem.W.Frag} {T : Tb} {W : WX} {σ : L2.St} {G G' : Gh} {r : Res (List D)} {Q : List V → Hp → Prop} (h : PostA K T W σ G r Q) (l : G.le G') : PostA K T W σ G' r Q := by
  cases r with
  | ok d h' => exact fun G2 H v l2 => h G2 H v (l.trans l2)
  | exc c h' => exact fun G2 H l2 => h G2 H (l.trans l2)
  | err => exact h
def tA (K : PySem.W.Frag) (T : Tb) (W : WX) (m : Av) : TA := fun σ H Q => ∃ G ρ h, RE K G ρ σ ∧ RH K T G h H ∧ PostA K T W σ G (m ρ h) Q
structure DA (X : Cx) (T : Tb) (W : WX) (es : List Expr) (m : Av) : Prop where
  p : PA X es (tA X.K T W m)
theorem PA.imp {es : List Expr} {t t' : TA} (h : PA X es t) (i : ∀ σ H Q, t' σ H Q → t σ H Q) : PA X es t' := ⟨fun pos pins s σ H Q I q => h.run pos pins s σ H Q I (i _ _ _ q)⟩
def aNil : Av := fun _ h => .ok [] h
def aCons (a : Ev) (b : Av) : Av := fun ρ h => (a ρ h).bind fun x h1 => (b ρ h1).bind fun xs h2 => .ok (x :: xs) h2
variable {es : List Expr} {mas : Av}
theorem da_nil : DA X T W [] aNil := ⟨PA.imp pa_nil fun σ H Q ⟨G, ρ, h, re, rh, p⟩ => p G H _ (.refl G) rh .nil⟩
theorem da_cons (ha : DE X T W a ma) (hr : DA X T W es mas) (hs : starEach (a :: es) X.env = (false, eval a X.env) :: starEach es X.env := by rfl) : DA X T W (a :: es) (aCons ma mas) := ⟨PA.imp (pa_cons ha.p hr.p hs) fun σ H Q ⟨G, ρ, h, re, rh, p⟩ => by
  refine ⟨G, ρ, h, re, rh, ?_⟩
  unfold aCons at p
  cases e1 : ma ρ h with
  | ok x h1 =>
    rw [e1] at p
    intro G1 H1 v1 l1 rh1 rd1
    refine ⟨G1, ρ, h1, re.mono l1, rh1, ?_⟩
    simp only [Res.bind] at p
    cases e2 : mas ρ h1 with
    | ok y h2 =>
      rw [e2] at p
      exact fun G2 H2 v2 l2 rh2 rd2 => p G2 H2 _ (l1.trans l2) rh2 (.cons (rd1.mono l2) rd2)
    | exc c h2 => rw [e2] at p; exact fun G2 H2 l2 rh2 => p G2 H2 (l1.trans l2) rh2
    | err => rw [e2] at p; exact p.elim
  | exc c h1 => rw [e1] at p; exact p
  | err => rw [e1] at p; exact p.elim⟩
/-- what a function of the arguments' values asks -/
def rFn (K : PySem.W.Frag) (T : Tb) (σ : L2.St) (W : WX) (f : List D → LH → Res D) : List V → Hp → VK → Prop := fun vs H Q => ∃ G h ds, RH K T G h H ∧ RDs K G ds vs ∧ Post K T W σ G (f ds h) Q
def eCall (f : List D → LH → Res D) (m : Av) : Ev := fun ρ h => (m ρ h).bind fun ds h1 => f ds h1
theorem call_red {fn : List D → LH → Res D} {σ : L2.St} {H : Hp} {Q : VK} (k : tE X.K T W (eCall fn mas) σ H Q) : tA X.K T W mas σ H (fun vs H1 => rFn X.K T σ W fn vs H1 Q) := by
  obtain ⟨G, ρ, h, re, rh, p⟩ := k
  refine ⟨G, ρ, h, re, rh, ?_⟩
  unfold eCall at p
  cases e1 : mas ρ h with
  | ok x h1 => rw [e1] at p; exact fun G1 H1 v1 l1 rh1 rd1 => ⟨G1, h1, x, rh1, rd1, Post.mono p l1⟩
  | exc c h1 => rw [e1] at p; exact p
  | err => rw [e1] at p; exact p
/-- a builtin's call: no exception -/
def rBl (K : PySem.W.Frag) (T : Tb) (f : List D → LH → Option (D × LH)) : List V → Hp → VK → Prop := fun vs H Q => ∃ G h ds d h', RH K T G h H ∧ RDs K G ds vs ∧ f ds h = some (d, h') ∧ ∀ G' H' z, G.le G' → RH K T G' h' H' → RD K G' d z → Q z H'
abbrev CallD (X : Cx) (T : Tb) (fv : Value) (f : List D → LH → Option (D × LH)) : Prop := CallR X fv (rBl X.K T f)
def bRes (f : List D → LH → Option (D × LH)) (ds : List D) (h : LH) : Res D := match f ds h with
  | some (d, h') => .ok d h'
  | none => .err
theorem rBl_of {fn : List D → LH → Option (D × LH)} {σ : L2.St} {vs : List V} {H : Hp} {Q : VK} (k : rFn X.K T σ W (bRes fn) vs H Q) : rBl X.K T fn vs H Q := by
  obtain ⟨G, h, ds, rh, rd, p⟩ := k
  unfold bRes at p
  cases e : fn ds h with
  | some r => obtain ⟨d, h'⟩ := r; rw [e] at p; exact ⟨G, h, ds, d, h', rh, rd, e, p⟩
  | none => rw [e] at p; exact p.elim
variable {x : Str} {id Ty : String} {p : Pos} {fb : List D → LH → Option (D × LH)}
theorem de_callB (hc : CallD X T (.builtin id) fb) (hg : Gl X x) (hm : X.mg x = none) (hv : bootBuiltins x = some (.builtin id)) (ha : DA X T W (a :: es) mas) (hn : x ≠ "__name__" := by decide) (hdb : (x == ("__debug__" : Str)) = false := by decide)
    (he : starEach (a :: es) X.env = (false, eval a X.env) :: starEach es X.env := by rfl) (hpl : (backTo pos (starEach es X.env)).any (·.1) = false := by rfl) : DE X T W (.Call (.Name x p) (a :: es) [] pos) (eCall (bRes fb) mas) :=
  ⟨PE.imp (pe_callB hc hg hm hv ha.p hn hdb he hpl) fun σ H Q k => by
    obtain ⟨G, ρ, h, re, rh, q⟩ := call_red k
    refine ⟨G, ρ, h, re, rh, ?_⟩
    cases e : mas ρ h with
    | ok x h1 => rw [e] at q; exact fun G1 H1 v1 l1 r1 d1 => rBl_of (q G1 H1 v1 l1 r1 d1)
    | exc c h1 => rw [e] at q; exact q
    | err => rw [e] at q; exact q⟩
theorem de_callT (hc : CallD X T (.type Ty) fb) (hg : Gl X x) (hm : X.mg x = none) (hv : bootBuiltins x = some (.type Ty)) (ha : DA X T W (a :: es) mas) (hn : x ≠ "__name__" := by decide) (hdb : (x == ("__debug__" : Str)) = false := by decide)
    (he : starEach (a :: es) X.env = (false, eval a X.env) :: starEach es X.env := by rfl) (hpl : (backTo pos (starEach es X.env)).any (·.1) = false := by rfl) : DE X T W (.Call (.Name x p) (a :: es) [] pos) (eCall (bRes fb) mas) :=
  ⟨PE.imp (pe_callTy hc hg hm hv ha.p hn hdb he hpl) fun σ H Q k => by
    obtain ⟨G, ρ, h, re, rh, q⟩ := call_red k
    refine ⟨G, ρ, h, re, rh, ?_⟩
    cases e : mas ρ h with
    | ok x h1 => rw [e] at q; exact fun G1 H1 v1 l1 r1 d1 => rBl_of (q G1 H1 v1 l1 r1 d1)
    | exc c h1 => rw [e] at q; exact q
    | err => rw [e] at q; exact q⟩
end
end Sh

set_option Elab.async false
set_option linter.all false
set_option maxRecDepth 100000
set_option maxHeartbeats 4000000
/-! Sh2: statements, loops, calls of defs. -/
namespace Sh
open PySem PySem.Spec PyProof.Rows L2

inductive SR where
  | nx (ρ : En) (h : LH) | rt (d : D) (h : LH) | bk (ρ : En) (h : LH) | ct (ρ : En) (h : LH) | ex (c : Str) (ρ : En) (h : LH) | er
abbrev Sv := En → LH → SR
def PostS (K : PySem.W.Frag) (T : Tb) (W : WX) (G : Gh) (r : SR) (E : Ends) : Prop := match r with
  | .nx ρ' h' => ∀ G' H' σ', G.le G' → RE K G' ρ' σ' → RH K T G' h' H' → E.nx σ' H'
  | .rt d h' => ∀ G' H' v, G.le G' → RH K T G' h' H' → RD K G' d v → E.rt v H'
  | .bk ρ' h' => ∀ G' H' σ', G.le G' → RE K G' ρ' σ' → RH K T G' h' H' → E.bk σ' H'
  | .ct ρ' h' => ∀ G' H' σ', G.le G' → RE K G' ρ' σ' → RH K T G' h' H' → E.ct σ' H'
  | .ex c ρ' h' => ∀ G' H' σ', G.le G' → RE K G' ρ' σ' → RH K T G' h' H' → W (.ref (He.ga K c)) none σ' H'
  | .er => False
theorem PostS.mono {K : PySem.W.Frag} {T : Tb} {W : WX} {G G' : Gh} {r : SR} {E : Ends} (h : PostS K T W G r E) (l : G.le G') : PostS K T W G' r E := by
  cases r with
  | nx ρ h' => exact fun G2 H σ l2 => h G2 H σ (l.trans l2)
  | rt d h' => exact fun G2 H σ l2 => h G2 H σ (l.trans l2)
  | bk ρ h' => exact fun G2 H σ l2 => h G2 H σ (l.trans l2)
  | ct ρ h' => exact fun G2 H σ l2 => h G2 H σ (l.trans l2)
  | ex c ρ h' => exact fun G2 H σ l2 => h G2 H σ (l.trans l2)
  | er => exact h
def tS (K : PySem.W.Frag) (T : Tb) (W : WX) (m : Sv) : TS := fun E σ H => ∃ G ρ h, RE K G ρ σ ∧ RH K T G h H ∧ PostS K T W G (m ρ h) E
structure DS (X : Cx) (T : Tb) (W : WX) (st : Stmt) (m : Sv) : Prop where
  p : PS X st (tS X.K T W m)
structure DB (X : Cx) (T : Tb) (W : WX) (st : List Stmt) (m : Sv) : Prop where
  p : PSs X st (tS X.K T W m)
theorem PS.imp {X : Cx} {st : Stmt} {t t' : TS} (h : PS X st t) (i : ∀ E σ H, t' E σ H → t E σ H) : PS X st t' := ⟨fun pins s σ H E I q => h.run pins s σ H E I (i _ _ _ q)⟩
theorem PSs.imp {X : Cx} {st : List Stmt} {t t' : TS} (h : PSs X st t) (i : ∀ E σ H, t' E σ H → t E σ H) : PSs X st t' := ⟨fun pins s σ H E I q => h.run pins s σ H E I (i _ _ _ q)⟩
@[simp] def SR.then (r : SR) (f : Sv) : SR := match r with
  | .nx ρ h => f ρ h
  | .rt d h => .rt d h
  | .bk ρ h => .bk ρ h
  | .ct ρ h => .ct ρ h
  | .ex c ρ h => .ex c ρ h
  | .er => .er
/-- an expression within a statement -/
@[simp] def Res.st {α : Type} (r : Res α) (ρ : En) (f : α → LH → SR) : SR := match r with
  | .ok a h => f a h
  | .exc c h => .ex c ρ h
  | .err => .er
section
variable {X : Cx} {T : Tb} {W : WX} {pos : Pos} {st : Stmt} {rest : List Stmt} {e : Expr} {m n : Sv} {me : Ev} {mt : Bv}
/-- how an expression's reading is met within a statement -/
theorem e_red {σ : L2.St} {H : Hp} {E : Ends} {G : Gh} {ρ : En} {h : LH} {f : D → LH → SR} {Q : VK} (re : RE X.K G ρ σ) (rh : RH X.K T G h H) (p : PostS X.K T W G ((me ρ h).st ρ f) E)
    (k : ∀ d h1 G1 H1 v, G.le G1 → RH X.K T G1 h1 H1 → RD X.K G1 d v → PostS X.K T W G1 (f d h1) E → Q v H1) : tE X.K T W me σ H Q := by
  refine ⟨G, ρ, h, re, rh, ?_⟩
  cases e1 : me ρ h with
  | ok d h1 => rw [e1] at p; exact fun G1 H1 v l1 r1 d1 => k d h1 G1 H1 v l1 r1 d1 (PostS.mono p l1)
  | exc c h1 => rw [e1] at p; exact fun G1 H1 l1 r1 => p G1 H1 σ l1 (re.mono l1) r1
  | err => rw [e1] at p; exact p
theorem t_red {σ : L2.St} {H : Hp} {E : Ends} {G : Gh} {ρ : En} {h : LH} {f : Bool → LH → SR} {Q : Bool → Hp → Prop} (re : RE X.K G ρ σ) (rh : RH X.K T G h H) (p : PostS X.K T W G ((mt ρ h).st ρ f) E)
    (k : ∀ d h1 G1 H1, G.le G1 → RH X.K T G1 h1 H1 → PostS X.K T W G1 (f d h1) E → Q d H1) : tT X.K T W mt σ H Q := by
  refine ⟨G, ρ, h, re, rh, ?_⟩
  cases e1 : mt ρ h with
  | ok d h1 => rw [e1] at p; exact fun G1 H1 l1 r1 => k d h1 G1 H1 l1 r1 (PostS.mono p l1)
  | exc c h1 => rw [e1] at p; exact fun G1 H1 l1 r1 => p G1 H1 σ l1 (re.mono l1) r1
  | err => rw [e1] at p; exact p
def sNil : Sv := fun ρ h => .nx ρ h
def sSeq (m n : Sv) : Sv := fun ρ h => (m ρ h).then n
theorem db_nil : DB X T W [] sNil := ⟨PSs.imp pss_nil fun E σ H ⟨G, ρ, h, re, rh, p⟩ => p G H σ (.refl G) re rh⟩
theorem db_one (h1 : DS X T W st m) : DB X T W [st] m := ⟨pss_one h1.p⟩
theorem db_cons (h1 : DS X T W st m) (h2 : DB X T W rest n) : DB X T W (st :: rest) (sSeq m n) := ⟨PSs.imp (pss_cons h1.p h2.p) fun E σ H ⟨G, ρ, h, re, rh, p⟩ => by
  refine ⟨G, ρ, h, re, rh, ?_⟩
  unfold sSeq at p
  cases e : m ρ h with
  | nx ρ' h' => rw [e] at p; exact fun G1 H1 σ1 l1 re1 rh1 => ⟨G1, ρ', h', re1, rh1, PostS.mono p l1⟩
  | rt d h' => rw [e] at p; exact p
  | bk ρ' h' => rw [e] at p; exact p
  | ct ρ' h' => rw [e] at p; exact p
  | ex c ρ' h' => rw [e] at p; exact p
  | er => rw [e] at p; exact p⟩
def sBreak : Sv := fun ρ h => .bk ρ h
def sCont : Sv := fun ρ h => .ct ρ h
theorem ds_pass : DS X T W (.Pass pos) sNil := ⟨PS.imp ps_pass fun E σ H ⟨G, ρ, h, re, rh, p⟩ => p G H σ (.refl G) re rh⟩
theorem ds_break : DS X T W (.Break pos) sBreak := ⟨PS.imp ps_break fun E σ H ⟨G, ρ, h, re, rh, p⟩ => p G H σ (.refl G) re rh⟩
theorem ds_cont : DS X T W (.Continue pos) sCont := ⟨PS.imp ps_continue fun E σ H ⟨G, ρ, h, re, rh, p⟩ => p G H σ (.refl G) re rh⟩
def sExpr (me : Ev) : Sv := fun ρ h => (me ρ h).st ρ fun _ h1 => .nx ρ h1
theorem ds_expr (he : DE X T W e me) (hs : swapsWith e none pos.line X.env = pure false := by rfl) : DS X T W (.Expr e pos) (sExpr me) := ⟨PS.imp (ps_expr he.p hs) fun E σ H ⟨G, ρ, h, re, rh, p⟩ =>
  e_red re rh p fun d h1 G1 H1 v l1 r1 d1 q => q G1 H1 σ (.refl _) (re.mono l1) r1⟩
def sRet (me : Ev) : Sv := fun ρ h => (me ρ h).st ρ fun d h1 => .rt d h1
theorem ds_ret (he : DE X T W e me) : DS X T W (.Return (some e) pos) (sRet me) := ⟨PS.imp (ps_ret he.p) fun E σ H ⟨G, ρ, h, re, rh, p⟩ =>
  e_red re rh p fun d h1 G1 H1 v l1 r1 d1 q => q G1 H1 v (.refl _) r1 d1⟩
def sRetN : Sv := fun _ h => .rt .non h
theorem ds_retN : DS X T W (.Return none pos) sRetN := ⟨PS.imp ps_retN fun E σ H ⟨G, ρ, h, re, rh, p⟩ => p G H _ (.refl G) rh .non⟩
def sIf (t : Bv) (m n : Sv) : Sv := fun ρ h => (t ρ h).st ρ fun k h1 => if k = true then m ρ h1 else n ρ h1
theorem ds_if {c : Expr} {a b : List Stmt} (hc : DT X T W c mt) (ha : DB X T W a m) (hb : DB X T W b n) : DS X T W (.If c a b pos) (sIf mt m n) := ⟨PS.imp (ps_if hc.p ha.p hb.p) fun E σ H ⟨G, ρ, h, re, rh, p⟩ =>
  t_red re rh p fun d h1 G1 H1 l1 r1 q => by
    cases d with
    | true => rw [if_pos rfl]; exact ⟨G1, ρ, h1, re.mono l1, r1, q⟩
    | false => rw [if_neg Bool.false_ne_true]; exact ⟨G1, ρ, h1, re.mono l1, r1, q⟩⟩
/-- code that is never reached -/
theorem ds_never : DS X T W st (fun _ _ => .er) := ⟨PS.imp ps_never fun E σ H ⟨G, ρ, h, re, rh, p⟩ => p⟩
/-! ### targets -/
abbrev Gv := D → En → LH → Option (En × LH)
def PostG (K : PySem.W.Frag) (T : Tb) (G : Gh) (r : Option (En × LH)) (Q : L2.St → Hp → Prop) : Prop := match r with
  | some (ρ', h') => ∀ G' H' σ', G.le G' → RE K G' ρ' σ' → RH K T G' h' H' → Q σ' H'
  | none => False
theorem PostG.mono {K : PySem.W.Frag} {T : Tb} {G G' : Gh} {r : Option (En × LH)} {Q : L2.St → Hp → Prop} (h : PostG K T G r Q) (l : G.le G') : PostG K T G' r Q := by
  cases r with
  | some q => exact fun G2 H σ l2 => h G2 H σ (l.trans l2)
  | none => exact h
def tG (K : PySem.W.Frag) (T : Tb) (g : Gv) : TG := fun v σ H Q => ∃ G ρ h d, RE K G ρ σ ∧ RH K T G h H ∧ RD K G d v ∧ PostG K T G (g d ρ h) Q
structure DG (X : Cx) (T : Tb) (tg : Expr) (g : Gv) : Prop where
  p : PG X tg (tG X.K T g)
abbrev Gvs := List D → En → LH → Option (En × LH)
def tGs (K : PySem.W.Frag) (T : Tb) (g : Gvs) : TGs := fun v σ H Q => ∃ G ρ h d, RE K G ρ σ ∧ RH K T G h H ∧ RDs K G d v ∧ PostG K T G (g d ρ h) Q
structure DGs (X : Cx) (T : Tb) (ts : List Expr) (g : Gvs) : Prop where
  p : PGs X ts (tGs X.K T g)
theorem PG.imp {tg : Expr} {t t' : TG} (h : PG X tg t) (i : ∀ v σ H Q, t' v σ H Q → t v σ H Q) : PG X tg t' := ⟨fun pins s σ H v u Q I r q => h.run pins s σ H v u Q I r (i _ _ _ _ q)⟩
theorem PGs.imp {tg : List Expr} {t t' : TGs} (h : PGs X tg t) (i : ∀ v σ H Q, t' v σ H Q → t v σ H Q) : PGs X tg t' := ⟨fun pins s σ H v u Q I r q => h.run pins s σ H v u Q I r (i _ _ _ _ q)⟩
theorem PG.or {tg : Expr} {t t' : TG} (h : PG X tg t) (h' : PG X tg t') : PG X tg (fun v σ H Q => t v σ H Q ∨ t' v σ H Q) := ⟨fun pins s σ H v u Q I r q => by
  rcases q with q | q
  · exact h.run pins s σ H v u Q I r q
  · exact h'.run pins s σ H v u Q I r q⟩
def gNm (i : Nat) : Gv := fun d ρ h => some (ρ.set i (some d), h)
theorem RE.set {K : PySem.W.Frag} {G : Gh} {ρ : En} {σ : L2.St} (re : RE K G ρ σ) (i : Nat) {d : D} {v : V} (r : RD K G d v) : RE K G (ρ.set i (some d)) (σ.set i (some v)) := by
  refine ⟨by rw [List.length_set, List.length_set]; exact re.len, fun j d' e => ?_⟩
  by_cases hj : j = i
  · subst hj
    by_cases hl : j < ρ.length
    · rw [List.getElem?_set_self hl] at e
      cases e
      exact ⟨v, by rw [List.getElem?_set_self (by rw [← re.len]; exact hl)], r⟩
    · rw [List.getElem?_eq_none (by rw [List.length_set]; omega)] at e; cases e
  · rw [List.getElem?_set_ne (Ne.symm hj)] at e ⊢
    exact re.get j d' e
theorem dg_name {i : Nat} {x : Str} (hN : X.N.Nodup) (hi : X.N[i]? = some x) (hx : Loc X.env.scope x) (hf : X.fn x = true ∨ X.env.scope.names.lookup x = some .local := by first | exact .inl rfl | exact .inr rfl | assumption) : DG X T (.Name x pos) (gNm i) :=
  ⟨PG.imp (pg_name hN hi hx hf) fun v σ H Q ⟨G, ρ, h, d, re, rh, rd, p⟩ => p G H _ (.refl G) (re.set i rd) rh⟩
def gNils : Gvs := fun ds ρ h => match ds with
  | [] => some (ρ, h)
  | _ => none
def gCns (g : Gv) (gs : Gvs) : Gvs := fun ds ρ h => match ds with
  | d :: ds => (g d ρ h).bind fun r => gs ds r.1 r.2
  | [] => none
theorem dgs_nil : DGs X T [] gNils := ⟨PGs.imp pgs_nil fun v σ H Q ⟨G, ρ, h, d, re, rh, rd, p⟩ => by
  cases rd with
  | nil => exact ⟨rfl, p G H _ (.refl G) re rh⟩
  | cons _ _ => exact p.elim⟩
theorem dgs_cons {g : Gv} {gs : Gvs} {es : List Expr} (h1 : DG X T e g) (h2 : DGs X T es gs) (hs : (assignEach (e :: es) X.env).map (·.2) = assign e X.env :: (assignEach es X.env).map (·.2) := by rfl) : DGs X T (e :: es) (gCns g gs) :=
  ⟨PGs.imp (pgs_cons h1.p h2.p hs) fun v σ H Q ⟨G, ρ, h, d, re, rh, rd, p⟩ => by
    cases rd with
    | nil => exact p.elim
    | @cons x xs v2 vs r t =>
      refine ⟨v2, vs, rfl, G, ρ, h, x, re, rh, r, ?_⟩
      have p : PostG X.K T G ((g x ρ h).bind fun r => gs xs r.1 r.2) Q := p
      cases e1 : g x ρ h with
      | some q =>
        obtain ⟨ρ1, h1⟩ := q
        rw [e1] at p
        exact fun G1 H1 σ1 l1 re1 rh1 => ⟨G1, ρ1, h1, xs, re1, rh1, t.mono l1, PostG.mono p l1⟩
      | none => rw [e1] at p; exact p⟩
def gTp (n : Nat) (gs : Gvs) : Gv := fun d ρ h => match d with
  | .tup xs => if xs.length = n then gs xs ρ h else none
  | .lst xs => if xs.length = n then gs xs ρ h else none
  | _ => none
theorem dg_tup {es : List Expr} {k n : Nat} {gs : Gvs} (hc : X.calm = true) (h : DGs X T es gs) (hn : (assignEach es X.env).length = n := by rfl) (hst : (assignEach es X.env).findIdx? (·.1) = none := by rfl) : DG X T (.Tuple es k pos) (gTp n gs) :=
  ⟨PG.imp (PG.or (pg_tup hc h.p hn hst) (pg_lst hc h.p hn hst)) fun v σ H Q ⟨G, ρ, h, d, re, rh, rd, p⟩ => by
    cases rd with
    | @tup xs vs a q r =>
      simp only [gTp] at p
      split at p
      · rename_i hl
        exact .inl ⟨a, vs, rfl, SqT.mono q rh.F, by rw [← r.length]; exact hl, G, ρ, h, xs, re, rh, r, p⟩
      · exact p.elim
    | @lst xs vs a q r =>
      simp only [gTp] at p
      split at p
      · rename_i hl
        exact .inr ⟨a, vs, rfl, SqL.of (rh.F _ _ q), by rw [← r.length]; exact hl, G, ρ, h, xs, re, rh, r, p⟩
      · exact p.elim
    | _ => exact p.elim⟩
def sAsg (me : Ev) (g : Gv) : Sv := fun ρ h => (me ρ h).st ρ fun d h1 => match g d ρ h1 with
  | some (ρ', h') => .nx ρ' h'
  | none => .er
theorem asg_red {σ : L2.St} {H : Hp} {E : Ends} {g : Gv} (k : tS X.K T W (sAsg me g) E σ H) : tAsg (tE X.K T W me) (tG X.K T g) E σ H := by
  obtain ⟨G, ρ, h, re, rh, p⟩ := k
  refine e_red re rh p fun d h1 G1 H1 v l1 r1 d1 q => ?_
  refine ⟨G1, ρ, h1, d, re.mono l1, r1, d1, ?_⟩
  cases e1 : g d ρ h1 with
  | some r => obtain ⟨ρ', h'⟩ := r; rw [e1] at q; exact q
  | none => rw [e1] at q; exact q.elim
theorem ds_asg {tg : Expr} {g : Gv} (he : DE X T W e me) (hg : DG X T tg g) (hs : swapsWithSole [tg] e pos.line X.env = pure false := by rfl) (hw : swappedStores [tg] e X.env = pure none := by rfl)
    (h1 : (assignEach [tg] X.env).map (·.2) = [assign tg X.env] := by rfl) : DS X T W (.Assign [tg] e pos) (sAsg me g) := ⟨PS.imp (ps_asg he.p hg.p hs hw h1) fun E σ H k => asg_red k⟩
theorem ds_set {i : Nat} {x : Str} {pos' : Pos} (hN : X.N.Nodup) (hi : X.N[i]? = some x) (hx : Loc X.env.scope x) (he : DE X T W e me) (hs : swapsWith e (some (.Name x pos')) pos.line X.env = pure false := by rfl) (hf : X.fn x = true ∨ X.env.scope.names.lookup x = some .local := by first | exact .inl rfl | exact .inr rfl | assumption) :
    DS X T W (.Assign [.Name x pos'] e pos) (sAsg me (gNm i)) := ⟨PS.imp (ps_set hN hi hx he.p hs hf) fun E σ H k => by
  obtain ⟨G, ρ, h, re, rh, p⟩ := k
  exact e_red re rh p fun d h1 G1 H1 v l1 r1 d1 q => q G1 H1 _ (.refl _) ((re.mono l1).set i d1) r1⟩
/-- a, b = x, y of plain local names -/
def sPar (i j : Nat) (ma : Av) : Sv := fun ρ h => (ma ρ h).st ρ fun ds h1 => match ds with
  | [x, y] => .nx ((ρ.set i (some x)).set j (some y)) h1
  | _ => .er
theorem ds_par {i j : Nat} {x y : Str} {a b : Expr} {ma : Av} {px py pt : Pos} {kt k2 pt2} (hc : X.calm = true) (hN : X.N.Nodup) (hi : X.N[i]? = some x) (hj : X.N[j]? = some y) (hij : i ≠ j)
    (hx : X.env.scope.names.lookup x = some .local) (hy : X.env.scope.names.lookup y = some .local) (ha : DA X T W [a, b] ma)
    (hw : swappedStores [.Tuple [.Name x px, .Name y py] kt pt] (.Tuple [a, b] k2 pt2) X.env = pure (some [x, y]) := by rfl)
    (hs : swapsWithSole [.Tuple [.Name x px, .Name y py] kt pt] (.Tuple [a, b] k2 pt2) pos.line X.env = pure false := by rfl) :
    DS X T W (.Assign [.Tuple [.Name x px, .Name y py] kt pt] (.Tuple [a, b] k2 pt2) pos) (sPar i j ma) := ⟨PS.imp (ps_par hc hN hi hj hij hx hy ha.p hw hs) fun E σ H ⟨G, ρ, h, re, rh, p⟩ => by
  refine ⟨G, ρ, h, re, rh, ?_⟩
  unfold sPar at p
  cases e1 : ma ρ h with
  | ok ds h1 =>
    rw [e1] at p
    intro G1 H1 v l1 r1 d1
    cases d1 with
    | nil => exact p.elim
    | cons q t => cases t with
      | nil => exact p.elim
      | cons q2 t2 => cases t2 with
        | nil => exact ⟨_, _, rfl, p G1 H1 _ l1 (((re.mono l1).set i q).set j q2) r1⟩
        | cons _ _ => exact p.elim
  | exc c h1 => rw [e1] at p; exact fun G1 H1 l1 r1 => p G1 H1 σ l1 (re.mono l1) r1
  | err => rw [e1] at p; exact p⟩
/-- x op= e -/
def sAug (f : D → D → Option D) (i : Nat) (me : Ev) : Sv := fun ρ h => match ρ[i]? with
  | some (some x) => (me ρ h).st ρ fun y h1 => match f x y with
    | some z => .nx (ρ.set i (some z)) h1
    | none => .er
  | _ => .er
theorem ds_aug {i : Nat} {x : Str} {op : Operator} {f : D → D → Option D} {pos' : Pos} (hN : X.N.Nodup) (hi : X.N[i]? = some x) (hx : Loc X.env.scope x) (he : DE X T W e me) (ho : OpD X T (inplaceOp op) f) (hf : X.fn x = true ∨ X.env.scope.names.lookup x = some .local := by first | exact .inl rfl | exact .inr rfl | assumption) :
    DS X T W (.AugAssign (.Name x pos') op e pos) (sAug f i me) := ⟨PS.imp (ps_aug hN hi hx he.p (ti := rOp X.K T f) (fun pins s σ H x y v u Q I rx ry q => ho pins s σ H x y v u Q I rx ry q) hf) fun E σ H ⟨G, ρ, h, re, rh, p⟩ => by
  unfold sAug at p
  split at p
  · rename_i d e1
    obtain ⟨v, h1, h2⟩ := re.get i d e1
    refine ⟨v, h1, e_red re rh p fun y h1 G1 H1 w l1 r1 d1 q => ?_⟩
    cases e2 : f d y with
    | some z => rw [e2] at q; exact ⟨G1, h1, d, y, z, r1, h2.mono l1, d1, e2, fun G2 H2 zz l2 r2 d2 => q G2 H2 _ l2 (((re.mono l1).mono l2).set i d2) r2⟩
    | none => rw [e2] at q; exact q.elim
  · exact p.elim⟩
/-! ### while -/
/-- the end of a turn; n: how many turns are left -/
def sWh (t : Bv) (m : Sv) : Nat → Sv
  | 0 => fun ρ h => .er
  | n + 1 => fun ρ h => (t ρ h).st ρ fun k h1 => if k = true then (match m ρ h1 with
      | .nx ρ' h' => sWh t m n ρ' h'
      | .ct ρ' h' => sWh t m n ρ' h'
      | .bk ρ' h' => .nx ρ' h'
      | .rt d h' => .rt d h'
      | .ex c ρ' h' => .ex c ρ' h'
      | .er => .er) else .nx ρ h1
theorem ds_while {c : Expr} {body : List Stmt} (N : Nat) (hp : PassesOwn (model X.prog X.w) X.A X.env X.xe) (hc : DT X T W c mt) (hb : DB X T W body m) : DS X T W (.While c body [] pos) (sWh mt m N) :=
  ⟨PS.imp (ps_while hp hc.p hb.p) fun E σ H ⟨G, ρ, h, re, rh, p⟩ => by
    refine ⟨fun n σ H => ∃ G1 ρ h, G.le G1 ∧ RE X.K G1 ρ σ ∧ RH X.K T G1 h H ∧ PostS X.K T W G1 (sWh mt m n ρ h) E, ⟨N, G, ρ, h, .refl G, re, rh, p⟩, ?_⟩
    rintro n σ1 H1 ⟨G1, ρ1, h1, l1, re1, rh1, p1⟩
    cases n with
    | zero => exact p1.elim
    | succ n =>
      unfold sWh at p1
      refine t_red re1 rh1 p1 fun d h2 G2 H2 l2 rh2 q => ?_
      cases d with
      | true =>
        rw [if_pos rfl] at q ⊢
        refine ⟨fun σ' H' => ∃ G3 ρ h, G.le G3 ∧ RE X.K G3 ρ σ' ∧ RH X.K T G3 h H' ∧ PostS X.K T W G3 (sWh mt m n ρ h) E, fun σ' H' z => ⟨n, Nat.lt_succ_self _, z⟩, G2, ρ1, h2, re1.mono l2, rh2, ?_⟩
        cases e : m ρ1 h2 with
        | nx ρ' h' => rw [e] at q; exact fun G3 H3 σ3 l3 re3 rh3 => ⟨G3, ρ', h', (l1.trans l2).trans l3, re3, rh3, PostS.mono q l3⟩
        | ct ρ' h' => rw [e] at q; exact fun G3 H3 σ3 l3 re3 rh3 => ⟨G3, ρ', h', (l1.trans l2).trans l3, re3, rh3, PostS.mono q l3⟩
        | bk ρ' h' => rw [e] at q; exact q
        | rt d h' => rw [e] at q; exact q
        | ex c ρ' h' => rw [e] at q; exact q
        | er => rw [e] at q; exact q
      | false =>
        rw [if_neg Bool.false_ne_true] at q ⊢
        exact q G2 H2 σ1 (.refl _) (re1.mono l2) rh2⟩
/-! ### what is walked -/
/-- the items; the object that must stay as it is -/
structure Itm where
  ds : List D
  g : Option Nat := none
def Itm.still (i : Itm) (h : LH) : Prop := ∀ n, i.g = some n → h[n]? = some (.lst i.ds)
def JOk (K : PySem.W.Frag) (T : Tb) (G0 : Gh) (J : It) (t : Itm) : Prop := ∀ G h H, G0.lw G → RH K T G h H → t.still h → ∀ i : Nat,
  (∀ d, t.ds[i]? = some d → J.go i H ∧ ∀ x H', J.yld i H x H' → ∃ G', G.le G' ∧ RH K T G' h H' ∧ RD K G' d x) ∧ (t.ds.length ≤ i → J.stop i H)
theorem JOk.mono {K : PySem.W.Frag} {T : Tb} {G0 G1 : Gh} {J : It} {t : Itm} (j : JOk K T G0 J t) (l : G0.le G1) : JOk K T G1 J t := fun G h H l2 => j G h H (l.w.trans l2)
abbrev Iv := En → LH → Res Itm
def PostI (K : PySem.W.Frag) (T : Tb) (W : WX) (σ : L2.St) (G : Gh) (r : Res Itm) (R : It → Hp → Prop) : Prop := match r with
  | .ok t h' => ∀ G' H' J, G.le G' → RH K T G' h' H' → JOk K T G' J t → R J H'
  | .exc c h' => ∀ G' H', G.le G' → RH K T G' h' H' → W (.ref (He.ga K c)) none σ H'
  | .err => False
def tI (K : PySem.W.Frag) (T : Tb) (W : WX) (m : Iv) : TI := fun σ H R => ∃ G ρ h, RE K G ρ σ ∧ RH K T G h H ∧ PostI K T W σ G (m ρ h) R
structure DI (X : Cx) (T : Tb) (W : WX) (tg e : Expr) (m : Iv) : Prop where
  p : PI X tg e (tI X.K T W m)
theorem PI.imp {tg e : Expr} {t t' : TI} (h : PI X tg e t) (i : ∀ σ H Q, t' σ H Q → t σ H Q) : PI X tg e t' := ⟨fun pins s σ H Q I q => h.run pins s σ H Q I (i _ _ _ q)⟩
theorem PI.or {tg e : Expr} {t t' : TI} (h : PI X tg e t) (h' : PI X tg e t') : PI X tg e (fun σ H R => t σ H R ∨ t' σ H R) := ⟨fun pins s σ H Q I q => q.elim (h.run pins s σ H Q I) (h'.run pins s σ H Q I)⟩
/-- a for's turns: the items that are left -/
def sFor (g : Gv) (m : Sv) : List D → Sv
  | [] => fun ρ h => .nx ρ h
  | d :: r => fun ρ h => match g d ρ h with
    | some (ρ1, h1) => (match m ρ1 h1 with
      | .nx ρ' h' => sFor g m r ρ' h'
      | .ct ρ' h' => sFor g m r ρ' h'
      | .bk ρ' h' => .nx ρ' h'
      | .rt d h' => .rt d h'
      | .ex c ρ' h' => .ex c ρ' h'
      | .er => .er)
    | none => .er
def sForI (mi : Iv) (g : Gv) (m : Sv) : Sv := fun ρ h => (mi ρ h).st ρ fun t h1 => match t.g with
  | none => sFor g m t.ds ρ h1
  | some _ => .er
theorem ds_for {tg iter : Expr} {body : List Stmt} {mi : Iv} {g : Gv} (hp : PassesOwn (model X.prog X.w) X.A X.env X.xe) (hc : X.calm = true) (hi : DI X T W tg iter mi) (hg : DG X T tg g) (hb : DB X T W body m)
    (hs : ∀ x, foldedSetIterable iter X.env x = pure x := by intro _; rfl) : DS X T W (.For tg iter body [] pos) (sForI mi g m) :=
  ⟨PS.imp (ps_for hp hc hi.p hg.p hb.p hs) fun E σ H ⟨G, ρ, h, re, rh, p⟩ => by
    unfold sForI at p
    refine ⟨G, ρ, h, re, rh, ?_⟩
    cases e0 : mi ρ h with
    | exc c h1 => rw [e0] at p; exact fun G1 H1 l1 r1 => p G1 H1 σ l1 (re.mono l1) r1
    | err => rw [e0] at p; exact p
    | ok t h1 =>
      rw [e0] at p
      intro G1 H1 J l1 rh1 jk
      obtain ⟨ds, gg⟩ := t
      cases gg with
      | some n => exact p.elim
      | none =>
        have p : PostS X.K T W G (sFor g m ds ρ h1) E := p
        refine ⟨fun i n σ H => ∃ G2 ρ h, G1.le G2 ∧ RE X.K G2 ρ σ ∧ RH X.K T G2 h H ∧ n = ds.length - i ∧ i ≤ ds.length ∧ PostS X.K T W G2 (sFor g m (ds.drop i) ρ h) E, ⟨_, G1, ρ, h1, .refl _, re.mono l1, rh1, rfl, Nat.zero_le _, PostS.mono p l1⟩, ?_⟩
        rintro i n σ2 H2 ⟨G2, ρ2, h2, l2, re2, rh2, rfl, hi, p2⟩
        obtain ⟨j1, j2⟩ := jk G2 h2 H2 l2.w rh2 (fun n e => nomatch e) i
        by_cases hlt : i < ds.length
        · obtain ⟨go, yl⟩ := j1 ds[i] (List.getElem?_eq_getElem hlt)
          refine .inr ⟨go, fun σ' H' => ∃ G3 ρ h, G1.le G3 ∧ RE X.K G3 ρ σ' ∧ RH X.K T G3 h H' ∧ PostS X.K T W G3 (sFor g m (ds.drop (i + 1)) ρ h) E, fun σ' H' ⟨G3, ρ3, h3, l3, re3, rh3, p3⟩ => ⟨ds.length - (i + 1), by omega, G3, ρ3, h3, l3, re3, rh3, rfl, hlt, p3⟩, fun x H' y => ?_⟩
          obtain ⟨G3, l3, rh3, rd3⟩ := yl x H' y
          refine ⟨G3, ρ2, h2, ds[i], re2.mono l3, rh3, rd3, ?_⟩
          rw [List.drop_eq_getElem_cons hlt] at p2
          unfold sFor at p2
          cases e1 : g ds[i] ρ2 h2 with
          | none => rw [e1] at p2; exact p2.elim
          | some q =>
            obtain ⟨ρ4, h4⟩ := q
            rw [e1] at p2
            intro G4 H4 σ4 l4 re4 rh4
            refine ⟨G4, ρ4, h4, re4, rh4, ?_⟩
            have p2 : PostS X.K T W G2 (match m ρ4 h4 with
              | .nx ρ' h' => sFor g m (ds.drop (i + 1)) ρ' h'
              | .ct ρ' h' => sFor g m (ds.drop (i + 1)) ρ' h'
              | .bk ρ' h' => .nx ρ' h'
              | .rt d h' => .rt d h'
              | .ex c ρ' h' => .ex c ρ' h'
              | .er => .er) E := p2
            cases e : m ρ4 h4 with
            | nx ρ' h' => rw [e] at p2; exact fun G5 H5 σ5 l5 re5 rh5 => ⟨G5, ρ', h', l2.trans (l3.trans (l4.trans l5)), re5, rh5, PostS.mono p2 (l3.trans (l4.trans l5))⟩
            | ct ρ' h' => rw [e] at p2; exact fun G5 H5 σ5 l5 re5 rh5 => ⟨G5, ρ', h', l2.trans (l3.trans (l4.trans l5)), re5, rh5, PostS.mono p2 (l3.trans (l4.trans l5))⟩
            | bk ρ' h' => rw [e] at p2; exact PostS.mono (r := .nx ρ' h') p2 (l3.trans l4)
            | rt d h' => rw [e] at p2; exact PostS.mono (r := .rt d h') p2 (l3.trans l4)
            | ex c ρ' h' => rw [e] at p2; exact PostS.mono (r := .ex c ρ' h') p2 (l3.trans l4)
            | er => rw [e] at p2; exact p2
        · have ei : i = ds.length := by omega
          subst ei
          rw [List.drop_length] at p2
          exact .inl ⟨j2 (Nat.le_refl _), p2 G2 H2 σ2 (.refl _) re2 rh2⟩⟩
end
end Sh

set_option Elab.async false
set_option linter.all false
set_option maxRecDepth 100000
set_option maxHeartbeats 4000000
/-! Sh3: defs and their calls, raise, displays, subscripts, slices, methods of built-in types. -/
namespace Sh
open PySem PySem.Spec PyProof.Rows L2

/-- what is wanted behind a call -/
def PostF (K : PySem.W.Frag) (T : Tb) (G : Gh) (r : Res D) (Q : VK) (E : XK) : Prop := match r with
  | .ok d h' => ∀ G' H' v, G.le G' → RH K T G' h' H' → RD K G' d v → Q v H'
  | .exc c h' => ∀ G' H', G.le G' → RH K T G' h' H' → E (.ref (He.ga K c)) none H'
  | .err => False
abbrev Fv := List D → LH → Res D
/-- the promise: the mirror f, n parameters -/
def spD (K : PySem.W.Frag) (T : Tb) (n : Nat) (f : Fv) : Sp := fun vs H Q E => vs.length = n ∧ ∃ G h ds, RH K T G h H ∧ RDs K G ds vs ∧ PostF K T G (f ds h) Q E
/-- a function of the module, called by its name: its mirror f -/
structure Cal (P : Program) (w : World) (K : PySem.W.Frag) (mg : Str → Option Value) (base : Heap) (T : Tb) (k : Nat) (x : Str) (f : Fv) : Prop where
  ex : ∃ a fd ps ds dvs sp, mg x = some (.ref a) ∧ PySem.W.keepIn K (.ref a) = true ∧ FnOk P w K mg base (L2.CX P w) k a fd ps sp ∧ Binds K fd ps ds ∧ Vals dvs ds ∧
    ∀ vs H Q E, (∃ G h ds, RH K T G h H ∧ RDs K G ds vs ∧ PostF K T G (f ds h) Q E) → sp (vs ++ dvs) H Q E
theorem Cal.mono {P : Program} {w : World} {K : PySem.W.Frag} {mg : Str → Option Value} {base : Heap} {T : Tb} {j k : Nat} {x : Str} {f : Fv} (c : Cal P w K mg base T j x f) (h : j ≤ k) : Cal P w K mg base T k x f := by
  obtain ⟨a, fd, ps, ds, dvs, sp, h1, h2, h3, r⟩ := c.ex
  exact ⟨⟨a, fd, ps, ds, dvs, sp, h1, h2, h3.mono h, r⟩⟩
section
variable {X : Cx} {T : Tb} {W : WX} {pos p : Pos} {e : Expr} {es : List Expr} {me : Ev} {mas : Av} {x : Str} {f : Fv} {j k : Nat}
/-- a def runs, the slots σ stand -/
theorem run_cal {pins : List (Addr × Obj)} {σ : L2.St} {H : Hp} {s : Shared} {Q : VK} {us : List Value} {vs : List V} {a : Addr} {fd : FuncData} {ps : List Str} {ds : List Value} {dvs : List V} {sp : Sp}
    (F : FnOk X.prog X.w X.K X.mg X.base (L2.CX X.prog X.w) k a fd ps sp) (hr : Room k X.A) (hb : Binds X.K fd ps ds) (hd : Vals dvs ds) (tk : Takes X W) (I : Inv X pins σ H s) (r : Vals vs us) (h : sp (vs ++ dvs) H Q (WE W σ)) :
    wpAny (model X.prog X.w) X.A (call (.ref a) us) (EP X pins σ Q) X.xe s := by
  have r2 : Vals (vs ++ dvs) (us ++ ds) := r.append hd
  have hl : (us ++ ds).length = ps.length := by rw [← r2.length]; exact F.len _ _ _ _ h
  refine wpAny_call (codeAny_mono (F.run X.A X.stack s H ⟨us, []⟩ (us ++ ds) (vs ++ dvs) Q (WE W σ) hr I.env0 (hb s us I.kIn hl) r2 h) fun r s' hq => ?_)
  cases r with
  | error e => exact passAt tk σ pins H s e s' I hq
  | ok fl =>
    cases fl with
    | ret u => exact I.after hq
    | next => exact False.elim hq
    | brk => exact False.elim hq
    | cont => exact False.elim hq
theorem postF_of {σ : L2.St} {vs : List V} {H : Hp} {Q : VK} (q : rFn X.K T σ W f vs H Q) : ∃ G h ds, RH X.K T G h H ∧ RDs X.K G ds vs ∧ PostF X.K T G (f ds h) Q (WE W σ) := by
  obtain ⟨G, h, ds, rh, rd, p⟩ := q
  refine ⟨G, h, ds, rh, rd, ?_⟩
  cases e : f ds h with
  | ok d h' => rw [e] at p; exact p
  | exc c h' => rw [e] at p; exact p
  | err => rw [e] at p; exact p
theorem de_call (c : Cal X.prog X.w X.K X.mg X.base T k x f) (hr : Room j X.A) (hk : k ≤ j) (hg : Gl X x) (tk : Takes X W) (ha : DA X T W (e :: es) mas) (hdb : (x == ("__debug__" : Str)) = false := by decide)
    (he : starEach (e :: es) X.env = (false, eval e X.env) :: starEach es X.env := by rfl) (hpl : (backTo pos (starEach es X.env)).any (·.1) = false := by rfl) : DE X T W (.Call (.Name x p) (e :: es) [] pos) (eCall f mas) := by
  obtain ⟨a, fd, ps, ds, dvs, sp, hm, hkp, F, hb, hd, hsp⟩ := c.ex
  refine ⟨⟨fun pins s σ H Q I h => ?_⟩⟩
  refine wpAny_Call_Name_kw (ld_glob I hg hm ?_ hdb)
  refine PySem.W.callWith_K (h₀ := X.base) I.ok.mod.kin hkp (thn (ha.p.run pos pins s σ H _ I (call_red h)) fun us s1 ⟨vs, H1, I1, r, q⟩ => ⟨I1.kIn, ?_⟩) he hpl
  exact run_cal F (hr.mono hk) hb hd tk I1 r (hsp _ _ _ _ (postF_of q))
theorem de_call0 (c : Cal X.prog X.w X.K X.mg X.base T k x f) (hr : Room j X.A) (hk : k ≤ j) (hg : Gl X x) (tk : Takes X W) (hdb : (x == ("__debug__" : Str)) = false := by decide) : DE X T W (.Call (.Name x p) [] [] pos) (eCall f aNil) := by
  obtain ⟨a, fd, ps, ds, dvs, sp, hm, hkp, F, hb, hd, hsp⟩ := c.ex
  refine ⟨⟨fun pins s σ H Q I h => ?_⟩⟩
  refine wpAny_Call_Name_kw (ld_glob I hg hm ?_ hdb)
  obtain ⟨G, ρ, hh, re, rh, q⟩ := h
  have q2 : rFn X.K T σ W f [] H Q := ⟨G, hh, [], rh, .nil, q⟩
  exact PySem.W.callWith_K0 I.kIn hkp (run_cal (us := []) F (hr.mono hk) hb hd tk I .nil (hsp _ _ _ _ (postF_of q2)))
/-- a def's mirror: the body m over n names, the first of them the parameters -/
def fn (n : Nat) (m : Sv) : Fv := fun ds h => match m (ds.map some ++ List.replicate (n - ds.length) none) h with
  | .nx _ h' => .ok .non h'
  | .rt d h' => .ok d h'
  | .ex c _ h' => .exc c h'
  | _ => .err
/-- THE RULE: a def's promise by its body -/
theorem fn_ok {P : Program} {w : World} {K : PySem.W.Frag} {mg : Str → Option Value} {base : Heap} {T : Tb} {nm qual : Str} {params : Arguments} {body : List Stmt} {scope : Scope} {dvs : List V} {kws : List (Str × V)} {f : Addr} {fd : FuncData} {N ps : List Str} {k : Nat} {m : Sv}
    (F : FunD K nm qual params body scope dvs kws f fd) (S : FnScope N ps scope)
    (hb : ∀ (cdv : Value) (A : Around) (outer : List Env) (s : Shared) (H : Hp) (E : XK), Room k (A.deeper (envOfC qual scope s.heap.objs.size f cdv)) → DB (cxOf (L2.CX P w) P w K mg base N qual scope f cdv A outer s H E) T (fun cls d _ H => E cls d H) body m) :
    FnOk P w K mg base (L2.CX P w) (k + 1) f fd ps (spD K T ps.length (fn N.length m)) := by
  refine F.ok S (fun vs H Q E h => h.1) (fun cdv A outer s H vs Q E hr h => ?_)
  obtain ⟨hl, G, h, ds, rh, rd, p⟩ := h
  refine ⟨_, (hb cdv A outer s H E hr).p, G, ds.map some ++ List.replicate (N.length - ds.length) none, h, ⟨?_, fun i d e => ?_⟩, rh, ?_⟩
  · unfold L2.start
    rw [List.length_append, List.length_append, List.length_map, List.length_map, List.length_replicate, List.length_replicate, rd.length]
  · have hi : i < ds.length := by
      by_cases hi : i < ds.length
      · exact hi
      · rw [List.getElem?_append_right (by simpa using hi), List.getElem?_replicate] at e
        split at e <;> cases e
    rw [List.getElem?_append_left (by simpa using hi), List.getElem?_map] at e
    cases e1 : ds[i]? with
    | none => rw [e1] at e; cases e
    | some d' =>
      rw [e1] at e; cases e
      obtain ⟨v, h1, h2⟩ := rd.get e1
      refine ⟨v, ?_, h2⟩
      unfold L2.start
      rw [List.getElem?_append_left (by rw [List.length_map, ← rd.length]; exact hi), List.getElem?_map, h1]; rfl
  · unfold fn at p
    cases e : m (ds.map some ++ List.replicate (N.length - ds.length) none) h with
    | nx ρ' h' => rw [e] at p; exact fun G1 H1 σ1 l1 re1 rh1 => p G1 H1 _ l1 rh1 .non
    | rt d h' => rw [e] at p; exact p
    | bk ρ' h' => rw [e] at p; exact p.elim
    | ct ρ' h' => rw [e] at p; exact p.elim
    | ex c ρ' h' => rw [e] at p; exact fun G1 H1 σ1 l1 re1 rh1 => p G1 H1 l1 rh1
    | er => rw [e] at p; exact p.elim
/-- what a body may lean on about exceptions -/
theorem takes_cx {CX : CXT} {P : Program} {w : World} {K : PySem.W.Frag} {mg : Str → Option Value} {base : Heap} {N : List Str} {qual : Str} {scope : Scope} {f : Addr} {cd : Value} {A : Around} {outer : List Env} {s : Shared} {H : Hp} {E : XK} :
    Takes (cxOf (L2.CX P w) P w K mg base N qual scope f cd A outer s H E) (fun cls d _ H => E cls d H) := takes_of rfl rfl rfl rfl
theorem owns_cx {P : Program} {w : World} {K : PySem.W.Frag} {mg : Str → Option Value} {base : Heap} {N : List Str} {qual : Str} {scope : Scope} {f : Addr} {cd : Value} {A : Around} {outer : List Env} {s : Shared} {H : Hp} {E : XK} :
    PassesOwn (model (cxOf (L2.CX P w) P w K mg base N qual scope f cd A outer s H E).prog (cxOf (L2.CX P w) P w K mg base N qual scope f cd A outer s H E).w) (cxOf (L2.CX P w) P w K mg base N qual scope f cd A outer s H E).A (cxOf (L2.CX P w) P w K mg base N qual scope f cd A outer s H E).env (cxOf (L2.CX P w) P w K mg base N qual scope f cd A outer s H E).xe :=
  passes_of (X := cxOf (L2.CX P w) P w K mg base N qual scope f cd A outer s H E) rfl
/-- a def's call with all its parameters written -/
theorem cal_of {P : Program} {w : World} {K : PySem.W.Frag} {mg : Str → Option Value} {base : Heap} {T : Tb} {x : Str} {a : Addr} {fd : FuncData} {ps : List Str} {k : Nat} {f : Fv} (hm : mg x = some (.ref a)) (hk : PySem.W.keepIn K (.ref a) = true)
    (F : FnOk P w K mg base (L2.CX P w) k a fd ps (spD K T ps.length f)) (hb : Binds K fd ps []) : Cal P w K mg base T k x (fun ds h => if ds.length = ps.length then f ds h else .err) :=
  ⟨⟨a, fd, ps, [], [], _, hm, hk, F, hb, .nil, fun vs H Q E ⟨G, h, ds, rh, rd, p⟩ => by
    rw [List.append_nil]
    split at p
    · rename_i hl
      exact ⟨by rw [← rd.length]; exact hl, G, h, ds, rh, rd, p⟩
    · exact p.elim⟩⟩
/-- .. with the defaults that fill up -/
theorem cal_dfl {P : Program} {w : World} {K : PySem.W.Frag} {mg : Str → Option Value} {base : Heap} {T : Tb} {x : Str} {a : Addr} {fd : FuncData} {ps : List Str} {k : Nat} {f : Fv} {dvs : List V} {dds : List D} (hm : mg x = some (.ref a)) (hk : PySem.W.keepIn K (.ref a) = true)
    (F : FnOk P w K mg base (L2.CX P w) k a fd ps (spD K T ps.length f)) (hb : ∃ ds, Vals dvs ds ∧ Binds K fd ps ds) (hd : ∀ G, RDs K G dds dvs) : Cal P w K mg base T k x (fun ds h => if ds.length + dds.length = ps.length then f (ds ++ dds) h else .err) := by
  obtain ⟨us, hv, hb⟩ := hb
  exact ⟨⟨a, fd, ps, us, dvs, _, hm, hk, F, hb, hv, fun vs H Q E ⟨G, h, ds, rh, rd, p⟩ => by
    split at p
    · rename_i hl
      exact ⟨by rw [List.length_append, ← rd.length, ← (hd G).length]; exact hl, G, h, ds ++ dds, rh, rd.append (hd G), p⟩
    · exact p.elim⟩⟩
/-! ### raise -/
/-- a class of the text's own that is raised -/
structure Exn (X : Cx) (c : Str) : Prop where
  g : X.mg c = some (.ref (He.ga X.K c))
  x : PySem.W.excIn X.K (He.ga X.K c) He.veBase "ValueError.__new__" = true
  k : PySem.W.keepIn X.K (.ref (He.ga X.K c)) = true
  b : PySem.W.subIn X.K (.ref (He.ga X.K c)) (.type "BaseException") = some true
  t : PySem.W.typeIn X.K (.ref (He.ga X.K c)) = some (.type "type")
def sRaise (c : Str) : Sv := fun ρ h => .ex c ρ h
theorem ds_raise {c m : Str} {i : Nat} {p2 p3 : Pos} (hc : X.calm = true) (tk : Takes X W) (hx : Exn X c) (hg : Gl X c) (hdb : (c == ("__debug__" : Str)) = false := by decide) :
    DS X T W (.Raise (some (.Call (.Name c p) [.Constant (.str m) i p2] [] p3)) none pos) (sRaise c) :=
  ⟨PS.imp (ps_raise hc tk (pmk_own PySem.F.excBase_ValueError hx.x hx.g hx.k (raises_own hx.b hx.t) hg hdb)) fun E σ H ⟨G, ρ, h, re, rh, p⟩ => p G H σ (.refl G) re rh⟩
end
end Sh

set_option Elab.async false
set_option linter.all false
set_option maxRecDepth 100000
set_option maxHeartbeats 4000000
/-! Sh4: the operators upon data. -/
namespace Sh
open PySem PySem.Spec PyProof.Rows L2

theorem S_len (l : List Nat) : (S l).length = l.length := by simp [S, Str.length]
theorem S_toList (l : List Nat) : (S l).cps.toList = l := by simp [S]
theorem S_inj {a b : List Nat} (h : S a = S b) : a = b := congrArg (fun x : Str => x.cps.toList) h
theorem S_ext {x : Str} {a : List Nat} (h : x.cps.toList = a) : x = S a := by
  obtain ⟨c⟩ := x
  have h : c.toList = a := h
  subst h
  rfl
theorem S_app (a b : List Nat) : S a ++ S b = S (a ++ b) := S_ext (TL.tl_append (S a) (S b))
theorem S_beq (a b : List Nat) : (S a == S b) = (a == b) := (PyProof.Rows.toList_beq (S a) (S b)).symm

/-! ### + - * // % ** -/
def fits (n : Nat) : Bool := decide (n ≤ 16777216)
theorem fits_ok {n : Nat} (h : fits n = true) : n ≤ sizeLine := by rw [sizeLine_eq]; exact of_decide_eq_true h
def dAdd : D → D → Option D
  | .int i, .int j => some (.int (i + j))
  | .str a, .str b => if fits (a.length + b.length) then some (.str (a ++ b)) else none
  | .lst xs, .lst ys => if fits (xs.length + ys.length) then some (.lst (xs ++ ys)) else none
  | .tup xs, .tup ys => if fits (xs.length + ys.length) && !xs.isEmpty && !ys.isEmpty then some (.tup (xs ++ ys)) else none
  | _, _ => none
def dSub : D → D → Option D
  | .int i, .int j => some (.int (i - j))
  | _, _ => none
/-- a product that the machine's line lets through -/
def mulOk (i j : Int) : Bool := decide (i.natAbs < 2 ^ 64) || decide (j.natAbs < 2 ^ 64) || decide (i.natAbs.log2 + j.natAbs.log2 < 1000000)
def dMul : D → D → Option D
  | .int i, .int j => if mulOk i j then some (.int (i * j)) else none
  | .str a, .int k => if decide (-(2 ^ 63) ≤ k) && decide (k < 2 ^ 63) && fits (a.length * k.toNat) then some (.str (List.replicate k.toNat a).flatten) else none
  | .lst a, .int k => if decide (-(2 ^ 63) ≤ k) && decide (k < 2 ^ 63) && fits (a.length * k.toNat) then some (.lst (List.replicate k.toNat a).flatten) else none
  | _, _ => none
def dDiv : D → D → Option D
  | .int i, .int j => if decide (0 < j) && decide (j.natAbs.log2 < 9000) then some (.int (i / j)) else none
  | _, _ => none
def dMod : D → D → Option D
  | .int i, .int j => if 0 < j then some (.int (i % j)) else none
  | _, _ => none
def dPow : D → D → Option D
  | .int i, .int j => if decide (0 ≤ j) && decide (j ≤ 1000000) && decide (i.natAbs < 2 ^ 64) then some (.int (i ^ j.toNat)) else none
  | _, _ => none
section
variable {X : Cx} {T : Tb}
/-- a scalar result -/
theorem fin_at {G : Gh} {h : LH} {H : Hp} {Q : VK} {d : D} (k : ∀ G' H' z, G.le G' → RH X.K T G' h H' → RD X.K G' d z → Q z H') (rh : RH X.K T G h H) {z : V} (r : RD X.K G d z) : Q z H := k G H z (.refl G) rh r
theorem fin_lst {G : Gh} {h : LH} {H : Hp} {Q : VK} {xs : List D} {vs : List V} (k : ∀ G' H' z, G.le G' → RH X.K T G' h H' → RD X.K G' (.lst xs) z → Q z H') (rh : RH X.K T G h H) (r : RDs X.K G xs vs) : ∀ p, H p = none → Q (.ref p) (upd H p (.lst vs)) := fun p hp =>
  have l := Gh.put_le (o := .lst vs) (rh.notF hp)
  k (G.put p (.lst vs)) _ _ l (rh.new hp _) (.lst (by show upd G.F p _ p = _; rw [upd_same]) (r.mono l))
theorem fin_tup {G : Gh} {h : LH} {H : Hp} {Q : VK} {xs : List D} {vs : List V} (k : ∀ G' H' z, G.le G' → RH X.K T G' h H' → RD X.K G' (.tup xs) z → Q z H') (rh : RH X.K T G h H) (r : RDs X.K G xs vs) : ∀ p, H p = none → Q (.ref p) (upd H p (.tup vs)) := fun p hp =>
  have l := Gh.put_le (o := .tup vs) (rh.notF hp)
  k (G.put p (.tup vs)) _ _ l (rh.new hp _) (.tup (SqT.of (by show upd G.F p _ p = _; rw [upd_same])) (r.mono l))
theorem RDs.empty {K : PySem.W.Frag} {G : Gh} {xs : List D} {vs : List V} (r : RDs K G xs vs) : xs.isEmpty = vs.isEmpty := by cases r <;> rfl
theorem od_add : OpD X T (binaryOp .Add) dAdd := by
  intro pins s σ H x y v u Q I rx ry ⟨G, h, dx, dy, d, rh, r1, r2, e, k⟩
  unfold dAdd at e
  split at e
  · cases e
    cases r1; cases r2
    exact op_add pins s σ H _ _ v u Q I rx ry ⟨_, _, rfl, rfl, fin_at k rh (.int _)⟩
  · rename_i a b
    split at e
    · rename_i hf
      cases e
      cases r1; cases r2
      refine op_add_str pins s σ H _ _ v u Q I rx ry ⟨_, _, rfl, rfl, by rw [S_len, S_len]; exact fits_ok hf, ?_⟩
      rw [S_app]
      exact fin_at k rh (.str _)
    · cases e
  · rename_i xs ys
    split at e
    · rename_i hf
      cases e
      cases r1 with
      | lst e1 q1 =>
        cases r2 with
        | lst e2 q2 =>
          exact op_cat pins s σ H _ _ v u Q I rx ry ⟨_, _, _, _, rfl, rfl, rh.F _ _ e1, rh.F _ _ e2, by rw [← q1.length, ← q2.length]; exact fits_ok hf, fin_lst k rh (q1.append q2)⟩
    · cases e
  · rename_i xs ys
    split at e
    · rename_i hf
      cases e
      simp only [Bool.and_eq_true, Bool.not_eq_true'] at hf
      obtain ⟨⟨hf, n1⟩, n2⟩ := hf
      cases r1 with
      | tup e1 q1 =>
        cases r2 with
        | tup e2 q2 =>
          rw [q1.empty] at n1
          rw [q2.empty] at n2
          refine op_catT pins s σ H _ _ v u Q I rx ry ⟨_, _, _, _, rfl, rfl, SqT.mono e1 rh.F, SqT.mono e2 rh.F, ?_, by rw [← q1.length, ← q2.length]; exact fits_ok hf, ?_, fun _ => fin_tup k rh (q1.append q2)⟩
          · intro z; rw [z] at n1; cases n1
          · intro z; rw [z] at n2; cases n2
    · cases e
  · cases e
theorem od_sub : OpD X T (binaryOp .Sub) dSub := by
  intro pins s σ H x y v u Q I rx ry ⟨G, h, dx, dy, d, rh, r1, r2, e, k⟩
  unfold dSub at e
  split at e
  · cases e
    cases r1; cases r2
    exact op_sub pins s σ H _ _ v u Q I rx ry ⟨_, _, rfl, rfl, fin_at k rh (.int _)⟩
  · cases e
theorem small_abs {i : Int} (h : i.natAbs < 2 ^ 64) : -(2 ^ 64) < i ∧ i < 2 ^ 64 := by omega
theorem mul_any {i j : Int} (h : mulOk i j = true) : IntMulOk i j := by
  unfold mulOk at h
  simp only [Bool.or_eq_true, decide_eq_true_eq] at h
  rcases h with (h | h) | h
  · exact CMul.ok (.inl (small_abs h))
  · exact CMul.ok (.inr (small_abs h))
  · exact CMulW.ok h
theorem len_rep {α : Type} (a : List α) : ∀ n : Nat, (List.replicate n a).flatten.length = a.length * n
  | 0 => by simp
  | n + 1 => by rw [List.replicate_succ, List.flatten_cons, List.length_append, len_rep a n, Nat.mul_succ]; omega
theorem flat_repS (a : List Nat) : ∀ (n : Nat) (acc : List Nat), (List.replicate n a.toArray).foldl (· ++ ·) acc.toArray = (acc ++ (List.replicate n a).flatten).toArray
  | 0, acc => by simp
  | n + 1, acc => by
    rw [List.replicate_succ, List.foldl_cons, List.replicate_succ, List.flatten_cons, List.append_toArray, flat_repS a n (acc ++ a), List.append_assoc]
theorem od_mul : OpD X T (binaryOp .Mult) dMul := by
  intro pins s σ H x y v u Q I rx ry ⟨G, h, dx, dy, d, rh, r1, r2, e, k⟩
  unfold dMul at e
  split at e
  · split at e
    · rename_i i j hm
      cases e
      cases r1; cases r2
      obtain ⟨t, rfl⟩ := rx
      obtain ⟨t', rfl⟩ := ry
      exact mul_int ⟨.int _, H, I.tok _, ⟨_, rfl⟩, fin_at k rh (.int _)⟩ (mul_any hm)
    · cases e
  · rename_i a n
    split at e
    · rename_i hf
      cases e
      simp only [Bool.and_eq_true, decide_eq_true_eq] at hf
      obtain ⟨⟨h1, h2⟩, hf⟩ := hf
      cases r1; cases r2
      obtain ⟨t, rfl⟩ := rx
      obtain ⟨t', rfl⟩ := ry
      have hlen : (S a).length = a.length := S_len a
      have hfit : a.length * n.toNat ≤ 16777216 := of_decide_eq_true hf
      refine PySem.P.mul_str ?_ ?_ ?_ ?_
      · rw [decide_eq_false (by omega), decide_eq_false (by omega)]; rfl
      · intro h3 h4 h5
        rw [hlen] at h5
        have hn : 0 < n := by omega
        have h6 : (2 ^ 63 - 1 : Int) / n < a.length := h5
        have h7 := (Int.ediv_lt_iff_lt_mul hn).mp h6
        have h8 : (a.length : Int) * n = ((a.length * n.toNat : Nat) : Int) := by
          rw [Int.natCast_mul, Int.toNat_of_nonneg (by omega)]
        rw [h8] at h7
        omega
      · intro _ _
        rw [hlen]
        unfold Builtin.Str.tooLong
        rw [sizeLine_eq]
        exact decide_eq_false (by omega)
      · have fin : ∀ (z : Str) (w : Tok) (tk : Nat), z = S (List.replicate n.toNat a).flatten → EP X pins σ Q (.str z w) { s with toks := tk } := fun z w tk ez => by
          subst ez
          exact ⟨.str _, H, I.tok _, ⟨_, rfl⟩, fin_at k rh (.str _)⟩
        have eS : (⟨(List.replicate n.toNat (S a).cps).foldl (· ++ ·) #[]⟩ : Str) = S (List.replicate n.toNat a).flatten := by
          show (⟨(List.replicate n.toNat a.toArray).foldl (· ++ ·) ([] : List Nat).toArray⟩ : Str) = _
          rw [flat_repS, List.nil_append]
        have hsz : (S (List.replicate n.toNat a).flatten).length ≤ sizeLine := by
          rw [S_len, sizeLine_eq, len_rep]
          exact hfit
        split
        · rename_i h3
          have e0 : n.toNat = 0 := by omega
          refine ⟨by decide, fin _ _ _ ?_⟩
          rw [e0]; rfl
        · split
          · rename_i h3 h4
            simp only [Bool.or_eq_true, beq_iff_eq] at h4
            refine fin _ _ s.toks ?_
            rcases h4 with h4 | h4
            · subst h4; simp
            · rw [hlen] at h4
              have : a = [] := List.length_eq_zero_iff.mp h4
              subst this
              simp
          · rw [eS]
            exact ⟨hsz, fin _ _ _ rfl⟩
    · cases e
  · rename_i a n
    split at e
    · rename_i hf
      cases e
      simp only [Bool.and_eq_true, decide_eq_true_eq] at hf
      obtain ⟨⟨h1, h2⟩, hf⟩ := hf
      cases r2
      cases r1 with
      | lst e1 q1 =>
        refine op_rep pins s σ H _ _ v u Q I rx ry ⟨_, _, _, rfl, rfl, rh.F _ _ e1, h1, h2, by rw [← q1.length]; exact fits_ok hf, fin_lst k rh ?_⟩
        have rep : ∀ m : Nat, RDs X.K G (List.replicate m a).flatten (List.replicate m _).flatten := fun m => by
          induction m with
          | zero => exact .nil
          | succ m ih => rw [List.replicate_succ, List.replicate_succ, List.flatten_cons, List.flatten_cons]; exact q1.append ih
        exact rep _
    · cases e
  · cases e
theorem od_div : OpD X T (binaryOp .FloorDiv) dDiv := by
  intro pins s σ H x y v u Q I rx ry ⟨G, h, dx, dy, d, rh, r1, r2, e, k⟩
  unfold dDiv at e
  split at e
  · split at e
    · rename_i hf
      cases e
      simp only [Bool.and_eq_true, decide_eq_true_eq] at hf
      cases r1; cases r2
      exact op_fdivW pins s σ H _ _ v u Q I rx ry ⟨_, _, rfl, rfl, hf, fin_at k rh (.int _)⟩
    · cases e
  · cases e
theorem od_mod : OpD X T (binaryOp .Mod) dMod := by
  intro pins s σ H x y v u Q I rx ry ⟨G, h, dx, dy, d, rh, r1, r2, e, k⟩
  unfold dMod at e
  split at e
  · split at e
    · rename_i hf
      cases e
      cases r1; cases r2
      exact op_mod pins s σ H _ _ v u Q I rx ry ⟨_, _, rfl, rfl, hf, fin_at k rh (.int _)⟩
    · cases e
  · cases e
theorem od_pow : OpD X T (binaryOp .Pow) dPow := by
  intro pins s σ H x y v u Q I rx ry ⟨G, h, dx, dy, d, rh, r1, r2, e, k⟩
  unfold dPow at e
  split at e
  · split at e
    · rename_i hf
      cases e
      simp only [Bool.and_eq_true, decide_eq_true_eq] at hf
      cases r1; cases r2
      exact op_pow pins s σ H _ _ v u Q I rx ry ⟨_, _, rfl, rfl, ⟨hf.1.1, hf.1.2, hf.2⟩, fin_at k rh (.int _)⟩
    · cases e
  · cases e
/-! ### op= -/
theorem oi_add : OpD X T (inplaceOp .Add) (fun a b => match a, b with
    | .int i, .int j => some (.int (i + j))
    | .str a, .str b => if fits (a.length + b.length) then some (.str (a ++ b)) else none
    | _, _ => none) := by
  intro pins s σ H x y v u Q I rx ry ⟨G, h, dx, dy, d, rh, r1, r2, e, k⟩
  dsimp only at e
  split at e
  · cases e
    cases r1; cases r2
    exact iop_add pins s σ H _ _ v u Q I rx ry ⟨_, _, rfl, rfl, fin_at k rh (.int _)⟩
  · split at e
    · rename_i hf
      cases e
      cases r1; cases r2
      refine iop_add_str pins s σ H _ _ v u Q I rx ry ⟨_, _, rfl, rfl, by rw [S_len, S_len]; exact fits_ok hf, ?_⟩
      rw [S_app]
      exact fin_at k rh (.str _)
    · cases e
  · cases e
def dIAdd : D → D → Option D := fun a b => match a, b with
    | .int i, .int j => some (.int (i + j))
    | .str a, .str b => if fits (a.length + b.length) then some (.str (a ++ b)) else none
    | _, _ => none
theorem oi_addD : OpD X T (inplaceOp .Add) dIAdd := oi_add
theorem oi_sub : OpD X T (inplaceOp .Sub) dSub := by
  intro pins s σ H x y v u Q I rx ry ⟨G, h, dx, dy, d, rh, r1, r2, e, k⟩
  unfold dSub at e
  split at e
  · cases e
    cases r1; cases r2
    exact iop_sub pins s σ H _ _ v u Q I rx ry ⟨_, _, rfl, rfl, fin_at k rh (.int _)⟩
  · cases e
def dIMul : D → D → Option D
  | .int i, .int j => if mulOk i j then some (.int (i * j)) else none
  | _, _ => none
theorem oi_mul : OpD X T (inplaceOp .Mult) dIMul := by
  intro pins s σ H x y v u Q I rx ry ⟨G, h, dx, dy, d, rh, r1, r2, e, k⟩
  unfold dIMul at e
  split at e
  · split at e
    · rename_i hm
      cases e
      cases r1; cases r2
      obtain ⟨t, rfl⟩ := rx
      obtain ⟨t', rfl⟩ := ry
      exact imul_int ⟨.int _, H, I.tok _, ⟨_, rfl⟩, fin_at k rh (.int _)⟩ (mul_any hm)
    · cases e
  · cases e
theorem oi_div : OpD X T (inplaceOp .FloorDiv) dDiv := by
  intro pins s σ H x y v u Q I rx ry ⟨G, h, dx, dy, d, rh, r1, r2, e, k⟩
  unfold dDiv at e
  split at e
  · split at e
    · rename_i hf
      cases e
      simp only [Bool.and_eq_true, decide_eq_true_eq] at hf
      cases r1; cases r2
      exact iop_fdivW pins s σ H _ _ v u Q I rx ry ⟨_, _, rfl, rfl, hf, fin_at k rh (.int _)⟩
    · cases e
  · cases e
/-! ### -n -/
def eUn (f : D → Option D) (a : Ev) : Ev := fun ρ h => (a ρ h).bind fun x h1 => liftO h1 (f x)
def dNeg : D → Option D
  | .int i => some (.int (-i))
  | _ => none
theorem de_neg {W : WX} {a : Expr} {ma : Ev} {pos : Pos} (ha : DE X T W a ma) : DE X T W (.UnaryOp .USub a pos) (eUn dNeg ma) := ⟨PE.imp (pe_un un_neg ha.p) fun σ H Q ⟨G, ρ, h, re, rh, p⟩ => by
  refine ⟨G, ρ, h, re, rh, ?_⟩
  unfold eUn at p
  cases e1 : ma ρ h with
  | ok x h1 =>
    rw [e1] at p
    intro G1 H1 v l1 rh1 rd1
    cases rd1 with
    | int i => exact ⟨i, rfl, p G1 H1 _ l1 rh1 (.int _)⟩
    | _ => exact p.elim
  | exc c h1 => rw [e1] at p; exact p
  | err => rw [e1] at p; exact p⟩
end
end Sh

set_option Elab.async false
set_option linter.all false
set_option maxRecDepth 100000
set_option maxHeartbeats 4000000
/-! Sh5: comparisons, subscripts, slices, displays, calls of built-ins. -/
namespace Sh
open PySem PySem.Spec PyProof.Rows L2

/-! ### == and != -/
mutual
def toPy : D → Option PyData
  | .non => some .none
  | .bl b => some (.bool b)
  | .int i => some (.int i)
  | .str x => some (.str (S x))
  | .tup xs => (toPys xs).map .tuple
  | .lst xs => (toPys xs).map .list
  | .fls xs => (toPys xs).map .list
  | _ => none
def toPys : List D → Option (List PyData)
  | [] => some []
  | x :: xs => match toPy x, toPys xs with
    | some p, some ps => some (p :: ps)
    | _, _ => none
end
section
variable {K : PySem.W.Frag} {G : Gh} {H : Hp} (hF : ∀ a o, G.F a = some o → H a = some o)
include hF
mutual
theorem dp_of : ∀ {d : D} {v : V} {p : PyData}, RD K G d v → toPy d = some p → Dp K H v p
  | _, _, _, .non, e => by cases e; exact .non
  | _, _, _, .bl b, e => by cases e; exact .bl b
  | _, _, _, .int b, e => by cases e; exact .int b
  | _, _, _, .str b, e => by cases e; exact .str _
  | .tup xs, _, p, .tup q r, e => by
    unfold toPy at e
    cases e1 : toPys xs with
    | none => rw [e1] at e; cases e
    | some ps => rw [e1] at e; cases e; exact .tup (SqT.mono q hF) (dps_of r e1)
  | .lst xs, _, p, .lst q r, e => by
    unfold toPy at e
    cases e1 : toPys xs with
    | none => rw [e1] at e; cases e
    | some ps => rw [e1] at e; cases e; exact .lst (SqL.of (hF _ _ q)) (dps_of r e1)
  | .fls xs, _, p, .fls q r, e => by
    unfold toPy at e
    cases e1 : toPys xs with
    | none => rw [e1] at e; cases e
    | some ps => rw [e1] at e; cases e; exact .lst (SqL.mono q hF) (dps_of r e1)
  | _, _, _, .dic _ _, e => by cases e
  | _, _, _, .obj _, e => by cases e
theorem dps_of : ∀ {d : List D} {v : List V} {p : List PyData}, RDs K G d v → toPys d = some p → DpAll K H v p
  | _, _, _, .nil, e => by cases e; exact .nil
  | x :: xs, _, _, .cons q r, e => by
    unfold toPys at e
    cases e1 : toPy x with
    | none => rw [e1] at e; cases e
    | some p =>
      cases e2 : toPys xs with
      | none => rw [e1, e2] at e; cases e
      | some ps => rw [e1, e2] at e; cases e; exact .cons (dp_of q e1) (dps_of r e2)
end
end
/-- == of data -/
def eqB (a b : D) : Option Bool := match a, b with
  | .int i, .int j => some (i == j)
  | .str x, .str y => some (x == y)
  | .bl x, .bl y => some (x == y)
  | a, b => match toPy a, toPy b with
    | some p, some q => if SeqAt.shaped p && SeqAt.shaped q then some (PyData.eqv p q) else none
    | _, _ => none
def dEq (a b : D) : Option D := (eqB a b).map .bl
def dNe (a b : D) : Option D := (eqB a b).map fun k => .bl (!k)
section
variable {X : Cx} {T : Tb} {W : WX} {pos : Pos} {a b c : Expr} {ma mb mc : Ev} {f g : D → D → Option D}
theorem eqB_red {G : Gh} {h : LH} {H : Hp} {dx dy : D} {x y : V} {k : Bool} (rh : RH X.K T G h H) (r1 : RD X.K G dx x) (r2 : RD X.K G dy y) (e : eqB dx dy = some k) :
    (scal x y = true ∧ decide (x = y) = k) ∨ ∃ p q, Dp X.K H x p ∧ Dp X.K H y q ∧ SeqAt.shaped p = true ∧ SeqAt.shaped q = true ∧ PyData.eqv p q = k := by
  unfold eqB at e
  split at e
  · cases e; cases r1; cases r2
    exact .inl ⟨rfl, dec_int⟩
  · cases e; cases r1; cases r2
    exact .inl ⟨rfl, by rw [dec_str, S_beq]⟩
  · cases e; cases r1; cases r2
    exact .inl ⟨rfl, dec_bl⟩
  · split at e
    · rename_i p q e1 e2
      split at e
      · rename_i hs
        cases e
        simp only [Bool.and_eq_true] at hs
        exact .inr ⟨p, q, dp_of rh.F r1 e1, dp_of rh.F r2 e2, hs.1, hs.2, rfl⟩
      · cases e
    · cases e
theorem od_eq (hu : X.A.units + 64 < cLine) : OpD X T (compareOp .Eq) dEq := by
  intro pins s σ H x y v u Q I rx ry ⟨G, h, dx, dy, d, rh, r1, r2, e, k⟩
  unfold dEq at e
  cases e1 : eqB dx dy with
  | none => rw [e1] at e; cases e
  | some b =>
    rw [e1] at e; cases e
    rcases eqB_red rh r1 r2 e1 with ⟨q1, q2⟩ | ⟨p, q, q1, q2, q3, q4, q5⟩
    · exact op_eq pins s σ H x y v u Q I rx ry ⟨q1, by rw [q2]; exact fin_at k rh (.bl _)⟩
    · exact op_eqD hu pins s σ H x y v u Q I rx ry ⟨p, q, q1, q2, q3, q4, by rw [q5]; exact fin_at k rh (.bl _)⟩
theorem od_ne (hu : X.A.units + 64 < cLine) : OpD X T (compareOp .NotEq) dNe := by
  intro pins s σ H x y v u Q I rx ry ⟨G, h, dx, dy, d, rh, r1, r2, e, k⟩
  unfold dNe at e
  cases e1 : eqB dx dy with
  | none => rw [e1] at e; cases e
  | some b =>
    rw [e1] at e; cases e
    rcases eqB_red rh r1 r2 e1 with ⟨q1, q2⟩ | ⟨p, q, q1, q2, q3, q4, q5⟩
    · exact op_ne pins s σ H x y v u Q I rx ry ⟨q1, by rw [q2]; exact fin_at k rh (.bl _)⟩
    · exact op_neD hu pins s σ H x y v u Q I rx ry ⟨p, q, q1, q2, q3, q4, by rw [q5]; exact fin_at k rh (.bl _)⟩
/-! ### < <= > >= -/
def dLt : D → D → Option D
  | .int i, .int j => some (.bl (decide (i < j)))
  | .str a, .str b => some (.bl (decide (a < b)))
  | _, _ => none
def dLe : D → D → Option D
  | .int i, .int j => some (.bl (decide (i ≤ j)))
  | .str a, .str b => some (.bl (!decide (b < a)))
  | _, _ => none
def dGt : D → D → Option D
  | .int i, .int j => some (.bl (decide (j < i)))
  | .str a, .str b => some (.bl (decide (b < a)))
  | _, _ => none
def dGe : D → D → Option D
  | .int i, .int j => some (.bl (decide (j ≤ i)))
  | .str a, .str b => some (.bl (!decide (a < b)))
  | _, _ => none
theorem od_lt : OpD X T (compareOp .Lt) dLt := by
  intro pins s σ H x y v u Q I rx ry ⟨G, h, dx, dy, d, rh, r1, r2, e, k⟩
  unfold dLt at e
  split at e
  · cases e; cases r1; cases r2
    exact op_lt pins s σ H _ _ v u Q I rx ry ⟨_, _, rfl, rfl, fin_at k rh (.bl _)⟩
  · cases e; cases r1; cases r2
    exact op_lt_str pins s σ H _ _ v u Q I rx ry ⟨_, _, rfl, rfl, fin_at k rh (.bl _)⟩
  · cases e
theorem od_le : OpD X T (compareOp .LtE) dLe := by
  intro pins s σ H x y v u Q I rx ry ⟨G, h, dx, dy, d, rh, r1, r2, e, k⟩
  unfold dLe at e
  split at e
  · cases e; cases r1; cases r2
    exact op_le pins s σ H _ _ v u Q I rx ry ⟨_, _, rfl, rfl, fin_at k rh (.bl _)⟩
  · cases e; cases r1; cases r2
    exact op_le_str pins s σ H _ _ v u Q I rx ry ⟨_, _, rfl, rfl, fin_at k rh (.bl _)⟩
  · cases e
theorem od_gt : OpD X T (compareOp .Gt) dGt := by
  intro pins s σ H x y v u Q I rx ry ⟨G, h, dx, dy, d, rh, r1, r2, e, k⟩
  unfold dGt at e
  split at e
  · cases e; cases r1; cases r2
    exact op_gt pins s σ H _ _ v u Q I rx ry ⟨_, _, rfl, rfl, fin_at k rh (.bl _)⟩
  · cases e; cases r1; cases r2
    exact op_gt_str pins s σ H _ _ v u Q I rx ry ⟨_, _, rfl, rfl, fin_at k rh (.bl _)⟩
  · cases e
theorem od_ge : OpD X T (compareOp .GtE) dGe := by
  intro pins s σ H x y v u Q I rx ry ⟨G, h, dx, dy, d, rh, r1, r2, e, k⟩
  unfold dGe at e
  split at e
  · cases e; cases r1; cases r2
    exact op_ge pins s σ H _ _ v u Q I rx ry ⟨_, _, rfl, rfl, fin_at k rh (.bl _)⟩
  · cases e; cases r1; cases r2
    exact op_ge_str pins s σ H _ _ v u Q I rx ry ⟨_, _, rfl, rfl, fin_at k rh (.bl _)⟩
  · cases e
/-! ### in, not in -/
def flatD : D → Option V
  | .non => some .non
  | .bl b => some (.bl b)
  | .int i => some (.int i)
  | .str x => some (.str (S x))
  | _ => none
def eqF (x y : D) : Bool := match x, y with
  | .non, .non => true
  | .bl a, .bl b => a == b
  | .bl a, .int b => (if a then 1 else 0) == b
  | .int a, .bl b => a == (if b then 1 else 0)
  | .int a, .int b => a == b
  | .str a, .str b => a == b
  | _, _ => false
def flatB' : D → Bool
  | .non => true
  | .bl _ => true
  | .int _ => true
  | .str _ => true
  | _ => false
theorem flat_rd {K : PySem.W.Frag} {G : Gh} {d : D} {v : V} (r : RD K G d v) (f : flatB' d = true) : flatV v = true := by
  cases r <;> first | rfl | cases f
theorem flats_rd {K : PySem.W.Frag} {G : Gh} : ∀ {d : List D} {v : List V}, RDs K G d v → d.all flatB' = true → v.all flatV = true
  | _, _, .nil, _ => rfl
  | _, _, .cons q r, f => by
    rw [List.all_cons, Bool.and_eq_true] at f ⊢
    exact ⟨flat_rd q f.1, flats_rd r f.2⟩
theorem eqF_rd {K : PySem.W.Frag} {G : Gh} {d d' : D} {v v' : V} (r : RD K G d v) (r' : RD K G d' v') (f : flatB' d = true) (f' : flatB' d' = true) : eqV v v' = eqF d d' := by
  cases r <;> first | exact Bool.noConfusion f | (cases r' <;> first | exact Bool.noConfusion f' | rfl | exact S_beq _ _)
theorem inV_rd {K : PySem.W.Frag} {G : Gh} {d : D} {v : V} (r : RD K G d v) (f : flatB' d = true) : ∀ {ds : List D} {vs : List V}, RDs K G ds vs → ds.all flatB' = true → inV v vs = ds.any fun y => eqF y d
  | _, _, .nil, _ => rfl
  | _, _, .cons q t, h => by
    rw [List.all_cons, Bool.and_eq_true] at h
    have ih := inV_rd r f t h.2
    unfold inV at ih ⊢
    rw [List.any_cons, List.any_cons, ih, eqF_rd q r h.1 f]
/-- one text in another: the first place -/
def inStr (x y : List Nat) : Bool := !(Builtin.Str.occurrences (S y) (S x) 0 (S y).length 1).isEmpty
theorem inStr_one (c : Nat) (y : List Nat) : inStr [c] y = decide (c ∈ y) := StrLaws.found_one (S y) c
def inB (x y : D) : Option Bool := match x, y with
  | .str x, .str y => some (inStr x y)
  | x, .tup ys => if flatB' x && ys.all flatB' then some (ys.any fun y => eqF y x) else none
  | x, .lst ys => if flatB' x && ys.all flatB' then some (ys.any fun y => eqF y x) else none
  | x, .fls ys => if flatB' x && ys.all flatB' then some (ys.any fun y => eqF y x) else none
  | _, _ => none
def dIn (a b : D) : Option D := (inB a b).map .bl
def dNotIn (a b : D) : Option D := (inB a b).map fun k => .bl (!k)
theorem od_in : OpD X T (compareOp .In) dIn := by
  intro pins s σ H x y v u Q I rx ry ⟨G, h, dx, dy, d, rh, r1, r2, e, k⟩
  unfold dIn inB at e
  split at e
  · cases e; cases r1; cases r2
    exact op_in_str pins s σ H _ _ v u Q I rx ry ⟨_, _, rfl, rfl, fin_at k rh (.bl _)⟩
  · split at e
    · rename_i hf
      cases e
      simp only [Bool.and_eq_true] at hf
      cases r2 with
      | tup q2 w2 =>
        refine op_in_seq pins s σ H _ _ v u Q I rx ry ⟨_, _, rfl, .inr (SqT.mono q2 rh.F), flat_rd r1 hf.1, flats_rd w2 hf.2, ?_⟩
        rw [if_neg Bool.false_ne_true, inV_rd r1 hf.1 w2 hf.2]
        exact fin_at k rh (.bl _)
    · cases e
  · split at e
    · rename_i hf
      cases e
      simp only [Bool.and_eq_true] at hf
      cases r2 with
      | lst q2 w2 =>
        refine op_in_seq pins s σ H _ _ v u Q I rx ry ⟨_, _, rfl, .inl (SqL.of (rh.F _ _ q2)), flat_rd r1 hf.1, flats_rd w2 hf.2, ?_⟩
        rw [if_neg Bool.false_ne_true, inV_rd r1 hf.1 w2 hf.2]
        exact fin_at k rh (.bl _)
    · cases e
  · split at e
    · rename_i hf
      cases e
      simp only [Bool.and_eq_true] at hf
      cases r2 with
      | fls q2 w2 =>
        refine op_in_seq pins s σ H _ _ v u Q I rx ry ⟨_, _, rfl, .inl (SqL.mono q2 rh.F), flat_rd r1 hf.1, flats_rd w2 hf.2, ?_⟩
        rw [if_neg Bool.false_ne_true, inV_rd r1 hf.1 w2 hf.2]
        exact fin_at k rh (.bl _)
    · cases e
  · cases e
theorem od_notIn : OpD X T (compareOp .NotIn) dNotIn := by
  intro pins s σ H x y v u Q I rx ry ⟨G, h, dx, dy, d, rh, r1, r2, e, k⟩
  unfold dNotIn inB at e
  split at e
  · cases e; cases r1; cases r2
    exact L2.op_notIn_str pins s σ H _ _ v u Q I rx ry ⟨_, _, rfl, rfl, fin_at k rh (.bl _)⟩
  · split at e
    · rename_i hf
      cases e
      simp only [Bool.and_eq_true] at hf
      cases r2 with
      | tup q2 w2 =>
        refine op_notIn_seq pins s σ H _ _ v u Q I rx ry ⟨_, _, rfl, .inr (SqT.mono q2 rh.F), flat_rd r1 hf.1, flats_rd w2 hf.2, ?_⟩
        rw [if_pos rfl, inV_rd r1 hf.1 w2 hf.2]
        exact fin_at k rh (.bl _)
    · cases e
  · split at e
    · rename_i hf
      cases e
      simp only [Bool.and_eq_true] at hf
      cases r2 with
      | lst q2 w2 =>
        refine op_notIn_seq pins s σ H _ _ v u Q I rx ry ⟨_, _, rfl, .inl (SqL.of (rh.F _ _ q2)), flat_rd r1 hf.1, flats_rd w2 hf.2, ?_⟩
        rw [if_pos rfl, inV_rd r1 hf.1 w2 hf.2]
        exact fin_at k rh (.bl _)
    · cases e
  · split at e
    · rename_i hf
      cases e
      simp only [Bool.and_eq_true] at hf
      cases r2 with
      | fls q2 w2 =>
        refine op_notIn_seq pins s σ H _ _ v u Q I rx ry ⟨_, _, rfl, .inl (SqL.mono q2 rh.F), flat_rd r1 hf.1, flats_rd w2 hf.2, ?_⟩
        rw [if_pos rfl, inV_rd r1 hf.1 w2 hf.2]
        exact fin_at k rh (.bl _)
    · cases e
  · cases e
/-! ### displays -/
def eTup (m : Av) : Ev := fun ρ h => (m ρ h).bind fun ds h1 => if fits ds.length then .ok (.tup ds) h1 else .err
def eLst (m : Av) : Ev := fun ρ h => (m ρ h).bind fun ds h1 => if fits ds.length then .ok (.lst ds) h1 else .err
/-- a list that will be changed -/
def eNew (m : Av) : Ev := fun ρ h => (m ρ h).bind fun ds h1 => if fits ds.length then .ok (.obj h1.length) (h1 ++ [.lst ds]) else .err
variable {es : List Expr} {mas : Av}
theorem de_tup {k : Nat} (ha : DA X T W es mas) : DE X T W (.Tuple es k pos) (eTup mas) := ⟨PE.imp (pe_tup ha.p) fun σ H Q ⟨G, ρ, h, re, rh, p⟩ => by
  refine ⟨G, ρ, h, re, rh, ?_⟩
  unfold eTup at p
  cases e1 : mas ρ h with
  | ok ds h1 =>
    rw [e1] at p
    intro G1 H1 v l1 rh1 rd1
    simp only [Res.bind] at p
    split at p
    · rename_i hf
      exact ⟨by rw [← rd1.length]; exact fits_ok hf, fin_tup (fun G' H' z l r d => p G' H' z (l1.trans l) r d) rh1 rd1⟩
    · exact p.elim
  | exc c h1 => rw [e1] at p; exact p
  | err => rw [e1] at p; exact p⟩
theorem de_lst (ha : DA X T W es mas) : DE X T W (.List es pos) (eLst mas) := ⟨PE.imp (pe_lst ha.p) fun σ H Q ⟨G, ρ, h, re, rh, p⟩ => by
  refine ⟨G, ρ, h, re, rh, ?_⟩
  unfold eLst at p
  cases e1 : mas ρ h with
  | ok ds h1 =>
    rw [e1] at p
    intro G1 H1 v l1 rh1 rd1
    simp only [Res.bind] at p
    split at p
    · rename_i hf
      exact ⟨by rw [← rd1.length]; exact fits_ok hf, fin_lst (fun G' H' z l r d => p G' H' z (l1.trans l) r d) rh1 rd1⟩
    · exact p.elim
  | exc c h1 => rw [e1] at p; exact p
  | err => rw [e1] at p; exact p⟩
theorem fin_new {G : Gh} {h : LH} {H : Hp} {Q : VK} {o : LO} {u : HO} (k : ∀ G' H' z, G.le G' → RH X.K T G' (h ++ [o]) H' → RD X.K G' (.obj h.length) z → Q z H') (rh : RH X.K T G h H) : ∀ p, H p = none → RO X.K (G.add p) p o u → Q (.ref p) (upd H p u) := fun p hp q =>
  k (G.add p) _ _ Gh.add_le (rh.add hp q) (.obj (by rw [← rh.len]; exact Gh.add_at))
theorem de_new (ha : DA X T W es mas) : DE X T W (.List es pos) (eNew mas) := ⟨PE.imp (pe_lst ha.p) fun σ H Q ⟨G, ρ, h, re, rh, p⟩ => by
  refine ⟨G, ρ, h, re, rh, ?_⟩
  unfold eNew at p
  cases e1 : mas ρ h with
  | ok ds h1 =>
    rw [e1] at p
    intro G1 H1 v l1 rh1 rd1
    simp only [Res.bind] at p
    split at p
    · rename_i hf
      exact ⟨by rw [← rd1.length]; exact fits_ok hf, fun q hq => fin_new (fun G' H' z l r d => p G' H' z (l1.trans l) r d) rh1 q hq (.lst (rd1.mono Gh.add_le))⟩
    · exact p.elim
  | exc c h1 => rw [e1] at p; exact p
  | err => rw [e1] at p; exact p⟩
/-! ### subscripts -/
def keyD : D → Option Key
  | .int i => some (.inl i)
  | .str x => some (.inr (S x))
  | _ => none
theorem keyD_rd {K : PySem.W.Frag} {G : Gh} {d : D} {v : V} {k : Key} (r : RD K G d v) (e : keyD d = some k) : v = kV k := by
  cases r <;> first | (cases e; done) | (cases e; rfl)
def lookD : List (Key × D) → Key → Option D
  | [], _ => none
  | (j, d) :: r, k => if j = k then some d else lookD r k
theorem lookD_rd {K : PySem.W.Frag} {G : Gh} : ∀ {kvs : List (Key × D)} {vs : List (Key × V)} {k : Key}, RKs K G kvs vs → (∀ d, lookD kvs k = some d → ∃ v, valV vs k = some v ∧ RD K G d v) ∧ (lookD kvs k = none → valV vs k = none)
  | _, _, k, .nil => ⟨fun _ e => (nomatch e), fun _ => rfl⟩
  | _, _, k, .cons (k := j) q t => by
    unfold lookD
    by_cases h : j = k
    · subst h
      exact ⟨fun d' e => by rw [if_pos rfl] at e; cases e; exact ⟨_, valV_pos rfl, q⟩, fun e => by rw [if_pos rfl] at e; cases e⟩
    · obtain ⟨i1, i2⟩ := lookD_rd (k := k) t
      exact ⟨fun d' e => by rw [if_neg h] at e; rw [valV_neg h]; exact i1 d' e, fun e => by rw [if_neg h] at e; rw [valV_neg h]; exact i2 e⟩
/-- a[b] -/
def dIx (h : LH) : D → D → Option D
  | .lst xs, .int i => atI xs i
  | .tup xs, .int i => atI xs i
  | .fls xs, .int i => atI xs i
  | .str a, .int i => if fits a.length then (atI a i).map fun c => .str [c] else none
  | .dic kvs, k => (keyD k).bind fun k => lookD kvs k
  | .obj n, k => match h[n]? with
    | some (.lst xs) => (match k with
      | .int i => atI xs i
      | _ => none)
    | some (.dic kvs) => (keyD k).bind fun k => lookD kvs k
    | _ => none
  | _, _ => none
def rIxH (K : PySem.W.Frag) (T : Tb) : R2 := fun x y H Q => ∃ G h dx dy d, RH K T G h H ∧ RD K G dx x ∧ RD K G dy y ∧ dIx h dx dy = some d ∧ ∀ G' H' z, G.le G' → RH K T G' h H' → RD K G' d z → Q z H'
theorem atI_rd {K : PySem.W.Frag} {G : Gh} {xs : List D} {vs : List V} {i : Int} {d : D} (r : RDs K G xs vs) (e : atI xs i = some d) : ∃ v, atI vs i = some v ∧ RD K G d v := by
  unfold atI at e ⊢
  rw [← r.length]
  cases e1 : ixN xs.length i with
  | none => rw [e1] at e; cases e
  | some j =>
    rw [e1] at e
    exact r.get e
theorem ix_red (hu : X.A.units + 1 < cLine) : IxR X (rIxH X.K T) := by
  intro value slice pins s σ H x y v u Q I rx ry ⟨G, h, dx, dy, d, rh, r1, r2, e, k⟩ hs
  unfold dIx at e
  split at e
  · cases r2
    cases r1 with
    | lst q w =>
      obtain ⟨z, e1, e2⟩ := atI_rd w e
      exact ix_list value slice pins s σ H _ _ v u Q I rx ry ⟨_, _, _, z, rfl, rfl, SqL.of (rh.F _ _ q), e1, fin_at k rh e2⟩ hs
  · cases r2
    cases r1 with
    | tup q w =>
      obtain ⟨z, e1, e2⟩ := atI_rd w e
      exact ix_tup value slice pins s σ H _ _ v u Q I rx ry ⟨_, _, _, z, rfl, rfl, SqT.mono q rh.F, e1, fin_at k rh e2⟩ hs
  · cases r2
    cases r1 with
    | fls q w =>
      obtain ⟨z, e1, e2⟩ := atI_rd w e
      exact ix_list value slice pins s σ H _ _ v u Q I rx ry ⟨_, _, _, z, rfl, rfl, SqL.mono q rh.F, e1, fin_at k rh e2⟩ hs
  · rename_i a i
    cases r2; cases r1
    split at e
    · rename_i hf
      cases e1 : atI a i with
      | none => rw [e1] at e; cases e
      | some c =>
        rw [e1] at e; cases e
        exact ix_str value slice pins s σ H _ _ v u Q I rx ry ⟨_, _, c, rfl, rfl, by rw [S_len]; exact fits_ok hf, e1, fin_at k rh (.str [c])⟩ hs
    · cases e
  · rename_i kvs
    cases e1 : keyD dy with
    | none => rw [e1] at e; cases e
    | some key =>
      rw [e1] at e
      have ey := keyD_rd r2 e1
      subst ey
      cases r1 with
      | dic q w =>
        obtain ⟨z, e2, e3⟩ := (lookD_rd (k := key) w).1 d e
        cases rx
        have g := DGet.k (k := key) (rh.F _ _ q)
        rw [e2] at g
        exact tail_any (dict_typeIs I g) slot_dict_getitem.lookup (d_getItem hu I g ry fun w' s' I' r' => ⟨z, H, I', r', fin_at k rh e3⟩) hs
  · rename_i n
    cases r1 with
    | obj ea =>
      split at e
      · rename_i xs eo
        split at e
        · obtain ⟨hu', q1, q2⟩ := rh.at eo ea (fun z => by cases z)
          cases q2 with
          | lst w =>
            cases r2
            obtain ⟨z, e1, e2⟩ := atI_rd w e
            exact ix_list value slice pins s σ H _ _ v u Q I rx ry ⟨_, _, _, z, rfl, rfl, SqL.of q1, e1, fin_at k rh e2⟩ hs
        · cases e
      · rename_i kvs eo
        cases e1 : keyD dy with
        | none => rw [e1] at e; cases e
        | some key =>
          rw [e1] at e
          have ey := keyD_rd r2 e1
          subst ey
          obtain ⟨hu', q1, q2⟩ := rh.at eo ea (fun z => by cases z)
          cases rx
          cases q2 with
          | dic w =>
            obtain ⟨z, e2, e3⟩ := (lookD_rd (k := key) w).1 d e
            have g := DGet.k (k := key) q1
            rw [e2] at g
            exact tail_any (dict_typeIs I g) slot_dict_getitem.lookup (d_getItem hu I g ry fun w' s' I' r' => ⟨z, H, I', r', fin_at k rh e3⟩) hs
      · cases e
  · cases e
def eIx (a b : Ev) : Ev := fun ρ h => (a ρ h).bind fun x h1 => (b ρ h1).bind fun y h2 => liftO h2 (dIx h2 x y)
theorem de_ix (hu : X.A.units + 1 < cLine) (ha : DE X T W a ma) (hb : DE X T W b mb) (hs : PlainIx b := by exact fun _ _ => rfl) : DE X T W (.Subscript a b pos) (eIx ma mb) := ⟨PE.imp (pe_ix (ix_red hu) ha.p hb.p hs) fun σ H Q ⟨G, ρ, h, re, rh, p⟩ => by
  refine ⟨G, ρ, h, re, rh, ?_⟩
  unfold eIx at p
  cases e1 : ma ρ h with
  | ok x h1 =>
    rw [e1] at p
    intro G1 H1 v1 l1 rh1 rd1
    refine ⟨G1, ρ, h1, re.mono l1, rh1, ?_⟩
    simp only [Res.bind] at p
    cases e2 : mb ρ h1 with
    | ok y h2 =>
      rw [e2] at p
      simp only [Res.bind] at p
      intro G2 H2 v2 l2 rh2 rd2
      cases e3 : dIx h2 x y with
      | some d => rw [e3] at p; exact ⟨G2, h2, x, y, d, rh2, rd1.mono l2, rd2, e3, fun G3 H3 z l3 r3 q3 => p G3 H3 z ((l1.trans l2).trans l3) r3 q3⟩
      | none => rw [e3] at p; exact p.elim
    | exc c h2 => rw [e2] at p; exact fun G2 H2 l2 rh2 => p G2 H2 (l1.trans l2) rh2
    | err => rw [e2] at p; exact p.elim
  | exc c h1 => rw [e1] at p; exact p
  | err => rw [e1] at p; exact p.elim⟩
end
end Sh

set_option Elab.async false
set_option linter.all false
set_option maxRecDepth 100000
set_option maxHeartbeats 4000000
/-! Sh6: list comprehensions. -/
namespace Sh
open PySem PySem.Spec PyProof.Rows L2

def wipeD (ρ : En) : List Nat → En
  | [] => ρ
  | v :: vs => (wipeD ρ vs).set v none
theorem RE.none {K : PySem.W.Frag} {G : Gh} {ρ : En} {σ : L2.St} (re : RE K G ρ σ) (i : Nat) : RE K G (ρ.set i none) (σ.set i none) := by
  refine ⟨by rw [List.length_set, List.length_set]; exact re.len, fun j d' e => ?_⟩
  by_cases hj : j = i
  · subst hj
    by_cases hl : j < ρ.length
    · rw [List.getElem?_set_self hl] at e; cases e
    · rw [List.getElem?_eq_none (by rw [List.length_set]; omega)] at e; cases e
  · rw [List.getElem?_set_ne (Ne.symm hj)] at e ⊢
    exact re.get j d' e
theorem RE.wipe {K : PySem.W.Frag} {G : Gh} {ρ : En} {σ : L2.St} (re : RE K G ρ σ) : ∀ vs : List Nat, RE K G (wipeD ρ vs) (L2.wipe σ vs)
  | [] => re
  | v :: vs => (RE.wipe re vs).none v
theorem wipe_get {σ : L2.St} {i : Nat} : ∀ {vs : List Nat}, (L2.wipe σ vs)[i]? = if i ∈ vs then (σ[i]?).map (fun _ => none) else σ[i]?
  | [] => by simp [L2.wipe]
  | v :: vs => by
    unfold L2.wipe
    have ih := wipe_get (σ := σ) (i := i) (vs := vs)
    by_cases hv : v = i
    · subst hv
      rw [if_pos (by simp)]
      by_cases hl : v < (L2.wipe σ vs).length
      · rw [List.getElem?_set_self hl]
        rw [L2.wipe_length] at hl
        rw [List.getElem?_eq_getElem hl]; rfl
      · rw [List.getElem?_eq_none (by rw [List.length_set]; omega)]
        rw [L2.wipe_length] at hl
        rw [List.getElem?_eq_none (by omega)]; rfl
    · rw [List.getElem?_set_ne hv, ih]
      by_cases hm : i ∈ vs
      · rw [if_pos hm, if_pos (List.mem_cons_of_mem _ hm)]
      · rw [if_neg hm, if_neg (fun z => (List.mem_cons.mp z).elim (fun e => hv e.symm) hm)]
theorem wipe_set {σ : L2.St} {i : Nat} {x : Option V} {vs : List Nat} (h : i ∈ vs) : L2.wipe (σ.set i x) vs = L2.wipe σ vs := by
  refine List.ext_getElem? fun j => ?_
  rw [wipe_get, wipe_get]
  by_cases hj : j ∈ vs
  · rw [if_pos hj, if_pos hj]
    by_cases hl : j < σ.length
    · rw [List.getElem?_eq_getElem (by rw [List.length_set]; exact hl), List.getElem?_eq_getElem hl]; rfl
    · rw [List.getElem?_eq_none (by rw [List.length_set]; omega), List.getElem?_eq_none (by omega)]
  · rw [if_neg hj, if_neg hj, List.getElem?_set_ne (show i ≠ j from fun z => hj (by rw [← z]; exact h))]
theorem wipe_idem {σ : L2.St} {vs : List Nat} : L2.wipe (L2.wipe σ vs) vs = L2.wipe σ vs := by
  refine List.ext_getElem? fun j => ?_
  rw [wipe_get, wipe_get]
  split
  · cases σ[j]? <;> rfl
  · rfl
/-! ### a comprehension's targets -/
def PostX (K : PySem.W.Frag) (T : Tb) (vs : List Nat) (σ : L2.St) (G : Gh) (r : Option (En × LH)) (Q : L2.St → Hp → Prop) : Prop := match r with
  | some (ρ', h') => ∀ G' H' σ', G.le G' → RE K G' ρ' σ' → RH K T G' h' H' → L2.wipe σ' vs = L2.wipe σ vs → Q σ' H'
  | none => False
theorem PostX.mono {K : PySem.W.Frag} {T : Tb} {vs : List Nat} {σ σ1 : L2.St} {G G' : Gh} {r : Option (En × LH)} {Q : L2.St → Hp → Prop} (h : PostX K T vs σ G r Q) (l : G.le G') (e : L2.wipe σ1 vs = L2.wipe σ vs) : PostX K T vs σ1 G' r Q := by
  cases r with
  | some q => exact fun G2 H σ2 l2 a b c => h G2 H σ2 (l.trans l2) a b (c.trans e)
  | none => exact h
def tX (K : PySem.W.Frag) (T : Tb) (vs : List Nat) (g : Gv) : TG := fun v σ H Q => ∃ G ρ h d, RE K G ρ σ ∧ RH K T G h H ∧ RD K G d v ∧ PostX K T vs σ G (g d ρ h) Q
structure DX (X : Cx) (T : Tb) (vs : List Nat) (tg : Expr) (g : Gv) : Prop where
  p : PG X tg (tX X.K T vs g)
def tXs (K : PySem.W.Frag) (T : Tb) (vs : List Nat) (g : Gvs) : TGs := fun v σ H Q => ∃ G ρ h d, RE K G ρ σ ∧ RH K T G h H ∧ RDs K G d v ∧ PostX K T vs σ G (g d ρ h) Q
structure DXs (X : Cx) (T : Tb) (vs : List Nat) (ts : List Expr) (g : Gvs) : Prop where
  p : PGs X ts (tXs X.K T vs g)
section
variable {X : Cx} {T : Tb} {W : WX} {pos : Pos} {vs : List Nat}
theorem dx_name {i : Nat} {x : Str} (hN : X.N.Nodup) (hi : X.N[i]? = some x) (hx : Loc X.env.scope x) (hv : i ∈ vs := by decide) (hf : X.fn x = true ∨ X.env.scope.names.lookup x = some .local := by first | exact .inl rfl | exact .inr rfl | assumption) : DX X T vs (.Name x pos) (gNm i) :=
  ⟨PG.imp (pg_name hN hi hx hf) fun v σ H Q ⟨G, ρ, h, d, re, rh, rd, p⟩ => p G H _ (.refl G) (re.set i rd) rh (wipe_set hv)⟩
theorem dxs_nil : DXs X T vs [] gNils := ⟨PGs.imp pgs_nil fun v σ H Q ⟨G, ρ, h, d, re, rh, rd, p⟩ => by
  cases rd with
  | nil => exact ⟨rfl, p G H _ (.refl G) re rh rfl⟩
  | cons _ _ => exact p.elim⟩
theorem dxs_cons {g : Gv} {gs : Gvs} {e : Expr} {es : List Expr} (h1 : DX X T vs e g) (h2 : DXs X T vs es gs) (hs : (assignEach (e :: es) X.env).map (·.2) = assign e X.env :: (assignEach es X.env).map (·.2) := by rfl) : DXs X T vs (e :: es) (gCns g gs) :=
  ⟨PGs.imp (pgs_cons h1.p h2.p hs) fun v σ H Q ⟨G, ρ, h, d, re, rh, rd, p⟩ => by
    cases rd with
    | nil => exact p.elim
    | @cons x xs v2 vs2 r t =>
      refine ⟨v2, vs2, rfl, G, ρ, h, x, re, rh, r, ?_⟩
      have p : PostX X.K T vs σ G ((g x ρ h).bind fun r => gs xs r.1 r.2) Q := p
      cases e1 : g x ρ h with
      | some q =>
        obtain ⟨ρ1, h1⟩ := q
        rw [e1] at p
        exact fun G1 H1 σ1 l1 re1 rh1 ew => ⟨G1, ρ1, h1, xs, re1, rh1, t.mono l1, PostX.mono p l1 ew⟩
      | none => rw [e1] at p; exact p⟩
theorem dx_tup {es : List Expr} {k n : Nat} {gs : Gvs} (hc : X.calm = true) (h : DXs X T vs es gs) (hn : (assignEach es X.env).length = n := by rfl) (hst : (assignEach es X.env).findIdx? (·.1) = none := by rfl) : DX X T vs (.Tuple es k pos) (gTp n gs) :=
  ⟨PG.imp (PG.or (pg_tup hc h.p hn hst) (pg_lst hc h.p hn hst)) fun v σ H Q ⟨G, ρ, h, d, re, rh, rd, p⟩ => by
    cases rd with
    | @tup xs vs2 a q r =>
      simp only [gTp] at p
      split at p
      · rename_i hl
        exact .inl ⟨a, vs2, rfl, SqT.mono q rh.F, by rw [← r.length]; exact hl, G, ρ, h, xs, re, rh, r, p⟩
      · exact p.elim
    | @lst xs vs2 a q r =>
      simp only [gTp] at p
      split at p
      · rename_i hl
        exact .inr ⟨a, vs2, rfl, SqL.of (rh.F _ _ q), by rw [← r.length]; exact hl, G, ρ, h, xs, re, rh, r, p⟩
      · exact p.elim
    | _ => exact p.elim⟩
/-! ### list comprehensions -/
abbrev W0 : WX := fun _ _ _ _ => False
def lcGo (vs : List Nat) (g : Gv) (mt : Bv) (me : Ev) (ρ : En) : List D → List D → LH → Res D
  | [], acc, h => .ok (.lst acc) h
  | d :: ds, acc, h => match g d (wipeD ρ vs) h with
    | some (ρ2, h2) => (match mt ρ2 h2 with
      | .ok true h3 => (match me ρ2 h3 with
        | .ok y h4 => if fits (acc.length + 1) then lcGo vs g mt me ρ ds (acc ++ [y]) h4 else .err
        | _ => .err)
      | .ok false h3 => lcGo vs g mt me ρ ds acc h3
      | _ => .err)
    | none => .err
def eLc (mi : Iv) (vs : List Nat) (g : Gv) (mt : Bv) (me : Ev) : Ev := fun ρ h => (mi ρ h).bind fun t h1 => match t.g with
  | none => lcGo vs g mt me ρ t.ds [] h1
  | some _ => .err
def bYes : Bv := fun _ h => .ok true h
structure DTs (X : Cx) (T : Tb) (ifs : List Expr) (m : Bv) : Prop where
  p : PTs X ifs (tT X.K T W0 m)
theorem PTs.imp {ifs : List Expr} {t t' : TT} (h : PTs X ifs t) (i : ∀ σ H Q, t' σ H Q → t σ H Q) : PTs X ifs t' := ⟨fun pins s σ H Q I q => h.run pins s σ H Q I (i _ _ _ q)⟩
theorem dts_nil : DTs X T [] bYes := ⟨PTs.imp pts_nil fun σ H Q ⟨G, ρ, h, re, rh, p⟩ => p G H (.refl G) rh⟩
theorem dts_one {c : Expr} {m : Bv} (h : DT X T W0 c m) : DTs X T [c] m := ⟨pts_one h.p⟩
theorem lc_red {K : PySem.W.Frag} {σ : L2.St} {H : Hp} {Q : VK} {mi : Iv} {g : Gv} {mt : Bv} {me : Ev} (k : tE K T W (eLc mi vs g mt me) σ H Q) : tLc (tI K T W mi) (tX K T vs g) (tT K T W0 mt) (tE K T W0 me) vs σ H Q := by
  obtain ⟨G, ρ, h, re, rh, p⟩ := k
  refine ⟨G, ρ, h, re, rh, ?_⟩
  unfold eLc at p
  cases e0 : mi ρ h with
  | exc c h1 => rw [e0] at p; exact p
  | err => rw [e0] at p; exact p
  | ok t h1 =>
    rw [e0] at p
    obtain ⟨ds, gg⟩ := t
    cases gg with
    | some n => exact p.elim
    | none =>
      have p : Post K T W σ G (lcGo vs g mt me ρ ds [] h1) Q := p
      intro G1 H1 J l1 rh1 jk D hD
      have hE0 : G1.E D = none := by
        cases q : G1.E D with
        | none => rfl
        | some o => have := (rh1.ext D o q).1; rw [hD] at this; cases this
      refine ⟨fun i m H => ∃ G2 h acc vacc, G1.lw G2 ∧ G2.E = upd G1.E D (.lst vacc) ∧ RH K T G2 h H ∧ RDs K G2 acc vacc ∧ m = ds.length - i ∧ i ≤ ds.length ∧ Post K T W σ G1 (lcGo vs g mt me ρ (ds.drop i) acc h) Q,
        ⟨_, G1.hold D (.lst []), h1, [], [], Gh.hold_lw, rfl, rh1.hold hD _, .nil, rfl, Nat.zero_le _, p.mono l1⟩, ?_⟩
      rintro i m H2 ⟨G2, h2, acc, vacc, l2, eE, rh2, ra, rfl, hi, p2⟩
      have hE2 : G2.E D = some (.lst vacc) := by rw [eE, upd_same]
      obtain ⟨j1, j2⟩ := jk G2 h2 H2 l2 rh2 (fun n e => nomatch e) i
      by_cases hlt : i < ds.length
      · obtain ⟨go, yl⟩ := j1 ds[i] (List.getElem?_eq_getElem hlt)
        refine .inr ⟨go, fun H' => ∃ G3 h acc vacc, G1.lw G3 ∧ G3.E = upd G1.E D (.lst vacc) ∧ RH K T G3 h H' ∧ RDs K G3 acc vacc ∧ Post K T W σ G1 (lcGo vs g mt me ρ (ds.drop (i + 1)) acc h) Q,
          fun H' ⟨G3, h3, acc3, vacc3, q1, q2, q3, q4, q5⟩ => ⟨ds.length - (i + 1), by omega, G3, h3, acc3, vacc3, q1, q2, q3, q4, rfl, hlt, q5⟩, fun x H' y => ?_⟩
        obtain ⟨G3, l3, rh3, rd3⟩ := yl x H' y
        refine ⟨G3, wipeD ρ vs, h2, ds[i], ((re.mono l1).wipe vs).monow (l2.trans l3.w), rh3, rd3, ?_⟩
        rw [List.drop_eq_getElem_cons hlt] at p2
        unfold lcGo at p2
        cases e1 : g ds[i] (wipeD ρ vs) h2 with
        | none => rw [e1] at p2; exact p2.elim
        | some q =>
          obtain ⟨ρ4, h4⟩ := q
          rw [e1] at p2
          intro G4 H4 σ4 l4 re4 rh4 ew
          refine ⟨ew.trans wipe_idem, G4, ρ4, h4, re4, rh4, ?_⟩
          have p2 : Post K T W σ G1 (match mt ρ4 h4 with
            | .ok true h3 => (match me ρ4 h3 with
              | .ok y h4 => if fits (acc.length + 1) then lcGo vs g mt me ρ (ds.drop (i + 1)) (acc ++ [y]) h4 else .err
              | _ => .err)
            | .ok false h3 => lcGo vs g mt me ρ (ds.drop (i + 1)) acc h3
            | _ => .err) Q := p2
          cases e2 : mt ρ4 h4 with
          | exc c h5 => rw [e2] at p2; exact p2.elim
          | err => rw [e2] at p2; exact p2.elim
          | ok b h5 =>
            rw [e2] at p2
            intro G5 H5 l5 rh5
            have l25 : G2.le G5 := (l3.trans l4).trans l5
            have eE5 : G5.E = upd G1.E D (.lst vacc) := by rw [l25.E]; exact eE
            cases b with
            | false =>
              rw [if_neg Bool.false_ne_true]
              exact ⟨G5, h5, acc, vacc, l2.trans l25.w, eE5, rh5, ra.mono l25, p2⟩
            | true =>
              rw [if_pos rfl]
              refine ⟨G5, ρ4, h5, re4.mono l5, rh5, ?_⟩
              have p2 : Post K T W σ G1 (match me ρ4 h5 with
                | .ok y h4 => if fits (acc.length + 1) then lcGo vs g mt me ρ (ds.drop (i + 1)) (acc ++ [y]) h4 else .err
                | _ => .err) Q := p2
              cases e3 : me ρ4 h5 with
              | exc c h6 => rw [e3] at p2; exact p2.elim
              | err => rw [e3] at p2; exact p2.elim
              | ok y h6 =>
                rw [e3] at p2
                have p2 : Post K T W σ G1 (if fits (acc.length + 1) then lcGo vs g mt me ρ (ds.drop (i + 1)) (acc ++ [y]) h6 else .err) Q := p2
                split at p2
                · rename_i hf
                  intro G6 H6 v6 l6 rh6 rd6
                  have l26 := l25.trans l6
                  have hE6 : G6.E D = some (.lst vacc) := by rw [l26.E]; exact hE2
                  refine ⟨vacc, (rh6.ext D _ hE6).1, ?_, G6.hold D (.lst (vacc ++ [v6])), h6, acc ++ [y], vacc ++ [v6], (l2.trans l26.w).trans Gh.hold_lw, ?_, rh6.held hE6 _, ((ra.mono l26).append (.cons rd6 .nil)).monow Gh.hold_lw, p2⟩
                  · have := fits_ok hf
                    rw [← ra.length]; omega
                  · show upd G6.E D _ = _
                    rw [l26.E, eE, upd_upd]
                · exact p2.elim
      · have ei : i = ds.length := by omega
        subst ei
        rw [List.drop_length] at p2
        refine .inl ⟨j2 (Nat.le_refl _), ?_⟩
        obtain ⟨lb, rb⟩ := rh2.back hE2 hE0 (fun a u e => by rw [eE, upd_ne (fun z => by rw [z, hE0] at e; cases e)]; exact e)
        exact p2 (G2.back D (.lst vacc) G1.E) H2 (.ref D) ⟨l2.trans lb, rfl⟩ rb (.lst (by show upd G2.F D _ D = _; rw [upd_same]) (ra.monow lb))
/-- the block's context -/
abbrev Cx.cmp (X : Cx) (scope : Scope) (s : Shared) (H : Hp) (C : Addr) (cl : List (Str × Addr)) (fp : List Addr) : Cx := X.blk s H scope (compEnvC scope cl C X.env) fp
structure Blk (X : Cx) (T : Tb) (scope : Scope) (vs : List Nat) (tg : Expr) (ifs : List Expr) (elt : Expr) (g : Gv) (mt : Bv) (me : Ev) : Prop where
  g : ∀ (s : Shared) (H : Hp) (C : Addr) (cl : List (Str × Addr)) (fp : List Addr), DX (Cx.cmp X scope s H C cl fp) T vs tg g
  t : ∀ (s : Shared) (H : Hp) (C : Addr) (cl : List (Str × Addr)) (fp : List Addr), DTs (Cx.cmp X scope s H C cl fp) T ifs mt
  e : ∀ (s : Shared) (H : Hp) (C : Addr) (cl : List (Str × Addr)) (fp : List Addr), DE (Cx.cmp X scope s H C cl fp) T W0 elt me
theorem de_lc {elt tg iter : Expr} {ifs : List Expr} {scope : Scope} {own : List (Str × Nat)} {mi : Iv} {g : Gv} {mt : Bv} {me : Ev} (hc : X.calm = true) (hN : X.N.Nodup) (hi : DI X T W tg iter mi) (ok : BlkOk X.N X.env.scope scope own)
    (b : Blk X T scope (own.map (·.2)) tg ifs elt g mt me) (hs : ∀ x, foldedSetIterable iter X.env x = pure x := by intro _; rfl) : DE X T W (.ListComp elt [⟨tg, iter, ifs, 0⟩] scope pos) (eLc mi (own.map (·.2)) g mt me) :=
  ⟨PE.imp (pe_lc hc hN hi.p ok (fun s H C cl fp => (b.g s H C cl fp).p) (fun s H C cl fp => (b.t s H C cl fp).p) (fun s H C cl fp => (b.e s H C cl fp).p) hs) fun σ H Q k => lc_red k⟩
theorem ds_setLc {i : Nat} {y : Str} {py spos : Pos} {elt tg iter : Expr} {ifs : List Expr} {scope : Scope} {own : List (Str × Nat)} {mi : Iv} {g : Gv} {mt : Bv} {me : Ev} (hc : X.calm = true) (hN : X.N.Nodup) (hy : X.N[i]? = some y) (hyl : X.env.scope.names.lookup y = some .local)
    (hsw : swapsWith (.ListComp elt [⟨tg, iter, ifs, 0⟩] scope pos) (some (.Name y py)) spos.line X.env = pure true) (hi : DI X T W tg iter mi) (ok : BlkOk X.N X.env.scope scope own)
    (b : Blk X T scope (own.map (·.2)) tg ifs elt g mt me) (hs : ∀ x, foldedSetIterable iter X.env x = pure x := by intro _; rfl) : DS X T W (.Assign [.Name y py] (.ListComp elt [⟨tg, iter, ifs, 0⟩] scope pos) spos) (sAsg (eLc mi (own.map (·.2)) g mt me) (gNm i)) :=
  ⟨PS.imp (ps_setLc hc hN hy hyl hsw hi.p ok (fun s H C cl fp => (b.g s H C cl fp).p) (fun s H C cl fp => (b.t s H C cl fp).p) (fun s H C cl fp => (b.e s H C cl fp).p) hs) fun E σ H k => by
    obtain ⟨G, ρ, h, re, rh, p⟩ := k
    refine lc_red (W := W) (e_red re rh p fun d h1 G1 H1 v l1 r1 d1 q => ?_)
    exact q G1 H1 _ (.refl _) ((re.mono l1).set i d1) r1⟩
end
end Sh

set_option Elab.async false
set_option linter.all false
set_option maxRecDepth 100000
set_option maxHeartbeats 4000000
/-! Sh7: generator expressions. -/
namespace Sh
open PySem PySem.Spec PyProof.Rows L2

/-! ### what a generator expression hands out -/
inductive Tr where
  | done (h : LH) | yld (d : D) (h : LH) (r : Tr) | err
def Tr.len : Tr → Nat
  | .yld _ _ r => r.len + 1
  | _ => 0
def Tr.all : Tr → List D
  | .yld d _ r => d :: r.all
  | _ => []
def Tr.at : Tr → Nat → Tr
  | .yld d h r, n => if n = r.len + 1 then .yld d h r else r.at n
  | t, _ => t
def Tr.ok1 : Tr → Prop
  | .err => False
  | _ => True
theorem Tr.at_self : ∀ t : Tr, t.at t.len = t
  | .yld d h r => by show (if r.len + 1 = r.len + 1 then Tr.yld d h r else _) = _; exact if_pos rfl
  | .done _ => rfl
  | .err => rfl
theorem Tr.at_next : ∀ {t : Tr} {d : D} {h : LH} {r : Tr}, t.at (r.len + 1) = .yld d h r → r.len + 1 ≤ t.len → t.at r.len = r
  | .yld d0 h0 r0, d, h, r, e, hn => by
    have e : (if r.len + 1 = r0.len + 1 then Tr.yld d0 h0 r0 else r0.at (r.len + 1)) = .yld d h r := e
    show (if r.len = r0.len + 1 then Tr.yld d0 h0 r0 else r0.at r.len) = r
    have hn : r.len + 1 ≤ r0.len + 1 := hn
    by_cases q : r.len + 1 = r0.len + 1
    · rw [if_pos q] at e
      cases e
      rw [if_neg (by omega)]
      exact Tr.at_self _
    · rw [if_neg q] at e
      rw [if_neg (by omega)]
      exact Tr.at_next e (by omega)
  | .done _, _, _, _, e, hn => absurd hn (by show ¬ _ ≤ 0; omega)
  | .err, _, _, _, e, hn => absurd hn (by show ¬ _ ≤ 0; omega)
def gxTr (vs : List Nat) (g : Gv) (mt : Bv) (me : Ev) (ρ : En) : List D → LH → Tr
  | [], h => .done h
  | d :: ds, h => match g d (wipeD ρ vs) h with
    | some (ρ2, h2) => (match mt ρ2 h2 with
      | .ok true h3 => (match me ρ2 h3 with
        | .ok y h4 => .yld y h4 (gxTr vs g mt me ρ ds h4)
        | _ => .err)
      | .ok false h3 => gxTr vs g mt me ρ ds h3
      | _ => .err)
    | none => .err

/-! ### its own frame -/
structure GxOk (N : List Str) (sc scope : Scope) (own : List (Str × Nat)) : Prop where
  kind : scope.kind = .function
  co : scope.isCoroutine = false
  cell : ∀ y ∈ scope.names, y.2 ≠ .cell
  dot : scope.names.lookup (".0" : Str) = some NameKind.local
  ix : ∀ p ∈ own, N[p.2]? = some p.1
  free : ∀ y ∈ scope.names, y.2 = .free → sc.names.lookup y.1 = some .cell ∨ sc.names.lookup y.1 = some .free
  own : ∀ y ∈ scope.names, y.2 = .local → y.1 ∈ own.map (·.1) ∨ y.1 ∉ N
def gxC (N : List Str) (sc scope : Scope) (own : List (Str × Nat)) : Bool :=
  decide (scope.kind = .function) && !scope.isCoroutine && (scope.names.all fun y => !decide (y.2 = .cell)) && decide (scope.names.lookup (".0" : Str) = some NameKind.local) && (own.all fun p => decide (N[p.2]? = some p.1)) &&
    (scope.names.all fun y => !decide (y.2 = .free) || decide (sc.names.lookup y.1 = some .cell) || decide (sc.names.lookup y.1 = some .free)) &&
    (scope.names.all fun y => !decide (y.2 = .local) || decide (y.1 ∈ own.map (·.1)) || decide (y.1 ∉ N))
theorem gxOk_by {N : List Str} {sc scope : Scope} {own : List (Str × Nat)} (h : gxC N sc scope own = true) : GxOk N sc scope own := by
  unfold gxC at h
  simp only [Bool.and_eq_true, Bool.or_eq_true, Bool.not_eq_true', decide_eq_true_eq, decide_eq_false_iff_not, List.all_eq_true] at h
  obtain ⟨⟨⟨⟨⟨⟨h1, h2⟩, h3⟩, h4⟩, h5⟩, h6⟩, h7⟩ := h
  refine ⟨h1, h2, h3, h4, h5, fun y hy e => ?_, fun y hy e => ?_⟩
  · rcases h6 y hy with (z | z) | z
    · exact absurd e z
    · exact .inl z
    · exact .inr z
  · rcases h7 y hy with (z | z) | z
    · exact absurd e z
    · exact .inl z
    · exact .inr z
abbrev gxEnv (X : Cx) (scope : Scope) (C : Addr) (code : Value) : Env := genEnv scope (cloFrom X.env.cells scope.names []) C code builtinsNs X.env
/-- its context: made at s, it runs below A -/
abbrev Cx.gx (X : Cx) (scope : Scope) (A : Around) (s : Shared) (H : Hp) (C : Addr) (code : Value) (fp : List Addr) (pn : List (Addr × Obj)) : Cx :=
  { X with A := A.deeper (gxEnv X scope C code), s_0 := s, H_0 := H, env := gxEnv X scope C code, outer := X.stack, stack := gxEnv X scope C code :: X.stack, ex := fp, fn := fun _ => false, calm := true, pn := pn, xe := fun _ _ => False }
theorem over_comp {A : Around} {e : Expr} {elt : Expr} {gs : List Comprehension} {scope : Scope} {pos : Pos} {it acc : Value} {env : Env} (he : e = .GeneratorExp elt gs scope pos) : A.over (.compLoop e 0 it acc env) [] = A.deeper env ∧ A.over (.compStart e 0 it acc env) [] = A.deeper env := by
  subst he
  exact ⟨rfl, rfl⟩
section
variable {X : Cx} {pins : List (Addr × Obj)} {σ : L2.St} {H : Hp} {s : Shared}
theorem gx_start {scope : Scope} {own : List (Str × Nat)} {fp : List Addr} {A : Around} {code : Value} {h' : Heap} {gn : Array GenState} {tk : Nat} {dr : Drawn} {m0 : Str → Option Value} {a : Addr} {go : Obj}
    (I : Inv X pins σ H s) (ok : GxOk X.N X.env.scope scope own) (hN : X.N.Nodup) (hfp : ∀ b ∈ fp, FpOk X pins H b ∧ b < s.heap.objs.size) (hA : A.handled = none) (hfr : A.frames = some X.stack)
    (kp : ∀ b o, s.heap.get? b = some o → h'.get? b = some o) (hns : h'.Ns s.heap.objs.size m0) (hb : AllBare gn)
    (hga : s.heap.objs.size < a) (hgo : h'.get? a = some go) (hgd : ∀ v, go.data ≠ .cell v) :
    Inv (Cx.gx X scope A s H s.heap.objs.size code fp [(a, go)]) [] (L2.wipe σ (own.map (·.2))) H { s with heap := h', gens := gn, toks := tk, drawn := dr } := by
  have hfree : ∀ y ∈ scope.names, y.2 = .free → ∃ c, X.env.cells.lookup y.1 = some c := fun y hy e => by
    rcases ok.free y hy e with k | k
    · exact I.ok.has _ (.inl k)
    · exact I.ok.has _ (.inr k)
  have cm : ∀ {y c}, (cloFrom X.env.cells scope.names []).lookup y = some c → X.env.cells.lookup y = some c ∧ c < s.heap.objs.size := fun {y c} e => by
    rcases cloFrom_mem (PySem.mem_of_lookup e) with hm | ⟨h1, h2⟩
    · cases hm
    · obtain ⟨c1, hc⟩ := hfree _ h1 rfl
      have hc : X.env.cells.lookup y = some c1 := hc
      have e2 : c = c1 := by rw [h2, hc] <;> rfl
      rw [e2]
      obtain ⟨w, z⟩ := I.cell _ _ hc
      exact ⟨hc, z.lt⟩
  have look : ∀ {y}, scope.names.lookup y = some .free → ∃ c, (cloFrom X.env.cells scope.names []).lookup y = some c := fun {y} hl => by
    have hy : (y, NameKind.free) ∈ scope.names := PySem.mem_of_lookup hl
    exact mem_lookup (cloFrom_has (cells := X.env.cells) (acc := []) hy)
  have hnA : H a = none := I.hok.fresh (Nat.le_of_lt hga)
  refine ⟨⟨I.ok.mod, ok.kind, I.ok.glob, rfl, Nat.le_refl _, fun y z c e1 e2 => I.ok.inj y z c (cm e1).1 (cm e2).1, fun y hy => ?_, fun y c z _ => ?_, fun _ => hA, Around.frames_deeper hfr, .inr ⟨rfl, rfl⟩, fun b hb => ⟨?_, fun y c e z => ?_⟩,
      I.bs, Nat.le_trans I.ok.bsz I.sz, fun b o e hb => ?_, fun b hb z => ?_, I.stack, I.stkFree⟩,
    rfl, hb, Un.kept kp, ⟨m0, hns, fun i y v e1 e2 e3 => ?_⟩, fun y c e => ?_, I.hok.fresh (Nat.le_refl _), fun y c e => ?_, fun p hp => ?_, I.hok.kept kp, by rw [L2.wipe_length]; exact I.len⟩
  · have hy : scope.names.lookup y = some .cell ∨ scope.names.lookup y = some .free := hy
    rcases hy with hy | hy
    · exact absurd rfl (ok.cell _ (PySem.mem_of_lookup hy))
    · exact look hy
  · have z : false = true := z
    cases z
  · show b ≠ s.heap.objs.size
    exact Nat.ne_of_lt (hfp b hb).2
  · exact (hfp b hb).1.2.2.2.2.1 y c (cm e).1 z
  · rcases (hfp b hb).1.2.2.2.1 with z | z
    · exact I.ok.noex b o e z
    · exact absurd (Nat.lt_of_lt_of_le (Heap.lt_size e) (Nat.le_trans I.ok.bsz z)) (Nat.lt_irrefl _)
  · rcases List.mem_cons.mp (I.stkSub b z) with z | z
    · exact (hfp b hb).1.2.1 z
    · exact (hfp b hb).1.2.2.1 z
  · obtain ⟨e2, hne⟩ := wipe_some e2
    have e3 : Vis scope y := e3
    rcases e3 with k | k | k
    · exfalso
      rcases ok.own _ (PySem.mem_of_lookup k) rfl with e' | e'
      · obtain ⟨p, hp, hpy⟩ := List.mem_map.mp e'
        have e3 := ok.ix p hp
        have : p.1 = y := hpy
        rw [this] at e3
        exact hne (List.mem_map.mpr ⟨p, hp, nodup_ix hN e3 e1⟩)
      · exact e' (List.mem_of_getElem? e1)
    · exact absurd rfl (ok.cell _ (PySem.mem_of_lookup k))
    · obtain ⟨m, hn, hl⟩ := I.loc
      have hvis : Vis X.env.scope y := (ok.free _ (PySem.mem_of_lookup k) rfl).elim (fun k => .inr (.inl k)) (fun k => .inr (.inr k))
      obtain ⟨w', r, q⟩ := hl i y v e1 e2 hvis
      obtain ⟨c2, h2⟩ := look k
      refine ⟨w', r, .inr ⟨.inr k, c2, h2, ?_⟩⟩
      have c1 := (cm h2).1
      rcases q with ⟨k', _⟩ | ⟨_, c3, e', z⟩
      · have k' : X.env.scope.names.lookup y = some .local := k'
        rcases ok.free _ (PySem.mem_of_lookup k) rfl with k2 | k2 <;> rw [show X.env.scope.names.lookup y = _ from k2] at k' <;> cases k'
      · rw [c1] at e'
        cases e'
        exact z.keeps kp
  · obtain ⟨w', z⟩ := I.cell y c (cm e).1
    exact ⟨w', z.keeps kp⟩
  · exact I.freeC y c (cm e).1
  · have hp : p ∈ [(a, go)] ++ [] := hp
    have ep : p = (a, go) := by simpa using hp
    rw [ep]
    exact ⟨hgo, hnA, Nat.ne_of_gt hga, fun z => by
      rcases List.mem_cons.mp (I.stkSub a z) with e | e
      · exact absurd (Nat.lt_of_lt_of_le I.lt (Nat.le_of_lt (e ▸ hga))) (Nat.lt_irrefl _)
      · exact I.nofs (Nat.le_of_lt hga) e, hgd⟩
end
end Sh

set_option Elab.async false
set_option linter.all false
set_option maxRecDepth 100000
set_option maxHeartbeats 4000000
/-! Sh8: a generator expression's turns. -/
namespace Sh
open PySem PySem.Spec PyProof.Rows L2 GenW

/-- while it sleeps its consumer changes what stands at hs alone -/
structure Slp (hs : List Addr) (s s' : Shared) : Prop where
  os : s'.os = s.os
  bare : AllBare s'.gens
  keep : ∀ b o, b ∉ hs → s.heap.get? b = some o → s'.heap.get? b = some o
  own : ∀ b ∈ hs, ∃ o, s'.heap.get? b = some o ∧ ∀ v, o.data ≠ .cell v
theorem Slp.trans {hs : List Addr} {s s1 s2 : Shared} (a : Slp hs s s1) (b : Slp hs s1 s2) : Slp hs s s2 :=
  ⟨b.os.trans a.os, b.bare, fun c o h e => b.keep c o h (a.keep c o h e), b.own⟩
/-- where they stand -/
structure HsOk (X' : Cx) (hs : List Addr) : Prop where
  new : ∀ b ∈ hs, X'.s_0.heap.objs.size ≤ b
  nL : ∀ b ∈ hs, b ≠ X'.env.locals
  nf : ∀ b ∈ hs, b ∉ X'.fs
  nc : ∀ b ∈ hs, ∀ x c, X'.env.cells.lookup x = some c → c ≠ b
  np : ∀ b ∈ hs, ∀ p ∈ X'.pn, p.1 ≠ b
  nx : ∀ b ∈ hs, b ∉ X'.ex
theorem inv_slp {X' : Cx} {hs : List Addr} {σ : L2.St} {H : Hp} {s s' : Shared} (ok : HsOk X' hs) (I : Inv X' [] σ H s) (hn : ∀ b ∈ hs, H b = none) (z : Slp hs s s') : Inv X' (pinsAt hs s'.heap) σ H s' := by
  obtain ⟨hh, g, d, t, o⟩ := s'
  obtain ⟨z1, z2, z3, z4⟩ := z
  have ho : o = s.os := z1
  subst ho
  have nt : ∀ b u, H b = some u → b ∉ hs := fun b u q hb => by rw [hn b hb] at q; cases q
  have J : Inv X' [] σ H { s with heap := hh, gens := g, drawn := d, toks := t } := by
    refine I.step (g' := g) (t' := t) (d' := d) (ch := hs) (fun b hb => ⟨.inr (ok.new b hb), ok.nL b hb, fun x c e => ok.nc b hb x c e, fun p hp => ?_⟩)
      (fun b ob _ _ hc q _ => z3 b ob hc q) (fun b ob _ _ hc q _ => ⟨ob.slots, z3 b ob hc q⟩) (fun _ _ _ _ n => n) (fun b ob hc q => ⟨ob, z3 b ob hc q⟩)
      (fun _ _ q => q) (fun _ _ _ q => q) (fun b ps q => ⟨#[], by rw [q]; simp⟩) (fun m hm => ?_) (fun b u q => ?_) z2
    · rw [List.append_nil] at hp
      exact ok.np b hb p hp
    · obtain ⟨ob, es, ep, ho, r⟩ := hm
      exact ⟨ob, es, ep, z3 _ ob (fun z => ok.nL _ z rfl) ho, r⟩
    · refine (I.hok b u q).stay (fun c v hc y => z3 c v ?_ y) (fun _ y => y) fun _ _ y => y
      rcases hc with y | y
      · rw [y]; exact nt b u q
      · exact nt c _ y
  have J2 := J.pinned (fp := hs) (fun b hb => ⟨hn b hb, ok.nL b hb, ok.nf b hb, .inr (ok.new b hb), fun x c e => ok.nc b hb x c e, fun p hp => ?_⟩) z4
  · exact J2
  · rw [List.append_nil] at hp
    exact ok.np b hb p hp

section
variable {X X' : Cx} {T : Tb} {A0 : Around} {hs : List Addr} {G1 : Gh} {tr0 : Tr} {a : Addr} {g : Nat} {Hi : List Value → Heap → Prop}
/-- a result is handed out -/
def GxY (X' : Cx) (T : Tb) (G1 : Gh) (hs : List Addr) (Hi : List Value → Heap → Prop) (tr0 : Tr) : Protocol := fun n s₀ v s1 kap =>
  ∃ d h r G σ H x, tr0.at (n + 1) = .yld d h r ∧ r.len = n ∧ G1.le G ∧ RH X'.K T G h H ∧ RD X'.K G d x ∧ RelV x v ∧ Inv X' (pinsAt hs s₀.heap) σ H s1 ∧ ∃ us xs pre, Hi us s₀.heap ∧ Vals xs us ∧ RDs X'.K G pre xs ∧ pre ++ d :: r.all = tr0.all ∧ ∀ s'', Slp hs s1 s'' → Hi (us ++ [v]) s''.heap → r.ok1 → kap (.send .none) s''
/-- it is at its end -/
def GxE (X' : Cx) (T : Tb) (G1 : Gh) (hs : List Addr) (Hi : List Value → Heap → Prop) (tr0 : Tr) : Nat → Shared → Shared → Prop := fun n s₀ s1 =>
  n = 0 ∧ ∃ h G σ H, tr0.at 0 = .done h ∧ G1.le G ∧ RH X'.K T G h H ∧ Inv X' (pinsAt hs s₀.heap) σ H s1 ∧ ∃ us xs, Hi us s₀.heap ∧ Vals xs us ∧ RDs X'.K G tr0.all xs
/-- its turns -/
structure GxP (X' : Cx) (T : Tb) (A0 : Around) (G1 : Gh) (hs : List Addr) (tr0 : Tr) (elt tg iter : Expr) (ifs : List Expr) (scope : Scope) (gpos : Pos) (it : Addr) (fp : List Addr) (tn : Nat → Heap → Prop) (J : It) (ds : List D) (vs : List Nat) (g : Gv) (mt : Bv) (me : Ev) (ρ : En) (σ : L2.St) : Prop where
  A : X'.A = A0.deeper X'.env
  hA : A0.handled = none
  calm : X'.calm = true
  xe : X'.xe = fun _ _ => False
  co : X'.env.scope.isCoroutine = false
  hs : HsOk X' hs
  ex : X'.ex = fp
  fpn : ∀ b ∈ fp, ∀ p ∈ X'.pn, p.1 ≠ b
  tu : Turn X'.prog X'.w X'.K tg J fp it tn
  jk : JOk X'.K T G1 J ⟨ds, none⟩
  re : RE X'.K G1 ρ σ
  g : DX X' T vs tg g
  t : DTs X' T ifs mt
  e : DE X' T W0 elt me
variable {elt tg iter : Expr} {ifs : List Expr} {scope : Scope} {gpos : Pos} {it : Addr} {fp : List Addr} {tn : Nat → Heap → Prop} {J : It} {ds : List D} {vs : List Nat} {gt : Gv} {mt : Bv} {me : Ev} {ρ : En} {σ : L2.St}
theorem mem_pins {l r : List (Addr × Obj)} {p : Addr × Obj} (h : p ∈ r) : p ∈ l ++ r := List.mem_append_right _ h
theorem thnX {α : Type} {t : Sem α} {Q Q' : α → Shared → Prop} {M : Model} {A : Around} {E xe : Value → Shared → Prop} {s : Shared} (hx : xe = fun _ _ => False) (h : wpAny M A t Q xe s) (hQ : ∀ a s, Q a s → Q' a s) : wpAny M A t Q' E s := thnF (by rw [hx] at h; exact h) hQ
theorem gx_seg (P : GxP X' T A0 G1 hs tr0 elt tg iter ifs scope gpos it fp tn J ds vs gt mt me ρ σ) : ∀ (k i n : Nat) (s₀ s : Shared) (H : Hp) (G : Gh) (h : LH) (us : List Value) (xs : List V) (pre : List D), ds.length - i = k → i ≤ ds.length → G1.le G → RH X'.K T G h H →
    Inv X' (pinsAt hs s₀.heap) (L2.wipe σ vs) H s → (∀ b ∈ fp, H b = none) → (∀ b ∈ hs, ∃ o, s₀.heap.get? b = some o) → tn i s.heap → (gxTr vs gt mt me ρ (ds.drop i) h).ok1 → tr0.at n = gxTr vs gt mt me ρ (ds.drop i) h → n = (gxTr vs gt mt me ρ (ds.drop i) h).len → n ≤ tr0.len → Hi us s₀.heap → Vals xs us → RDs X'.K G pre xs → pre ++ (gxTr vs gt mt me ρ (ds.drop i) h).all = tr0.all →
    Seg (model X'.prog X'.w) A0 (fun n s₀ r s₁ => r = .ok .next ∧ GxE X' T G1 hs Hi tr0 n s₀ s₁) (GxY X' T G1 hs Hi tr0) n s₀
      (.compLoop (.GeneratorExp elt [⟨tg, iter, ifs, 0⟩] scope gpos) 0 (.ref it) .none X'.env)
      ((model X'.prog X'.w).den (.compLoop (.GeneratorExp elt [⟨tg, iter, ifs, 0⟩] scope gpos) 0 (.ref it) .none X'.env)) [] s := by
  have stat : ∀ {σ' : L2.St} {H' : Hp} {s₀ s' : Shared}, Inv X' (pinsAt hs s₀.heap) σ' H' s' → (∀ b ∈ fp, H' b = none) → (∀ b ∈ fp, ∀ p ∈ X'.pn ++ pinsAt hs s₀.heap, p.1 ≠ b) → ∀ b ∈ fp, FpOk X' (pinsAt hs s₀.heap) H' b := fun {σ' H' s₀ s'} I' hn hp b hb =>
    ⟨hn b hb, (I'.ok.exf b (by rw [P.ex]; exact hb)).1, I'.ok.exfs b (by rw [P.ex]; exact hb), .inl (by rw [P.ex]; exact hb), fun x c e => (I'.ok.exf b (by rw [P.ex]; exact hb)).2 x c e, hp b hb⟩
  have nfp : ∀ (s₀ : Shared), ∀ b ∈ fp, ∀ p ∈ X'.pn ++ pinsAt hs s₀.heap, p.1 ≠ b := fun s₀ b hb p hp => by
    rcases List.mem_append.mp hp with z | z
    · exact P.fpn b hb p z
    · intro e
      exact P.hs.nx p.1 (of_pinsAt z).1 (by rw [P.ex, e]; exact hb)
  intro k
  induction k with
  | zero =>
    intro i n s₀ s H G h us xs pre hk hi l1 rh I nf ho st ok1 ea en hn hU hV hR hP
    have ei : i = ds.length := by omega
    subst ei
    rw [List.drop_length] at ea en ok1 hP
    have en : n = 0 := en
    subst en
    show Seg _ A0 _ _ _ s₀ _ ((compTurn (.GeneratorExp elt [⟨tg, iter, ifs, 0⟩] scope gpos) 0 (.ref it) .none X'.env).onRaise (leaving X'.env)) [] s
    rw [compTurn_gen, Sem.onRaise_eq_wrap]
    refine seg_bind_wrap (wpAny_standAt ?_)
    refine seg_bind_wrap ?_
    rw [(over_comp (A := A0) rfl).1, ← P.A]
    obtain ⟨_, j2⟩ := P.jk G h H l1.w rh (fun n e => nomatch e) ds.length
    refine thnF (P.tu.done X' rfl rfl rfl P.calm ds.length _ s _ H (fun _ _ => False) I (stat I nf (nfp s₀)) st (j2 (Nat.le_refl _))) fun r s1 ⟨hr, I1⟩ => ?_
    subst hr
    exact seg_end (.ok .next) ⟨rfl, rfl, h, G, _, H, ea, l1, rh, I1, us, xs, hU, hV, by rw [← hP]; show RDs _ _ (pre ++ []) _; rw [List.append_nil]; exact hR⟩
  | succ k ih =>
    intro i n s₀ s H G h us xs pre hk hi l1 rh I nf ho st ok1 ea en hn hU hV hR hP
    have hlt : i < ds.length := by omega
    rw [List.drop_eq_getElem_cons hlt] at ea en ok1 hP
    unfold gxTr at ea en ok1 hP
    obtain ⟨j1, _⟩ := P.jk G h H l1.w rh (fun n e => nomatch e) i
    obtain ⟨go, yl⟩ := j1 ds[i] (List.getElem?_eq_getElem hlt)
    show Seg _ A0 _ _ _ s₀ _ ((compTurn (.GeneratorExp elt [⟨tg, iter, ifs, 0⟩] scope gpos) 0 (.ref it) .none X'.env).onRaise (leaving X'.env)) [] s
    rw [compTurn_gen, Sem.onRaise_eq_wrap]
    refine seg_bind_wrap (wpAny_standAt ?_)
    refine seg_bind_wrap ?_
    rw [(over_comp (A := A0) rfl).1, ← P.A]
    refine thnF (P.tu.item X' rfl rfl rfl P.calm i _ s _ H (fun _ _ => False) I (stat I nf (nfp s₀)) st go) fun r s1 ⟨u, hr, h1⟩ => ?_
    subst hr
    refine seg_bind_wrap ?_
    rw [(over_comp (A := A0) rfl).1, ← P.A]
    refine thnF h1 fun _ s2 ⟨x, H2, I2, r2, y2, st2, n2⟩ => ?_
    obtain ⟨G2, l2, rh2, rd2⟩ := yl x H2 y2
    have I2' := I2.pinned (stat I2 n2 (nfp s₀)) (P.tu.obj _ _ st2)
    -- the turn's end
    have fin : ∀ {s' : Shared} {σ' : L2.St} {H' : Hp}, Inv X' (pinsAt hs s₀.heap ++ pinsAt fp s2.heap) σ' H' s' → L2.wipe σ' vs = L2.wipe σ vs → Inv X' (pinsAt hs s₀.heap) (L2.wipe σ vs) H' s' ∧ tn (i + 1) s'.heap ∧ ∀ b ∈ fp, H' b = none := fun {s' σ' H'} I' hw => by
      have pin' : ∀ b ∈ fp, ∀ o, s2.heap.get? b = some o → s'.heap.get? b = some o ∧ H' b = none := fun b hb o e =>
        let z := I'.pin (b, o) (List.mem_append_right _ (List.mem_append_right _ (mem_pinsAt hb e)))
        ⟨z.1, z.2.1⟩
      have hl : (L2.wipe σ vs).length = σ'.length := by rw [← hw, L2.wipe_length]
      refine ⟨(I'.unpinned).weak hl (fun j v e => ?_), P.tu.keep _ _ _ st2 fun b hb o e => (pin' b hb o e).1, fun b hb => ?_⟩
      · rw [← hw] at e
        exact (wipe_some e).1
      · obtain ⟨o, e, _⟩ := P.tu.obj _ _ st2 b hb
        exact (pin' b hb o e).2
    cases e1 : gt ds[i] (wipeD ρ vs) h with
    | none => rw [e1] at ok1; exact ok1.elim
    | some q =>
      obtain ⟨ρ3, h3⟩ := q
      rw [e1] at ea en ok1 hP
      refine seg_bind_wrap ?_
      rw [(over_comp (A := A0) rfl).1, ← P.A]
      refine thnX P.xe (P.g.p.run _ s2 _ H2 x u (fun σ3 H3 => L2.wipe σ3 vs = L2.wipe σ vs ∧ ∃ G3, G2.le G3 ∧ RE X'.K G3 ρ3 σ3 ∧ RH X'.K T G3 h3 H3) I2' r2 ⟨G2, wipeD ρ vs, h, ds[i], ((P.re.mono l1).wipe vs).monow l2.w, rh2, rd2, ?_⟩) fun _ s3 ⟨σ3, H3, I3, hw3, G3, l3, re3, rh3⟩ => ?_
      · rw [e1]
        exact fun G' H' σ' l re rh ew => ⟨ew.trans wipe_idem, G', l, re, rh⟩
      refine seg_bind_wrap ?_
      rw [(over_comp (A := A0) rfl).1, ← P.A]
      cases e2 : mt ρ3 h3 with
      | exc c h4 => simp only [e2] at ok1; exact ok1.elim
      | err => simp only [e2] at ok1; exact ok1.elim
      | ok b h4 =>
        simp only [e2] at ea en ok1 hP
        refine thnX P.xe (P.t.p.run _ s3 σ3 H3 (fun b' H4 => b' = b ∧ ∃ G4, G3.le G4 ∧ RH X'.K T G4 h4 H4) I3 ⟨G3, ρ3, h3, re3, rh3, ?_⟩) fun b' s4 ⟨H4, I4, eb, G4, l4, rh4⟩ => ?_
        · rw [e2]
          exact fun G' H' l rh => ⟨rfl, G', l, rh⟩
        subst eb
        have l14 : G1.le G4 := ((l1.trans l2).trans l3).trans l4
        cases b' with
        | false =>
          simp only [Bool.false_eq_true, if_false]
          obtain ⟨J1, J2, J3⟩ := fin I4 hw3
          exact seg_again rfl (ih (i + 1) n s₀ s4 H4 G4 h4 us xs pre (by omega) hlt l14 rh4 J1 J3 ho J2 ok1 ea en hn hU hV (hR.mono ((l2.trans l3).trans l4)) hP)
        | true =>
          simp only [if_true]
          cases e3 : me ρ3 h4 with
          | exc c h5 => simp only [e3] at ok1; exact ok1.elim
          | err => simp only [e3] at ok1; exact ok1.elim
          | ok y h5 =>
            simp only [e3] at ea en ok1 hP
            have en : n = (gxTr vs gt mt me ρ (ds.drop (i + 1)) h5).len + 1 := en
            obtain ⟨m, em⟩ : ∃ m, m = (gxTr vs gt mt me ρ (ds.drop (i + 1)) h5).len := ⟨_, rfl⟩
            rw [← em] at en
            subst en
            have hy : ∀ v, yieldOut X'.env v = yieldValue v := fun v => by simp only [yieldOut, P.co, Bool.false_eq_true, if_false]
            simp only [hy]
            rw [Sem.bind_eq_wrap', Sem.bind_eq_wrap', Sem.wrap_wrap, Sem.wrap_wrap]
            refine seg_wrap ?_
            rw [(over_comp (A := A0) rfl).1, ← P.A]
            refine thnX P.xe (P.e.p.run _ s4 σ3 H4 (fun z H5 => ∃ G5, G4.le G5 ∧ RH X'.K T G5 h5 H5 ∧ RD X'.K G5 y z) I4 ⟨G4, ρ3, h4, re3.mono l4, rh4, ?_⟩) fun v s5 ⟨z, H5, I5, r5, G5, l5, rh5, rd5⟩ => ?_
            · rw [e3]
              exact fun G' H' v l rh rd => ⟨G', l, rh, rd⟩
            have l15 := l14.trans l5
            obtain ⟨J1, J2, J3⟩ := fin I5 hw3
            refine seg_at (seg_yield rfl rfl rfl ⟨y, h5, _, G5, _, H5, z, ea, em.symm, l15, rh5, rd5, r5, J1, us, xs, pre, hU, hV, hR.mono (((l2.trans l3).trans l4).trans l5), hP, fun s'' zz hU2 ok2 => ?_⟩)
            have nhs : ∀ b ∈ hs, H5 b = none := fun b hb => by
              obtain ⟨o, e⟩ := ho b hb
              exact (J1.pin (b, o) (List.mem_append_right _ (mem_pinsAt hb e))).2.1
            have J4 : Inv X' (pinsAt hs s''.heap) (L2.wipe σ vs) H5 s'' := inv_slp P.hs (Inv.unpinned (pins := []) (pl := pinsAt hs s₀.heap) J1) nhs zz
            have ea2 : tr0.at ((gxTr vs gt mt me ρ (ds.drop (i + 1)) h5).len + 1) = .yld y h5 (gxTr vs gt mt me ρ (ds.drop (i + 1)) h5) := by rw [← em]; exact ea
            refine seg_again rfl (ih (i + 1) m s'' s'' H5 G5 h5 (us ++ [v]) (xs ++ [z]) (pre ++ [y]) (by omega) hlt l15 rh5 J4 J3 (fun b hb => let ⟨o, e, _⟩ := zz.own b hb; ⟨o, e⟩) ?_ ok2 ?_ em (by omega) hU2 (hV.append (.cons r5 .nil)) ((hR.mono (((l2.trans l3).trans l4).trans l5)).append (.cons rd5 .nil)) (by rw [List.append_assoc]; exact hP))
            · refine P.tu.keep _ _ _ J2 fun b hb o e => zz.keep b o (fun hm => P.hs.nx b hm (by rw [P.ex]; exact hb)) e
            · rw [em]; exact Tr.at_next ea2 (by omega)
end
end Sh

set_option Elab.async false
set_option linter.all false
set_option maxRecDepth 100000
set_option maxHeartbeats 4000000
/-! Sh9: a generator expression's consumers. -/
namespace Sh
open PySem PySem.Spec PyProof.Rows L2 GenW

theorem inv_gens {X : Cx} {pins : List (Addr × Obj)} {σ : L2.St} {H : Hp} {s : Shared} {gn : Array GenState} (I : Inv X pins σ H s) (h : AllBare gn) : Inv X pins σ H { s with gens := gn } :=
  ⟨I.ok, I.os, h, I.base, I.loc, I.cell, I.free, I.freeC, I.pin, I.hok, I.len⟩
/-- the consumer's own steps -/
structure Own (hs : List Addr) (s s' : Shared) : Prop where
  os : s'.os = s.os
  gens : s'.gens = s.gens
  keep : ∀ b o, b ∉ hs → s.heap.get? b = some o → s'.heap.get? b = some o
  own : ∀ b ∈ hs, ∃ o, s'.heap.get? b = some o ∧ ∀ v, o.data ≠ .cell v
structure GxAt (X : Cx) (pins : List (Addr × Obj)) (σ : L2.St) (T : Tb) (A : Around) (a : Addr) (hs : List Addr) (Hi : List Value → Heap → Prop) (G0 : Gh) (all : List D) (h : LH) (tr : Tr) (s : Shared) : Prop where
  ex : ∃ (scope : Scope) (s0 : Shared) (H0 : Hp) (C : Addr) (code : Value) (fp : List Addr) (go : Obj) (G1 G : Gh) (tr0 : Tr) (g n : Nat) (gs : GenState) (H : Hp) (σ' : L2.St) (us : List Value),
    HsOk (Cx.gx X scope A.in1 s0 H0 C code fp [(a, go)]) hs ∧ G0.le G1 ∧ G1.le G ∧ RH X.K T G h H ∧ Inv (Cx.gx X scope A.in1 s0 H0 C code fp [(a, go)]) [] σ' H s ∧ (∀ b ∈ hs, H b = none ∧ ∃ o, s.heap.get? b = some o ∧ ∀ v, o.data ≠ .cell v) ∧ tr0.all = all ∧
    tr0.at n = tr ∧ n = tr.len ∧ n ≤ tr0.len ∧ (∀ h : Heap, h.get? a = some go → h.IsGen a g) ∧ s.gens[g]? = some gs ∧ Hi us s.heap ∧
    (∀ s'', Slp hs s s'' → Hi us s''.heap → tr.ok1 → gs.Goes (model X.prog X.w) A.in1 (fun n s₀ r s₁ => r = .ok .next ∧ GxE (Cx.gx X scope A.in1 s0 H0 C code fp [(a, go)]) T G1 hs Hi tr0 n s₀ s₁) (GxY (Cx.gx X scope A.in1 s0 H0 C code fp [(a, go)]) T G1 hs Hi tr0) n (.send .none) s'') ∧
    ∀ σ' H' s', Inv (Cx.gx X scope A.in1 s0 H0 C code fp [(a, go)]) [] σ' H' s' → Inv X pins σ H' s'
/-- what a consumer's tale of the results must stand -/
structure HiOk (hs : List Addr) (Hi : List Value → Heap → Prop) : Prop where
  st : ∀ us (h h' : Heap), (∀ b ∈ hs, ∀ o, h.get? b = some o → h'.get? b = some o) → Hi us h → Hi us h'
  ex : ∀ us v (s : Shared), AllBare s.gens → (∀ b ∈ hs, ∃ o, s.heap.get? b = some o ∧ ∀ v, o.data ≠ .cell v) → Hi us s.heap → ∃ s'', Slp hs s s'' ∧ Hi (us ++ [v]) s''.heap
/-- where the consumer stops -/
def GxFin (X : Cx) (pins : List (Addr × Obj)) (σ : L2.St) (T : Tb) (G : Gh) (h : LH) (s : Shared) : Prop := ∃ H, RH X.K T G h H ∧ Inv X pins σ H s
section
variable {X : Cx} {pins : List (Addr × Obj)} {σ : L2.St} {T : Tb} {A : Around} {a : Addr} {hs : List Addr} {Hi : List Value → Heap → Prop} {G0 : Gh} {all : List D} {h h' : LH} {tr r : Tr} {d : D} {s : Shared} {E : Value → Shared → Prop}
theorem GxAt.isGen (q : GxAt X pins σ T A a hs Hi G0 all h tr s) : s.TypeIs (.ref a) "generator" ∧ ∃ g, s.heap.IsGen a g := by
  obtain ⟨scope, s0, H0, C, code, fp, go, G1, G, tr0, g, n, gs, H, σ', us, _, _, _, _, I, _, _, _, _, _, hg, _⟩ := q.ex
  have e := (I.pin (a, go) (List.mem_append_left _ (List.mem_singleton.mpr rfl))).1
  exact ⟨(hg _ e).typeIs, g, hg _ e⟩
theorem GxAt.fin (q : GxAt X pins σ T A a hs Hi G0 all h tr s) : ∃ G, G0.le G ∧ GxFin X pins σ T G h s := by
  obtain ⟨scope, s0, H0, C, code, fp, go, G1, G, tr0, g, n, gs, H, σ', us, _, l1, l2, rh, I, _, _, _, _, _, hg, _, _, _, bk⟩ := q.ex
  exact ⟨G, l1.trans l2, H, rh, bk _ _ _ I⟩
theorem slp_run {hs : List Addr} {s : Shared} {g : Nat} (hb : AllBare s.gens) (ho : ∀ b ∈ hs, ∃ o, s.heap.get? b = some o ∧ ∀ v, o.data ≠ .cell v) : Slp hs s (s.setGen g .running) :=
  ⟨rfl, allBare_setGen hb rfl, fun _ _ _ e => e, ho⟩
theorem GxAt.own (q : GxAt X pins σ T A a hs Hi G0 all h tr s) (hHi : ∀ us, Hi us s.heap → ∀ s2, Own hs s s2 → Hi us s2.heap) {s2 : Shared} (z : Own hs s s2) : GxAt X pins σ T A a hs Hi G0 all h tr s2 := by
  obtain ⟨scope, s0, H0, C, code, fp, go, G1, G, tr0, g, n, gs, H, σ', us, hok, l1, l2, rh, I, ho, ea, e1, e2, e3, hg, hgs, hU, wake, bk⟩ := q.ex
  have zs : Slp hs s s2 := ⟨z.os, by rw [z.gens]; exact I.bare, z.keep, z.own⟩
  refine ⟨scope, s0, H0, C, code, fp, go, G1, G, tr0, g, n, gs, H, σ', us, hok, l1, l2, rh, Inv.unpinned (pins := []) (inv_slp hok I (fun b hb => (ho b hb).1) zs), fun b hb => ⟨(ho b hb).1, z.own b hb⟩, ea, e1, e2, e3, hg, by rw [z.gens]; exact hgs, hHi us hU s2 z, fun s'' z2 => wake s'' (zs.trans z2), bk⟩
/-- the next result -/
theorem GxAt.yield (q : GxAt X pins σ T A a hs Hi G0 all h tr s) (etr : tr = .yld d h' r) (hA : A.handled = none) (hroom : A.depth < recursionLimit) {Q : Option Value → Shared → Prop}
    (k : ∀ v x s1 G us, G0.le G → RelV x v → RD X.K G d x → (∀ b ∈ hs, ∀ o, s.heap.get? b = some o → s1.heap.get? b = some o) → GxFin X pins σ T G h' s1 → Hi us s.heap → AllBare s1.gens →
      (∀ s2, Own hs s1 s2 → Hi (us ++ [v]) s2.heap → GxAt X pins σ T A a hs Hi G0 all h' r s2) → Q (some v) s1) : wpAny (model X.prog X.w) A (pyNext (.ref a)) Q E s := by
  obtain ⟨scope, s0, H0, C, code, fp, go, G1, G, tr0, g, n, gs, H, σ', us, hok, l1, l2, rh, I, ho, ea, e1, e2, e3, hg, hgs, hU, wake, bk⟩ := q.ex
  subst etr
  have eg := (I.pin (a, go) (List.mem_append_left _ (List.mem_singleton.mpr rfl))).1
  have hgl : g < s.gens.size := (Array.getElem?_eq_some_iff.mp hgs).1
  have e2 : n = r.len + 1 := e2
  subst e2
  refine wpAny_gsz (n := g + 1) hgl (wpAny_pyNext_genexpQ (Y := GxY (Cx.gx X scope A.in1 s0 H0 C code fp [(a, go)]) T G1 hs Hi tr0) (P := GxE (Cx.gx X scope A.in1 s0 H0 C code fp [(a, go)]) T G1 hs Hi tr0) hA I.nolimit hroom (hg _ eg) hgs (wake _ (slp_run I.bare fun b hb => (ho b hb).2) hU trivial) (fun v s₁ gs' hb hv => ?_) (fun s₁ hp h'' hk => ?_))
  · intro hsz
    obtain ⟨d2, h2, r2, G2, σ2, H2, x, y1, y2, y3, y4, y5, y6, I2, us2, xs2, pre2, u1, u2, u3, u4, kap⟩ := hv
    have y1 : tr0.at (r.len + 1) = .yld d2 h2 r2 := y1
    rw [e1] at y1
    cases y1
    have hsz' : (s₁.setGen g gs').gens.size = s₁.gens.size := GenW.setGen_size _ _ _
    have hg1 : g < s₁.gens.size := by
      have : g + 1 ≤ (s₁.setGen g gs').gens.size := hsz
      omega
    have hp2 : ∀ b ∈ hs, ∀ o, s.heap.get? b = some o → s₁.heap.get? b = some o ∧ H2 b = none ∧ ∀ v, o.data ≠ .cell v := fun b hb o e => by
      obtain ⟨p1, p2, _, _, p5⟩ := I2.pin (b, o) (List.mem_append_right _ (mem_pinsAt hb e))
      exact ⟨p1, p2, p5⟩
    have I3 : Inv (Cx.gx X scope A.in1 s0 H0 C code fp [(a, go)]) [] σ2 H2 (s₁.setGen g gs') := inv_gens (Inv.unpinned (pins := []) (pl := pinsAt hs (s.setGen g .running).heap) I2) (allBare_setGen I2.bare hb)
    have hn2 : ∀ b ∈ hs, H2 b = none := fun b hb => by
      obtain ⟨o, e, _⟩ := (ho b hb).2
      exact (hp2 b hb o e).2.1
    refine k v x _ G2 us2 (l1.trans y3) y6 y5 (fun b hb o e => (hp2 b hb o e).1) ⟨H2, y4, bk _ _ _ I3⟩ u1 I3.bare fun s2 z hU2 => ?_
    have zs : Slp hs (s₁.setGen g gs') s2 := ⟨z.os, by rw [z.gens]; exact I3.bare, z.keep, z.own⟩
    refine ⟨scope, s0, H0, C, code, fp, go, G1, G2, tr0, g, r.len, gs', H2, σ2, us2 ++ [v], hok, l1, y3, y4, Inv.unpinned (pins := []) (inv_slp hok I3 hn2 zs), fun b hb => ⟨hn2 b hb, z.own b hb⟩, ea, Tr.at_next e1 e3, rfl, by omega, hg, ?_, hU2, fun s'' z2 hU3 ok1 => ?_, bk⟩
    · rw [z.gens]; exact setGen_at hg1
    · exact kap s'' ⟨z2.os.trans z.os, z2.bare, fun b o hb e => z2.keep b o hb (z.keep b o hb e), z2.own⟩ hU3 ok1
  · exact absurd hp.1 (Nat.succ_ne_zero _)
/-- it is at its end -/
theorem GxAt.done (q : GxAt X pins σ T A a hs Hi G0 all h tr s) (hk : HiOk hs Hi) (etr : tr = .done h') (hA : A.handled = none) (hroom : A.depth < recursionLimit) {Q : Option Value → Shared → Prop}
    (k : ∀ s1 G us xs, G0.le G → GxFin X pins σ T G h' s1 → (∀ b ∈ hs, ∀ o, s.heap.get? b = some o → s1.heap.get? b = some o) → Hi us s.heap → Vals xs us → RDs X.K G all xs → AllBare s1.gens → Q none s1) : wpAny (model X.prog X.w) A (pyNext (.ref a)) Q E s := by
  obtain ⟨scope, s0, H0, C, code, fp, go, G1, G, tr0, g, n, gs, H, σ', us, hok, l1, l2, rh, I, ho, ea, e1, e2, e3, hg, hgs, hU, wake, bk⟩ := q.ex
  subst etr
  have eg := (I.pin (a, go) (List.mem_append_left _ (List.mem_singleton.mpr rfl))).1
  have e2 : n = 0 := e2
  subst e2
  refine wpAny_pyNext_genexpQ (Y := GxY (Cx.gx X scope A.in1 s0 H0 C code fp [(a, go)]) T G1 hs Hi tr0) (P := GxE (Cx.gx X scope A.in1 s0 H0 C code fp [(a, go)]) T G1 hs Hi tr0) hA I.nolimit hroom (hg _ eg) hgs (wake _ (slp_run I.bare fun b hb => (ho b hb).2) hU trivial) (fun v s₁ gs' hb hv => ?_) (fun s₁ hp h'' hk => ?_)
  · obtain ⟨d2, h2, r2, G2, σ2, H2, x, y1, y2, y3, y4, y5, y6, I2, us2, xs2, pre2, u1, u2, u3, u4, kap⟩ := hv
    exfalso
    have y1 : tr0.at 1 = .yld d2 h2 r2 := y1
    have y2 : r2.len = 0 := y2
    have hlen : r2.len + 1 ≤ tr0.len := by
      rw [y2]
      cases tr0 with
      | yld _ _ r0 => show 0 + 1 ≤ r0.len + 1; omega
      | done _ => cases y1
      | err => cases y1
    have y1' : tr0.at (r2.len + 1) = .yld d2 h2 r2 := by rw [y2]; exact y1
    have er := Tr.at_next y1' hlen
    rw [y2, e1] at er
    have hp2 : ∀ b ∈ hs, ∀ o, (s.setGen g .running).heap.get? b = some o → s₁.heap.get? b = some o := fun b hb o e => (I2.pin (b, o) (List.mem_append_right _ (mem_pinsAt hb e))).1
    obtain ⟨s'', z1, z2⟩ := hk.ex us2 v s₁ I2.bare (fun b hb => let ⟨o, e, d⟩ := (ho b hb).2; ⟨o, hp2 b hb o e, d⟩) (hk.st us2 _ _ hp2 u1)
    exact kap s'' z1 z2 (by rw [← er]; trivial)
  · obtain ⟨_, h2, G2, σ2, H2, q1, q2, q3, I2, us2, xs2, u1, u2, u3⟩ := hp
    rw [e1] at q1
    cases q1
    have I3 : Inv (Cx.gx X scope A.in1 s0 H0 C code fp [(a, go)]) [] σ2 H2 { s₁.setGen g .finished with heap := h'' } := by
      have J := inv_gens (Inv.unpinned (pins := []) (pl := pinsAt hs (s.setGen g .running).heap) I2) (allBare_setGen (g := g) (x := .finished) I2.bare rfl)
      exact J.kept (t' := s₁.toks) (h' := h'') fun b o e => hk b o e
    refine k _ G2 us2 xs2 (l1.trans q2) ⟨H2, q3, bk _ _ _ I3⟩ (fun b hb o e => hk b o ((I2.pin (b, o) (List.mem_append_right _ (mem_pinsAt hb e))).1)) u1 u2 (by rw [← ea]; exact u3) I3.bare
end
end Sh

set_option Elab.async false
set_option linter.all false
set_option maxRecDepth 100000
set_option maxHeartbeats 4000000
/-! Sh10: a generator expression is made; any, all. -/
namespace Sh
open PySem PySem.Spec PyProof.Rows L2 GenW

theorem n_le2 {x y : Nat} (h : x + 1 + 1 ≤ y) : x ≤ y := by omega
theorem n_ne2 {x y : Nat} (h : x + 1 + 1 ≤ y) : y ≠ x := by omega
theorem n_ne1 {x y z : Nat} (e : z = x + 1) (h : x + 1 + 1 ≤ y) : z ≠ y := by omega
theorem n_lt2 {x y : Nat} (h : x + 1 + 1 ≤ y) (l : y < x) : False := by omega
theorem n_ne3 {x y z : Nat} (e : z = x + 1) (l : y < x) : z ≠ y := by omega
structure GxB (X : Cx) (T : Tb) (scope : Scope) (vs : List Nat) (tg : Expr) (ifs : List Expr) (elt : Expr) (g : Gv) (mt : Bv) (me : Ev) (j : Nat) : Prop where
  g : ∀ (A : Around) (s : Shared) (H : Hp) (C : Addr) (code : Value) (fp : List Addr) (pn : List (Addr × Obj)), Room j (A.deeper (gxEnv X scope C code)) → DX (Cx.gx X scope A s H C code fp pn) T vs tg g
  t : ∀ (A : Around) (s : Shared) (H : Hp) (C : Addr) (code : Value) (fp : List Addr) (pn : List (Addr × Obj)), Room j (A.deeper (gxEnv X scope C code)) → DTs (Cx.gx X scope A s H C code fp pn) T ifs mt
  e : ∀ (A : Around) (s : Shared) (H : Hp) (C : Addr) (code : Value) (fp : List Addr) (pn : List (Addr × Obj)), Room j (A.deeper (gxEnv X scope C code)) → DE (Cx.gx X scope A s H C code fp pn) T W0 elt me
/-- the generator stands before its turns: whoever consumes it -/
structure GxNew (X : Cx) (pins : List (Addr × Obj)) (σ : L2.St) (T : Tb) (j : Nat) (a : Addr) (G0 : Gh) (h : LH) (tr : Tr) (s5 : Shared) : Prop where
  fin : GxFin X pins σ T G0 h s5
  gen : s5.TypeIs (.ref a) "generator"
  isg : ∃ g, s5.heap.IsGen a g
  lt : a < s5.heap.objs.size
  at_ : ∀ (A : Around) (hs : List Addr) (Hi : List Value → Heap → Prop) (s6 : Shared), Room (j + 2) A → A.frames = some X.stack → (∀ b ∈ hs, s5.heap.objs.size ≤ b) → s6.os = s5.os → s6.gens = s5.gens → (∀ b o, s5.heap.get? b = some o → s6.heap.get? b = some o) →
    (∀ b ∈ hs, ∃ o, s6.heap.get? b = some o ∧ ∀ v, o.data ≠ .cell v) → Hi [] s6.heap → GxAt X pins σ T A a hs Hi G0 tr.all h tr s6
section
variable {X : Cx} {pins : List (Addr × Obj)} {σ : L2.St} {H : Hp} {s : Shared} {T : Tb} {W : WX} {j : Nat} {c P : Addr} {elt tg iter : Expr} {ifs : List Expr} {scope : Scope} {own : List (Str × Nat)} {gpos : Pos} {mi : Iv} {g : Gv} {mt : Bv} {me : Ev} {G : Gh} {ρ : En} {h : LH} {Wi : List D → LH → Prop}
theorem gx_make (hr : Room (j + 4) X.A) (TB : GxR.TabB X.base X.mg c P) (hPT : (P, X.env.qual ++ "<genexpr>") ∈ T) (hTu : ∀ p ∈ T, p.1 = P → p.2 = X.env.qual ++ "<genexpr>") (hcode : X.env.code = .ref c) (ok : GxOk X.N X.env.scope scope own) (hN : X.N.Nodup) (hi : DI X T W tg iter mi) (b : GxB X T scope (own.map (·.2)) tg ifs elt g mt me j)
    (hs : ∀ v, genFold iter X.env v = pure v) (I : Inv X pins σ H s) (re : RE X.K G ρ σ) (hm : tI X.K T W mi σ H fun J H1 => ∃ G1 ds h1, G.le G1 ∧ RH X.K T G1 h1 H1 ∧ JOk X.K T G1 J ⟨ds, none⟩ ∧ Wi ds h1) {Q' : Value → Shared → Prop}
    (hQ : ∀ a s5 G1 ds h1, G.le G1 → Wi ds h1 → GxNew X pins σ T j a G1 h1 (gxTr (own.map (·.2)) g mt me ρ ds h1) s5 → Q' (.ref a) s5) :
    wpAny (model X.prog X.w) X.A (eval (.GeneratorExp elt [⟨tg, iter, ifs, 0⟩] scope gpos) X.env) Q' X.xe s := by
  have hfree : ∀ y ∈ scope.names, y.2 = .free → ∃ c, X.env.cells.lookup y.1 = some c := fun y hy e => by
    rcases ok.free y hy e with k | k
    · exact I.ok.has _ (.inl k)
    · exact I.ok.has _ (.inr k)
  refine wpAny_GeneratorExp_make ok.co (closure_ok hfree) ok.cell ok.dot ok.kind (by have := hr.dp; omega) ?_ hs
  refine thn (hi.p.run pins s σ H _ I hm) fun xv s1 hx => thn hx fun itv s2 h2 => ?_
  obtain ⟨it, fp, tn, J, H2, e, I2, Tu, st2, f2, G1, ds, h1, l1, rh1, jk, wi⟩ := h2
  subst e
  refine ⟨I2.nolimit, ?_⟩
  obtain ⟨⟨ps, hP, htr, hco⟩, _⟩ := rh1.tab _ hPT
  have hP : H2 P = some (.tbl ps) := hP
  have hPs : s2.heap.get? P = some { cls := .none, data := .fields ps } := I2.hok P _ hP
  have cd : PySem.W.CodeHd s2.heap c P := TB.code.keeps I2.bk
  have nP : ∀ b, H2 b = none → b ≠ P := fun b e z => by rw [z, hP] at e; cases e
  have cont : ∀ (code : Value) (h3 : Heap) (tk : Nat) (H3 : Hp) (G3 : Gh), Heap.ExtBut P s2.heap h3 → s2.heap.objs.size ≤ h3.objs.size → Inv X pins σ H3 { s2 with heap := h3, gens := s2.gens, drawn := s2.drawn, toks := tk } → G1.le G3 → RH X.K T G3 h1 H3 → (∀ b, H2 b = none → b < s2.heap.objs.size → H3 b = none) →
      wpAny (model X.prog X.w) X.A (builtinsFor X.env.globals X.env.builtins) (fun bi s₄ =>
        ∀ h', h'.Ns s₄.heap.objs.size (fun y => if y = ".0" then some (.ref it) else none) → Heap.SameBut s₄.heap.objs.size (s₄.heap.push { cls := .type "frame", data := .dict #[] }) h' →
          Q' (.ref h'.objs.size) { s₄ with
            gens := s₄.gens.push (.fresh (.compStart (.GeneratorExp elt [⟨tg, iter, ifs, 0⟩] scope gpos) 0 (.ref it) .none (genEnv scope (cloFrom X.env.cells scope.names []) s₄.heap.objs.size code bi X.env))),
            toks := s₄.toks + 1 + 1 + 1,
            heap := h'.push { cls := .type "generator", data := .fields #[.int s₄.gens.size 0, .str "<genexpr>" (s₄.toks + 1), .str (X.env.qual ++ "<genexpr>") (s₄.toks + 1 + 1)] } }) X.xe { s2 with heap := h3, toks := tk } := by
    intro code h3 tk H3 G3 hx hsz I3 l3 rh3 hn3
    obtain ⟨bm, ob, e1, e2, e3, e4, e5, e6, e7, e8⟩ := TB.bm
    have keep3 : ∀ b u, b ≠ P → s2.heap.get? b = some u → h3.get? b = some u := fun b u hb e => hx b u hb e
    refine wpAny_builtinsFor (m := X.mg) (by rw [I2.ok.glob]; exact ((I2.mod.glob.keeps I2.bk)).extBut hx TB.gP) e1 e2 (keep3 _ _ e4 (I2.bk _ _ e5)) e6 e7 e8 ?_
    have sz : ∀ b ∈ fp, b < s2.heap.objs.size := fun b hb => by
      obtain ⟨o, e, _⟩ := Tu.obj _ _ st2 b hb
      exact Heap.lt_size e
    have f3 : ∀ b ∈ fp, FpOk X pins H3 b ∧ b < h3.objs.size := fun b hb => by
      exact ⟨⟨hn3 b (f2 b hb).1 (sz b hb), (f2 b hb).2⟩, Nat.lt_of_lt_of_le (sz b hb) hsz⟩
    have st3 : tn 0 h3 := Tu.keep _ _ _ st2 fun b hb o e => keep3 b o (nP b (f2 b hb).1) e
    intro h' hn' hs'
    have hsz' : h'.objs.size = h3.objs.size + 1 := by rw [hs'.1, Heap.size_push]
    have keep' : ∀ b o, h3.get? b = some o → h'.get? b = some o := fun b o e => hs'.extBut b o (Nat.ne_of_lt (Heap.lt_size e)) (Heap.get?_push_of_some _ e)
    generalize hgo : ({ cls := .type "generator", data := .fields #[.int s2.gens.size 0, .str "<genexpr>" (tk + 1), .str (X.env.qual ++ "<genexpr>") (tk + 1 + 1)] } : Obj) = go
    have hgen : ∀ h : Heap, h.get? h'.objs.size = some go → h.IsGen h'.objs.size s2.gens.size := fun h e => ⟨go, _, _, e, by rw [← hgo], by rw [← hgo], by rw [← hgo]⟩
    have hgd : ∀ v, go.data ≠ .cell v := fun v q => by rw [← hgo] at q; cases q
    have hpush : (h'.push go).get? h'.objs.size = some go := by rw [← hgo]; exact Heap.get?_push_size _ rfl
    have keep5 : ∀ b o, h3.get? b = some o → (h'.push go).get? b = some o := fun b o e => Heap.get?_push_of_some _ (keep' b o e)
    have hb5 : AllBare (s2.gens.push (.fresh (.compStart (.GeneratorExp elt [⟨tg, iter, ifs, 0⟩] scope gpos) 0 (.ref it) .none (genEnv scope (cloFrom X.env.cells scope.names []) h3.objs.size code builtinsNs X.env)))) := AllBare.push I2.bare rfl
    have I5 : Inv X pins σ H3 { s2 with gens := s2.gens.push (.fresh (.compStart (.GeneratorExp elt [⟨tg, iter, ifs, 0⟩] scope gpos) 0 (.ref it) .none (genEnv scope (cloFrom X.env.cells scope.names []) h3.objs.size code builtinsNs X.env))), toks := tk + 1 + 1 + 1, heap := h'.push go } :=
      inv_gens (I3.kept (t' := tk + 1 + 1 + 1) (h' := h'.push go) keep5) hb5
    refine hQ h'.objs.size _ G3 ds h1 (l1.trans l3) wi ⟨⟨H3, rh3, I5⟩, (hgen _ hpush).typeIs, ⟨_, hgen _ hpush⟩, by show _ < (h'.push go).objs.size; rw [Heap.size_push]; exact Nat.lt_succ_self _, ?_⟩
    intro A hs6 Hi s6 hrA hfr hnew hos hgens hk6 hobj hHi
    have hk6 : ∀ b o, (h'.push go).get? b = some o → s6.heap.get? b = some o := hk6
    have hnew : ∀ b ∈ hs6, (h'.push go).objs.size ≤ b := hnew
    have szp : (h'.push go).objs.size = h3.objs.size + 1 + 1 := by rw [Heap.size_push, hsz']
    have hA : A.in1.handled = none := hrA.hd
    have hfr' : A.in1.frames = some X.stack := hfr
    have hb6 : AllBare s6.gens := by rw [hgens]; exact hb5
    have kp : ∀ b o, h3.get? b = some o → s6.heap.get? b = some o := fun b o e => hk6 b o (keep5 b o e)
    have J0 := gx_start (A := A.in1) (code := code) (h' := s6.heap) (gn := s6.gens) (tk := s6.toks) (dr := s6.drawn) (a := h'.objs.size) (go := go) I3 ok hN f3 hA hfr' kp (hn'.keeps fun b o e => hk6 b o (Heap.get?_push_of_some _ e)) hb6 (by show h3.objs.size < _; rw [hsz']; exact Nat.lt_succ_self _) (hk6 _ _ hpush) hgd
    have eta : ({ s2 with heap := s6.heap, gens := s6.gens, drawn := s6.drawn, toks := s6.toks } : Shared) = s6 := GxR.sh_eta s2 s6 (by rw [hos])
    have J1 : Inv (Cx.gx X scope A.in1 { s2 with heap := h3, gens := s2.gens, drawn := s2.drawn, toks := tk } H3 h3.objs.size code fp [(h'.objs.size, go)]) [] (L2.wipe σ (own.map (·.2))) H3 s6 := by
      have J0' : Inv (Cx.gx X scope A.in1 { s2 with heap := h3, gens := s2.gens, drawn := s2.drawn, toks := tk } H3 h3.objs.size code fp [(h'.objs.size, go)]) [] (L2.wipe σ (own.map (·.2))) H3 ({ s2 with heap := s6.heap, gens := s6.gens, drawn := s6.drawn, toks := s6.toks } : Shared) := J0
      rw [eta] at J0'
      exact J0'
    have hsO : HsOk (Cx.gx X scope A.in1 { s2 with heap := h3, gens := s2.gens, drawn := s2.drawn, toks := tk } H3 h3.objs.size code fp [(h'.objs.size, go)]) hs6 := by
      refine ⟨fun b hb => ?_, fun b hb => ?_, fun b hb z => ?_, fun b hb x c e z => ?_, fun b hb p hp => ?_, fun b hb z => ?_⟩ <;> have hb' := hnew b hb <;> rw [szp] at hb'
      · exact n_le2 hb'
      · exact n_ne2 hb'
      · exact I3.nofs (a := b) (n_le2 hb') (by
          rcases List.mem_cons.mp (I3.stkSub b z) with e | e
          · exfalso
            have q : X.env.locals < h3.objs.size := I3.lt
            rw [← e] at q
            exact n_lt2 hb' q
          · exact e)
      · obtain ⟨v, o, ho, _⟩ := J1.cell x c e
        obtain ⟨y, hy⟩ : ∃ y, X.env.cells.lookup x = some y ∧ y = c := by
          have e : (cloFrom X.env.cells scope.names []).lookup x = some c := e
          rcases cloFrom_mem (PySem.mem_of_lookup e) with hm | ⟨q1, q2⟩
          · cases hm
          · obtain ⟨c1, hc⟩ := hfree _ q1 rfl
            have hc : X.env.cells.lookup x = some c1 := hc
            exact ⟨c1, hc, by rw [q2, hc] <;> rfl⟩
        obtain ⟨w', z'⟩ := I3.cell x y hy.1
        have hl : y < h3.objs.size := z'.lt
        rw [hy.2, z] at hl
        exact n_lt2 hb' hl
      · have ep : p = (h'.objs.size, go) := by simpa using hp
        rw [ep]
        exact n_ne1 hsz' hb'
      · exact n_lt2 hb' (f3 b z).2
    have nhs : ∀ b ∈ hs6, H3 b = none := fun b hb => I3.hok.fresh (by have hb' := hnew b hb; rw [szp] at hb'; exact n_le2 hb')
    have stS : ∀ s'', Slp hs6 s6 s'' → tn 0 s''.heap := fun s'' z => Tu.keep _ _ _ st3 fun b hb o e => z.keep b o (fun hm => hsO.nx b hm hb) (kp b o e)
    refine ⟨scope, { s2 with heap := h3, gens := s2.gens, drawn := s2.drawn, toks := tk }, H3, h3.objs.size, code, fp, go, G3, G3, gxTr (own.map (·.2)) g mt me ρ ds h1, s2.gens.size, (gxTr (own.map (·.2)) g mt me ρ ds h1).len, _, H3, _, [],
      hsO, .refl _, .refl _, rh3, J1, fun b hb => ⟨nhs b hb, hobj b hb⟩, rfl, Tr.at_self _, rfl, Nat.le_refl _, hgen, by rw [hgens]; exact Array.getElem?_push_size .., hHi, ?_, ?_⟩
    · intro s'' z hH3 ok1
      refine ⟨rfl, ?_⟩
      have hrj : Room j (A.in1.deeper (gxEnv X scope h3.objs.size code)) := (hrA.in1).deeper _
      have PP : GxP (Cx.gx X scope A.in1 { s2 with heap := h3, gens := s2.gens, drawn := s2.drawn, toks := tk } H3 h3.objs.size code fp [(h'.objs.size, go)]) T A.in1 G3 hs6 (gxTr (own.map (·.2)) g mt me ρ ds h1) elt tg iter ifs scope gpos it fp tn J ds (own.map (·.2)) g mt me ρ σ :=
        ⟨rfl, hA, rfl, rfl, ok.co, hsO, rfl, fun b hb p hp => by
          have ep : p = (h'.objs.size, go) := by simpa using hp
          rw [ep]
          exact n_ne3 hsz' (f3 b hb).2, Tu, jk.mono l3, (re.mono l1).mono l3, b.g _ _ _ _ _ _ _ hrj, b.t _ _ _ _ _ _ _ hrj, b.e _ _ _ _ _ _ _ hrj⟩
      have J2 := inv_slp hsO J1 nhs z
      have loop := gx_seg PP (Hi := Hi) ds.length 0 (gxTr (own.map (·.2)) g mt me ρ ds h1).len s'' s'' H3 G3 h1 [] [] [] (Nat.sub_zero _) (Nat.zero_le _) (.refl _) rh3 J2 (fun b hb => (f3 b hb).1.1) (fun b hb => let ⟨o, e, _⟩ := z.own b hb; ⟨o, e⟩) (stS s'' z) ok1 (Tr.at_self _) rfl (Nat.le_refl _) hH3 .nil .nil rfl
      show Seg _ A.in1 _ _ _ s'' _ ((compStart (.GeneratorExp elt [⟨tg, iter, ifs, 0⟩] scope gpos) 0 (.ref it) .none (gxEnv X scope h3.objs.size code)).onRaise (leaving (gxEnv X scope h3.objs.size code))) [] s''
      unfold compStart
      rw [Sem.onRaise_eq_wrap]
      show Seg _ A.in1 _ _ _ s'' _ ((ask >>= _).wrap _ _ _ _) [] s''
      refine seg_bind_wrap (wpAny_askSetting ?_)
      split
      · exact seg_again rfl loop
      · first
          | exact seg_bind_wrap (wpAny_rule (seg_bind_wrap (wpAny_standAt (seg_bind_wrap (Tu.self _ 0 s'' _ _ (stS s'' z) (seg_again rfl loop))))))
          | (refine seg_bind_wrap (wpAny_rule ?_); show Seg _ A.in1 _ _ _ s'' _ ((standAt iter.pos >>= _).wrap _ _ _ _) [] s''; exact seg_bind_wrap (wpAny_standAt (seg_bind_wrap (Tu.self _ 0 s'' _ _ (stS s'' z) (seg_again rfl loop)))))
    · intro σ' H' s' I'
      exact I3.call' (ch := fp) I'.os I'.base I'.hok I'.bare fun b hb => ⟨(f3 b hb).1.2.2.2.1, (f3 b hb).1.2.1, (f3 b hb).1.2.2.2.2.1, (f3 b hb).1.2.2.2.2.2⟩
  cases hf : codeAmong gpos ps.toList with
  | none =>
    refine wpAny_genexprCodeX hcode (cd.code hPs htr) (cd.tab hPs) hf fun c' h' tk hx hge hlt hco' hrec htab' _ => ?_
    obtain ⟨c2, oc, vs, t, e2, hoc, hd, hv⟩ := hrec
    cases e2
    have nC : H2 c' = none := I2.hok.fresh hge
    have I3 := LamX.inv_table (q := X.env.qual ++ "<genexpr>") (t' := tk) (more := #[rawInt gpos.line, rawInt gpos.col, .ref c']) (h' := h') I2 hP hx htab'.2 hge ⟨oc, vs, t, hoc, hd, hv⟩
    have hE : LamX.ExtN H2 (upd (upd H2 P (.tbl (ps ++ #[rawInt gpos.line, rawInt gpos.col, .ref c']))) c' (LamX.CodeO c' (X.env.qual ++ "<genexpr>"))) := fun b o e n => by
      rw [upd_ne (ne_of_none e nC), upd_ne (fun z => n ps (Option.some.inj (e.symm.trans (by rw [z]; exact hP))))]
      exact e
    have eL : (ps ++ #[rawInt gpos.line, rawInt gpos.col, .ref c']).toList = ps.toList ++ [rawInt gpos.line, rawInt gpos.col, .ref c'] := by simp
    have hTT : LamX.Tabs T (upd (upd H2 P (.tbl (ps ++ #[rawInt gpos.line, rawInt gpos.col, .ref c']))) c' (LamX.CodeO c' (X.env.qual ++ "<genexpr>"))) := fun p hp => by
      by_cases hb : p.1 = P
      · rw [hTu p hp hb, hb]
        refine ⟨_, by rw [upd_ne (ne_of_none hP nC), upd_same], by rw [eL]; exact PySem.TriplesOk_snoc _ _ _ _ htr, fun p' cv hcv => ?_⟩
        rw [eL] at hcv
        rcases LamX.among_app _ htr hcv with z | z
        · obtain ⟨c0, e1, e2⟩ := hco p' cv z
          exact ⟨c0, e1, hE _ _ (rh1.F _ _ e2) LamX.codeO_ne⟩
        · exact ⟨c', z, upd_same⟩
      · obtain ⟨ps', a1, a2, a3⟩ := rh1.tabs p hp
        refine ⟨ps', by rw [upd_ne (ne_of_none a1 nC), upd_ne hb]; exact a1, a2, fun p' cv hcv => ?_⟩
        obtain ⟨c0, e1, e2⟩ := a3 p' cv hcv
        exact ⟨c0, e1, hE _ _ e2 LamX.codeO_ne⟩
    refine cont _ h' tk _ _ hx (Nat.le_trans hge (Nat.le_of_lt hlt)) I3 Gh.code_le (rh1.code hE hTT) fun b hb hl => ?_
    rw [upd_ne (fun z => absurd (Nat.lt_of_lt_of_le hl (by rw [z]; exact hge)) (Nat.lt_irrefl _)), upd_ne (nP b hb)]
    exact hb
  | some cv =>
    refine wpAny_genexprCode_hit hcode (cd.code hPs htr) hf ?_
    exact cont cv s2.heap s2.toks H2 G1 (Heap.ExtBut.refl _ _) (Nat.le_refl _) I2 (.refl _) rh1 fun b hb _ => hb
end
end Sh

set_option Elab.async false
set_option linter.all false
set_option maxRecDepth 100000
set_option maxHeartbeats 4000000
/-! Sh11: any, all of a generator expression. -/
namespace Sh
open PySem PySem.Spec PyProof.Rows L2 GenW

def tAny : Tr → Res Bool
  | .done h => .ok false h
  | .yld (.bl true) h _ => .ok true h
  | .yld (.bl false) _ r => tAny r
  | _ => .err
def tAll : Tr → Res Bool
  | .done h => .ok true h
  | .yld (.bl false) h _ => .ok false h
  | .yld (.bl true) _ r => tAll r
  | _ => .err
abbrev HiNo : List Value → Heap → Prop := fun _ _ => True
theorem hiNo : HiOk [] HiNo := ⟨fun _ _ _ _ _ => trivial, fun _ _ s hb _ _ => ⟨s, ⟨rfl, hb, fun _ _ _ e => e, fun b hb => absurd hb (by simp)⟩, trivial⟩⟩
theorem ownNo {s : Shared} : Own [] s s := ⟨rfl, rfl, fun _ _ _ e => e, fun b hb => absurd hb (by simp)⟩
section
variable {X : Cx} {pins : List (Addr × Obj)} {σ : L2.St} {T : Tb} {A : Around} {a : Addr} {G0 : Gh} {all : List D} {R : Result → Shared → Prop}
theorem any_loop (hA : A.in1.handled = none) (hroom : A.in1.depth < recursionLimit) : ∀ (tr : Tr) (h : LH) (s : Shared) (b : Bool) (h' : LH), GxAt X pins σ T A.in1 a [] HiNo G0 all h tr s → tAny tr = .ok b h' →
    (∀ s' G, G0.le G → GxFin X pins σ T G h' s' → R (.ok (.ret (.bool b))) s') → codeAny (model X.prog X.w) A (.builtin "any.loop" ⟨[.ref a], []⟩) R s := by
  intro tr
  induction tr with
  | err => intro h s b h' q e; cases e
  | done h0 =>
    intro h s b h' q e hR
    cases e
    refine codeAny_builtin F.entry_any_loop ?_
    rw [Around.under_plainId F.plain_any_loop _]
    show wpAny _ A.in1 (pyNext (.ref a) >>= _) _ _ s
    refine wpAny_bind (q.done hiNo rfl hA hroom fun s1 G us xs l f _ _ _ _ _ => ?_)
    exact wpAny_bind (wpAny_rule (wpAny_pure (hR s1 G l f)))
  | yld d h0 r ih =>
    intro h s b h' q e hR
    refine codeAny_builtin F.entry_any_loop ?_
    rw [Around.under_plainId F.plain_any_loop _]
    show wpAny _ A.in1 (pyNext (.ref a) >>= _) _ _ s
    cases d with
    | bl k =>
      refine wpAny_bind (q.yield rfl hA hroom fun v x s1 G us l rv rd _ f _ _ nx => ?_)
      cases rd
      have ev : v = .bool k := rv
      subst ev
      refine wpAny_bind (wpAny_holding (wpAny_truthy_bool ?_))
      refine wpAny_bind (wpAny_letGo ?_)
      cases k with
      | false =>
        simp only [Bool.false_eq_true, if_false]
        exact wpAny_pure ⟨plainId_quiet F.plain_any_loop _, ih h0 _ b h' (nx _ ownNo trivial) e hR⟩
      | true =>
        cases e
        simp only [if_true]
        exact wpAny_bind (wpAny_rule (wpAny_pure (hR s1 G l f)))
    | _ => cases e
theorem all_loop (hA : A.in1.handled = none) (hroom : A.in1.depth < recursionLimit) : ∀ (tr : Tr) (h : LH) (s : Shared) (b : Bool) (h' : LH), GxAt X pins σ T A.in1 a [] HiNo G0 all h tr s → tAll tr = .ok b h' →
    (∀ s' G, G0.le G → GxFin X pins σ T G h' s' → R (.ok (.ret (.bool b))) s') → codeAny (model X.prog X.w) A (.builtin "all.loop" ⟨[.ref a], []⟩) R s := by
  intro tr
  induction tr with
  | err => intro h s b h' q e; cases e
  | done h0 =>
    intro h s b h' q e hR
    cases e
    refine codeAny_builtin F.entry_all_loop ?_
    rw [Around.under_plainId F.plain_all_loop _]
    show wpAny _ A.in1 (pyNext (.ref a) >>= _) _ _ s
    refine wpAny_bind (q.done hiNo rfl hA hroom fun s1 G us xs l f _ _ _ _ _ => ?_)
    exact wpAny_bind (wpAny_rule (wpAny_pure (hR s1 G l f)))
  | yld d h0 r ih =>
    intro h s b h' q e hR
    refine codeAny_builtin F.entry_all_loop ?_
    rw [Around.under_plainId F.plain_all_loop _]
    show wpAny _ A.in1 (pyNext (.ref a) >>= _) _ _ s
    cases d with
    | bl k =>
      refine wpAny_bind (q.yield rfl hA hroom fun v x s1 G us l rv rd _ f _ _ nx => ?_)
      cases rd
      have ev : v = .bool k := rv
      subst ev
      refine wpAny_bind (wpAny_holding (wpAny_truthy_bool ?_))
      refine wpAny_bind (wpAny_letGo ?_)
      cases k with
      | true =>
        simp only [if_true]
        exact wpAny_pure ⟨plainId_quiet F.plain_all_loop _, ih h0 _ b h' (nx _ ownNo trivial) e hR⟩
      | false =>
        cases e
        simp only [Bool.false_eq_true, if_false]
        exact wpAny_bind (wpAny_rule (wpAny_pure (hR s1 G l f)))
    | _ => cases e
end
/-- a generator expression given to f -/
def eGx (f : Tr → Res D) (mi : Iv) (vs : List Nat) (g : Gv) (mt : Bv) (me : Ev) : Ev := fun ρ h => (mi ρ h).bind fun t h1 => match t.g with
  | none => f (gxTr vs g mt me ρ t.ds h1)
  | some _ => .err
def tBl (f : Tr → Res Bool) (t : Tr) : Res D := (f t).bind fun b h => .ok (.bl b) h
theorem tBl_ok {f : Tr → Res Bool} {t : Tr} {d : D} {h : LH} (e : tBl f t = .ok d h) : ∃ b, d = .bl b ∧ f t = .ok b h := by
  unfold tBl at e
  cases q : f t with
  | ok b h1 => rw [q] at e; cases e; exact ⟨b, rfl, rfl⟩
  | exc c h1 => rw [q] at e; cases e
  | err => rw [q] at e; cases e
section
variable {X : Cx} {T : Tb} {W : WX} {j : Nat} {c P : Addr} {elt tg iter : Expr} {ifs : List Expr} {scope : Scope} {own : List (Str × Nat)} {p gpos pos : Pos} {mi : Iv} {g : Gv} {mt : Bv} {me : Ev} {x : Str}
/-- a call of f with a generator expression alone -/
theorem de_gx {f : Tr → Res D} (hf : ∀ t c h, f t ≠ .exc c h) (hr : Room (j + 4) X.A) (TB : GxR.TabB X.base X.mg c P) (hPT : (P, X.env.qual ++ "<genexpr>") ∈ T) (hTu : ∀ p ∈ T, p.1 = P → p.2 = X.env.qual ++ "<genexpr>") (hcode : X.env.code = .ref c) (ok : GxOk X.N X.env.scope scope own) (hN : X.N.Nodup) (hi : DI X T W tg iter mi) (b : GxB X T scope (own.map (·.2)) tg ifs elt g mt me j)
    (hfo : ∀ v, genFold iter X.env v = pure v) {callF : Value → Sem Value}
    (hcons : ∀ (pins : List (Addr × Obj)) (σ : L2.St) (s5 : Shared) (G1 : Gh) (h1 : LH) (tr : Tr) (a : Addr) (d : D) (h' : LH) (Q : Value → Shared → Prop), GxNew X pins σ T j a G1 h1 tr s5 → f tr = .ok d h' →
      (∀ v s', (∃ G2 x, G1.le G2 ∧ GxFin X pins σ T G2 h' s' ∧ RD X.K G2 d x ∧ RelV x v) → Q v s') → wpAny (model X.prog X.w) X.A (callF (.ref a)) Q X.xe s5)
    (hcall : ∀ (pins : List (Addr × Obj)) (σ : L2.St) (H : Hp) (s : Shared) (Q : Value → Shared → Prop), Inv X pins σ H s → wpAny (model X.prog X.w) X.A (eval (.GeneratorExp elt [⟨tg, iter, ifs, 0⟩] scope gpos) X.env) (fun u s5 => wpAny (model X.prog X.w) X.A (callF u) Q X.xe s5) X.xe s → wpAny (model X.prog X.w) X.A (eval (.Call (.Name x p) [.GeneratorExp elt [⟨tg, iter, ifs, 0⟩] scope gpos] [] pos) X.env) Q X.xe s) :
    DE X T W (.Call (.Name x p) [.GeneratorExp elt [⟨tg, iter, ifs, 0⟩] scope gpos] [] pos) (eGx f mi (own.map (·.2)) g mt me) := by
  refine ⟨⟨fun pins s σ H Q I ⟨G, ρ, h, re, rh, p⟩ => ?_⟩⟩
  unfold eGx at p
  refine hcall pins σ H s _ I (gx_make (Wi := fun ds h1 => Post X.K T W σ G (f (gxTr (own.map (·.2)) g mt me ρ ds h1)) Q) hr TB hPT hTu hcode ok hN hi b hfo I re ⟨G, ρ, h, re, rh, ?_⟩ fun a s5 G1 ds h1 l1 p q => ?_)
  · cases e0 : mi ρ h with
    | err => rw [e0] at p; exact p
    | exc c h1 => rw [e0] at p; exact p
    | ok t h1 =>
      rw [e0] at p
      obtain ⟨ds, gg⟩ := t
      cases gg with
      | some n => exact p.elim
      | none => exact fun G1 H1 J l1 r1 jk => ⟨G1, ds, h1, l1, r1, jk, p⟩
  · have p : Post X.K T W σ G (f (gxTr (own.map (·.2)) g mt me ρ ds h1)) Q := p
    cases ef : f (gxTr (own.map (·.2)) g mt me ρ ds h1) with
    | err => rw [ef] at p; exact p.elim
    | exc c h2 => exact absurd ef (hf _ _ _)
    | ok d h2 =>
      rw [ef] at p
      exact hcons pins σ s5 G1 h1 _ a d h2 _ q ef fun v s' ⟨G2, x, l2, ⟨H2, rh2, I2⟩, rd, rv⟩ => ⟨x, H2, I2, rv, p G2 H2 x (l1.trans l2) rh2 rd⟩
def tAnyR : Tr → Res D := tBl tAny
def tAllR : Tr → Res D := tBl tAll
theorem tBl_exc {f : Tr → Res Bool} (hf : ∀ t c h, f t ≠ .exc c h) : ∀ t c h, tBl f t ≠ .exc c h := fun t c h e => by
  unfold tBl at e
  cases q : f t with
  | ok b h1 => rw [q] at e; cases e
  | exc c h1 => exact hf _ _ _ q
  | err => rw [q] at e; cases e
theorem tAny_exc : ∀ t c h, tAny t ≠ .exc c h
  | .done _, _, _, e => by cases e
  | .err, _, _, e => by cases e
  | .yld d h r, c, h', e => by
    cases d with
    | bl k => cases k with
      | true => cases e
      | false => exact tAny_exc r c h' e
    | _ => cases e
theorem tAll_exc : ∀ t c h, tAll t ≠ .exc c h
  | .done _, _, _, e => by cases e
  | .err, _, _, e => by cases e
  | .yld d h r, c, h', e => by
    cases d with
    | bl k => cases k with
      | false => cases e
      | true => exact tAll_exc r c h' e
    | _ => cases e
theorem cons_any (hr : Room (j + 4) X.A) (pins : List (Addr × Obj)) (σ : L2.St) (s5 : Shared) (G1 : Gh) (h1 : LH) (tr : Tr) (a : Addr) (d : D) (h' : LH) (Q : Value → Shared → Prop) (q : GxNew X pins σ T j a G1 h1 tr s5) (e : tAnyR tr = .ok d h')
    (hQ : ∀ v s', (∃ G2 x, G1.le G2 ∧ GxFin X pins σ T G2 h' s' ∧ RD X.K G2 d x ∧ RelV x v) → Q v s') : wpAny (model X.prog X.w) X.A (call (.builtin "any") [.ref a]) Q X.xe s5 := by
  obtain ⟨b, rfl, e2⟩ := tBl_ok e
  obtain ⟨g, isg⟩ := q.isg
  obtain ⟨H5, rh5, I5⟩ := q.fin
  refine call_function_tree F.kind_any F.plain_any F.entry_any (F.args_any1 _) ?_
  unfold Builtin.«any»
  refine wpAny_bind (m := oneArg "any" _) (wpAny_pure ?_)
  refine wpAny_bind (wpAny_pyIter_gen isg ?_)
  have hr1 : Room (j + 2) X.A.in1 := (hr.mono (by omega : j + 3 ≤ j + 4)).in1
  have q6 := q.at_ X.A.in1 [] HiNo s5 hr1 I5.ok.frames (fun b hb => absurd hb (by simp)) rfl rfl (fun _ _ e => e) (fun b hb => absurd hb (by simp)) trivial
  exact wpAny_pure ⟨plainId_quiet F.plain_any_loop _, any_loop hr1.hd (by have := hr1.dp; omega) tr h1 s5 b h' q6 e2 fun s' G l f => hQ _ _ ⟨G, .bl b, l, f, .bl b, rfl⟩⟩
theorem cons_all (hr : Room (j + 4) X.A) (pins : List (Addr × Obj)) (σ : L2.St) (s5 : Shared) (G1 : Gh) (h1 : LH) (tr : Tr) (a : Addr) (d : D) (h' : LH) (Q : Value → Shared → Prop) (q : GxNew X pins σ T j a G1 h1 tr s5) (e : tAllR tr = .ok d h')
    (hQ : ∀ v s', (∃ G2 x, G1.le G2 ∧ GxFin X pins σ T G2 h' s' ∧ RD X.K G2 d x ∧ RelV x v) → Q v s') : wpAny (model X.prog X.w) X.A (call (.builtin "all") [.ref a]) Q X.xe s5 := by
  obtain ⟨b, rfl, e2⟩ := tBl_ok e
  obtain ⟨g, isg⟩ := q.isg
  obtain ⟨H5, rh5, I5⟩ := q.fin
  refine call_function_tree F.kind_all F.plain_all F.entry_all (F.args_all1 _) ?_
  unfold Builtin.«all»
  refine wpAny_bind (m := oneArg "all" _) (wpAny_pure ?_)
  refine wpAny_bind (wpAny_pyIter_gen isg ?_)
  have hr1 : Room (j + 2) X.A.in1 := (hr.mono (by omega : j + 3 ≤ j + 4)).in1
  have q6 := q.at_ X.A.in1 [] HiNo s5 hr1 I5.ok.frames (fun b hb => absurd hb (by simp)) rfl rfl (fun _ _ e => e) (fun b hb => absurd hb (by simp)) trivial
  exact wpAny_pure ⟨plainId_quiet F.plain_all_loop _, all_loop hr1.hd (by have := hr1.dp; omega) tr h1 s5 b h' q6 e2 fun s' G l f => hQ _ _ ⟨G, .bl b, l, f, .bl b, rfl⟩⟩
theorem hcall_b {id : String} {A : Expr} (hg : Gl X x) (hm : X.mg x = none) (hv : bootBuiltins x = some (.builtin id)) (hn : x ≠ "__name__" := by decide) (hdb : (x == ("__debug__" : Str)) = false := by decide)
    (he : starEach [A] X.env = (false, eval A X.env) :: starEach [] X.env := by rfl) (pins : List (Addr × Obj)) (σ : L2.St) (H : Hp) (s : Shared) (Q : Value → Shared → Prop) (I : Inv X pins σ H s)
    (h : wpAny (model X.prog X.w) X.A (eval A X.env) (fun u s5 => wpAny (model X.prog X.w) X.A (call (.builtin id) [u]) Q X.xe s5) X.xe s) : wpAny (model X.prog X.w) X.A (eval (.Call (.Name x p) [A] [] pos) X.env) Q X.xe s := by
  refine wpAny_Call_Name_kw (ld_blt I hg hm hv ?_ hn hdb)
  refine PyProof.Rows.callWith_builtin1 ?_ he (by rfl)
  rw [he]
  show wpAny _ _ (spliced ((false, eval A X.env) :: backTo pos (starEach [] X.env))) _ _ s
  exact Calls.spliced_cons (wpAny_mono h (fun u s5 h5 => Calls.spliced_nil h5) fun _ _ z => z)
theorem hcall_t {id : String} {A : Expr} (hg : Gl X x) (hm : X.mg x = none) (hv : bootBuiltins x = some (.type id)) (hn : x ≠ "__name__" := by decide) (hdb : (x == ("__debug__" : Str)) = false := by decide)
    (he : starEach [A] X.env = (false, eval A X.env) :: starEach [] X.env := by rfl) (pins : List (Addr × Obj)) (σ : L2.St) (H : Hp) (s : Shared) (Q : Value → Shared → Prop) (I : Inv X pins σ H s)
    (h : wpAny (model X.prog X.w) X.A (eval A X.env) (fun u s5 => wpAny (model X.prog X.w) X.A (call (.type id) [u]) Q X.xe s5) X.xe s) : wpAny (model X.prog X.w) X.A (eval (.Call (.Name x p) [A] [] pos) X.env) Q X.xe s := by
  refine wpAny_Call_Name_kw (ld_blt I hg hm hv ?_ hn hdb)
  refine PyProof.Rows.callWith_type1 ?_ he (by rfl)
  rw [he]
  show wpAny _ _ (spliced ((false, eval A X.env) :: backTo pos (starEach [] X.env))) _ _ s
  exact Calls.spliced_cons (wpAny_mono h (fun u s5 h5 => Calls.spliced_nil h5) fun _ _ z => z)
/-- any(elt for tg in iter if ..) -/
theorem de_any (hr : Room (j + 4) X.A) (TB : GxR.TabB X.base X.mg c P) (hPT : (P, X.env.qual ++ "<genexpr>") ∈ T) (hTu : ∀ p ∈ T, p.1 = P → p.2 = X.env.qual ++ "<genexpr>") (hcode : X.env.code = .ref c) (hg : Gl X "any") (hm : X.mg "any" = none) (ok : GxOk X.N X.env.scope scope own) (hN : X.N.Nodup) (hi : DI X T W tg iter mi) (b : GxB X T scope (own.map (·.2)) tg ifs elt g mt me j)
    (hfo : ∀ v, genFold iter X.env v = pure v := by intro _; rfl) (he : starEach [.GeneratorExp elt [⟨tg, iter, ifs, 0⟩] scope gpos] X.env = (false, eval (.GeneratorExp elt [⟨tg, iter, ifs, 0⟩] scope gpos) X.env) :: starEach [] X.env := by rfl) :
    DE X T W (.Call (.Name "any" p) [.GeneratorExp elt [⟨tg, iter, ifs, 0⟩] scope gpos] [] pos) (eGx tAnyR mi (own.map (·.2)) g mt me) :=
  de_gx (tBl_exc tAny_exc) hr TB hPT hTu hcode ok hN hi b hfo (cons_any hr) (hcall_b hg hm (by rfl) (by decide) (by decide) he)
theorem de_all (hr : Room (j + 4) X.A) (TB : GxR.TabB X.base X.mg c P) (hPT : (P, X.env.qual ++ "<genexpr>") ∈ T) (hTu : ∀ p ∈ T, p.1 = P → p.2 = X.env.qual ++ "<genexpr>") (hcode : X.env.code = .ref c) (hg : Gl X "all") (hm : X.mg "all" = none) (ok : GxOk X.N X.env.scope scope own) (hN : X.N.Nodup) (hi : DI X T W tg iter mi) (b : GxB X T scope (own.map (·.2)) tg ifs elt g mt me j)
    (hfo : ∀ v, genFold iter X.env v = pure v := by intro _; rfl) (he : starEach [.GeneratorExp elt [⟨tg, iter, ifs, 0⟩] scope gpos] X.env = (false, eval (.GeneratorExp elt [⟨tg, iter, ifs, 0⟩] scope gpos) X.env) :: starEach [] X.env := by rfl) :
    DE X T W (.Call (.Name "all" p) [.GeneratorExp elt [⟨tg, iter, ifs, 0⟩] scope gpos] [] pos) (eGx tAllR mi (own.map (·.2)) g mt me) :=
  de_gx (tBl_exc tAll_exc) hr TB hPT hTu hcode ok hN hi b hfo (cons_all hr) (hcall_b hg hm (by rfl) (by decide) (by decide) he)
end
end Sh

set_option Elab.async false
set_option linter.all false
set_option maxRecDepth 100000
set_option maxHeartbeats 4000000
/-! Sh12: tuple of a generator expression. -/
namespace Sh
open PySem PySem.Spec PyProof.Rows L2 GenW

def tLst : Tr → Res (List D)
  | .done h => .ok [] h
  | .yld d _ r => (tLst r).bind fun ds h => .ok (d :: ds) h
  | .err => .err
theorem tLst_ok : ∀ {t : Tr} {ds : List D} {h : LH}, tLst t = .ok ds h → t.all = ds ∧ t.len = ds.length
  | .done _, _, _, e => by cases e; exact ⟨rfl, rfl⟩
  | .err, _, _, e => by cases e
  | .yld d h0 r, ds, h, e => by
    unfold tLst at e
    cases q : tLst r with
    | ok ds1 h1 =>
      rw [q] at e; cases e
      obtain ⟨a, b⟩ := tLst_ok q
      exact ⟨by show d :: r.all = _; rw [a], by show r.len + 1 = _; rw [b]; rfl⟩
    | exc c h1 => rw [q] at e; cases e
    | err => rw [q] at e; cases e
theorem tLst_exc : ∀ t c h, tLst t ≠ .exc c h
  | .done _, _, _, e => by cases e
  | .err, _, _, e => by cases e
  | .yld d h0 r, c, h, e => by
    unfold tLst at e
    cases q : tLst r with
    | ok ds1 h1 => rw [q] at e; cases e
    | exc c h1 => exact tLst_exc _ _ _ q
    | err => rw [q] at e; cases e
/-- the list at S tells the results -/
abbrev HiS (S : Addr) : List Value → Heap → Prop := fun us h => ∃ acc c, acc.toList = us ∧ h.get? S = some (lstObj acc c)
theorem lst_ncell {us : Array Value} {c : Nat} : ∀ v, (lstObj us c).data ≠ .cell v := fun v q => by cases q
theorem hiS_push {S : Addr} {acc : Array Value} {c : Nat} {v : Value} {h : Heap} (e : h.get? S = some (lstObj acc c)) : ∃ c', (h.update S (Obj.mapSeq (·.push v))).get? S = some (lstObj (acc.push v) c') := ⟨_, Heap.get?_update_self _ e rfl⟩
theorem hiS (S : Addr) : HiOk [S] (HiS S) := by
  refine ⟨fun us h h' k ⟨acc, c, e0, e⟩ => ⟨acc, c, e0, k S (by simp) _ e⟩, fun us v s hb _ ⟨acc, c, e0, e⟩ => ?_⟩
  obtain ⟨c', e3⟩ := hiS_push (v := v) e
  refine ⟨{ s with heap := s.heap.update S (Obj.mapSeq (·.push v)) }, ⟨rfl, hb, fun b o hn e => ?_, fun b hb => ?_⟩, _, c', by rw [Array.toList_push, e0], e3⟩
  · exact (Heap.get?_update_other _ _ (fun z => hn (by rw [z]; simp))).trans e
  · rw [List.mem_singleton.mp hb]
    exact ⟨_, e3, lst_ncell⟩
theorem hiS_inj {S : Addr} {us us' : List Value} {h : Heap} (a : HiS S us h) (b : HiS S us' h) : us = us' := by
  obtain ⟨acc, c, e0, e⟩ := a
  obtain ⟨acc', c', e0', e'⟩ := b
  rw [e] at e'
  have q := Option.some.inj e'
  injection q with _ _ q3 _
  injection q3 with q4 _
  rw [← e0, ← e0', q4]
section
variable {X : Cx} {pins : List (Addr × Obj)} {σ : L2.St} {T : Tb} {A : Around} {a S : Addr} {G0 : Gh} {all : List D} {R : Result → Shared → Prop} {res : Value}
theorem ext_loop (hA : A.in1.handled = none) (hroom : A.in1.depth < recursionLimit) : ∀ (tr : Tr) (h : LH) (s : Shared) (us : List Value) (ds : List D) (h' : LH), GxAt X pins σ T A.in1 a [S] (HiS S) G0 all h tr s → HiS S us s.heap → tLst tr = .ok ds h' → us.length + ds.length ≤ sizeLine →
    (∀ s' G us' xs, G0.le G → GxFin X pins σ T G h' s' → HiS S us' s'.heap → Vals xs us' → RDs X.K G all xs → R (.ok (.ret res)) s') → codeAny (model X.prog X.w) A (.builtin "list.extend.loop" ⟨[.ref S, .ref a, res], []⟩) R s := by
  intro tr
  induction tr with
  | err => intro h s us ds h' q hu e; cases e
  | done h0 =>
    intro h s us ds h' q hu e hl hR
    cases e
    refine codeAny_builtin F.entry_extend_loop ?_
    rw [Around.under_plainId F.plain_extend_loop _]
    show wpAny _ A.in1 (pyNext (.ref a) >>= _) _ _ s
    refine wpAny_bind (q.done (hiS S) rfl hA hroom fun s1 G us2 xs l f k hu2 hv hrd _ => ?_)
    exact wpAny_pure (hR s1 G us2 xs l f ((hiS S).st _ _ _ k hu2) hv hrd)
  | yld d h0 r ih =>
    intro h s us ds h' q hu e hl hR
    unfold tLst at e
    cases e1 : tLst r with
    | exc c h1 => rw [e1] at e; cases e
    | err => rw [e1] at e; cases e
    | ok ds1 h1 =>
      rw [e1] at e
      cases e
      have hl : us.length + (ds1.length + 1) ≤ sizeLine := hl
      refine codeAny_builtin F.entry_extend_loop ?_
      rw [Around.under_plainId F.plain_extend_loop _]
      show wpAny _ A.in1 (pyNext (.ref a) >>= _) _ _ s
      refine wpAny_bind (q.yield rfl hA hroom fun v x s1 G us2 l rv rd k f hu2 hb nx => ?_)
      have eu := hiS_inj hu hu2
      subst eu
      obtain ⟨acc, c, e0, eS⟩ := (hiS S).st _ _ _ k hu2
      have ez : acc.size = us.length := by rw [← e0]; simp
      show wpAny _ A.in1 (updateSeq S (·.push v) >>= _) _ _ _
      refine wpAny_bind ?_
      refine wpAny_updateSeq eS rfl (wpAny_pure ⟨plainId_quiet F.plain_extend_loop _, ?_⟩) (by omega) (by show (acc.push v).size ≤ sizeLine + 1; rw [Array.size_push]; omega)
      obtain ⟨c', e3⟩ := hiS_push (v := v) eS
      have e4 : HiS S (us ++ [v]) (s1.heap.update S (Obj.mapSeq (·.push v))) := ⟨_, c', by rw [Array.toList_push, e0], e3⟩
      refine ih h0 _ (us ++ [v]) ds1 _ (nx _ ⟨rfl, rfl, fun b o hn e => ?_, fun b hb => ?_⟩ e4) e4 e1 (by rw [List.length_append, List.length_singleton]; omega) hR
      · exact (Heap.get?_update_other _ _ (fun z => hn (by rw [z]; simp))).trans e
      · rw [List.mem_singleton.mp hb]
        exact ⟨_, e3, lst_ncell⟩
end
section
variable {X : Cx} {pins : List (Addr × Obj)} {σ : L2.St} {T : Tb} {A : Around} {a : Addr} {G1 : Gh} {j : Nat} {h1 h' : LH} {tr : Tr} {ds : List D} {E : Value → Shared → Prop} {s : Shared}
/-- all results, put together -/
theorem gx_collect {Q : List Value → Shared → Prop} (q : GxNew X pins σ T j a G1 h1 tr s) (hr : Room (j + 3) A) (hfr : A.frames = some X.stack) (e : tLst tr = .ok ds h') (hl : ds.length ≤ sizeLine)
    (hQ : ∀ s' G us xs, G1.le G → GxFin X pins σ T G h' s' → Vals xs us → RDs X.K G ds xs → Q us s') : wpAny (model X.prog X.w) A (collect (.ref a)) Q E s := by
  obtain ⟨g, isg⟩ := q.isg
  have hSa : s.heap.objs.size ≠ a := Nat.ne_of_gt q.lt
  have hr1 : Room (j + 2) A.in1 := hr.in1
  unfold collect
  refine wpAny_bind (wpAny_runValue (codeAny_builtin F.entry_proto_collect ?_))
  rw [Around.under_plainId F.plain_proto_collect _]
  show wpAny _ A.in1 (newList [] >>= fun l => again (.builtin "list.__iadd__" ⟨[l, .ref a], []⟩)) _ _ s
  refine wpAny_bind (wpAny_newObj_type ?_)
  refine wpAny_pure ⟨plainId_quiet F.plain_list_iadd _, codeAny_builtin F.entry_list_iadd ?_⟩
  rw [Around.under_plainId F.plain_list_iadd _]
  have isg1 : (s.heap.push { cls := .type "list", data := .seq ([] : List Value).toArray }).IsGen a g := isg.push _
  have hT : ({ s with heap := s.heap.push { cls := .type "list", data := .seq ([] : List Value).toArray } } : Shared).TypeIs (.ref a) "generator" := isg1.typeIs
  show wpAny _ A.in1 (Builtin.List.listExtendWith (.ref s.heap.objs.size) (.ref a) (.ref s.heap.objs.size)) _ _ _
  unfold Builtin.List.listExtendWith
  refine wpAny_bind (wpAny_typeOf hT ?_)
  have h1 : Builtin.List.listSameRef (.ref s.heap.objs.size) (.ref a) = false := by simp [Builtin.List.listSameRef, hSa]
  have h2 : (Value.type "generator" == Value.type "list") = false := by decide
  have h3 : (Value.type "generator" == Value.type "tuple") = false := by decide
  simp only [h1, h2, h3, Bool.or_false, Bool.false_eq_true, if_false]
  refine wpAny_bind (wpAny_pyIter_gen isg1 ?_)
  refine wpAny_bind (wpAny_holding ?_)
  unfold Builtin.List.listLengthHint
  refine wpAny_bind (wpAny_specialOf hT F.gen_no_len ?_)
  show wpAny _ A.in1 (specialOf (Value.ref a) (Str.ofString "__length_hint__") >>= _) _ _ _
  refine wpAny_bind (wpAny_specialOf hT F.gen_no_hint ?_)
  refine wpAny_pure ?_
  show wpAny _ A.in1 (rule "list.extend.makes-room" >>= fun _ => Builtin.List.listTouch (.ref s.heap.objs.size) >>= fun _ =>
    again (.builtin "list.extend.loop" ⟨[.ref s.heap.objs.size, .ref a, .ref s.heap.objs.size], []⟩)) _ _ _
  refine wpAny_bind (wpAny_rule ?_)
  have hS₁ : (s.heap.push { cls := .type "list", data := .seq ([] : List Value).toArray }).get? s.heap.objs.size = some { cls := .type "list", data := .seq ([] : List Value).toArray } := Heap.get?_push_size _ rfl
  refine wpAny_bind ?_
  show wpAny _ A.in1 (updateSeq s.heap.objs.size (·.push .none) >>= fun _ => updateSeq s.heap.objs.size (·.pop)) _ _ _
  refine wpAny_bind (wpAny_updateSeq hS₁ rfl ?_)
  have hS₂ := Heap.get?_update_self (Obj.mapSeq (·.push Value.none)) hS₁ rfl
  refine wpAny_updateSeq hS₂ rfl ?_
  have hS₃ := Heap.get?_update_self (Obj.mapSeq (·.pop)) hS₂ rfl
  have oth : ∀ b o, s.heap.get? b = some o →
      (((s.heap.push { cls := .type "list", data := .seq ([] : List Value).toArray }).update s.heap.objs.size (Obj.mapSeq (·.push Value.none))).update s.heap.objs.size (Obj.mapSeq (·.pop))).get? b = some o :=
    fun b o e => by
      have hb : s.heap.objs.size ≠ b := Nat.ne_of_gt (Heap.lt_size e)
      exact (Heap.get?_update_other _ _ hb).trans ((Heap.get?_update_other _ _ hb).trans (Heap.get?_push_of_some _ e))
  have hi0 : HiS s.heap.objs.size [] (((s.heap.push { cls := .type "list", data := .seq ([] : List Value).toArray }).update s.heap.objs.size (Obj.mapSeq (·.push Value.none))).update s.heap.objs.size (Obj.mapSeq (·.pop))) := ⟨_, _, rfl, hS₃⟩
  refine wpAny_pure ⟨plainId_quiet F.plain_extend_loop _, ext_loop hr1.hd (by have := hr1.dp; omega) tr _ _ [] ds h' (q.at_ A.in1 [s.heap.objs.size] (HiS s.heap.objs.size) _ hr1 hfr (fun b hb => Nat.le_of_eq (List.mem_singleton.mp hb).symm) rfl rfl oth (fun b hb => ?_) hi0) hi0 e (by simpa using hl) fun s' G us' xs l f ⟨acc, c, e0, eS⟩ hv hrd => ?_⟩
  · rw [List.mem_singleton.mp hb]
    exact ⟨_, hS₃, fun v q => by cases q⟩
  · show wpAny _ A (load s.heap.objs.size >>= _) _ _ s'
    refine wpAny_bind (wpAny_load eS ?_)
    rw [(tLst_ok e).1] at hrd
    exact wpAny_pure (by
      have z := hQ s' G us' xs l f hv hrd
      rw [← e0] at z
      exact z)
def tTup : Tr → Res D := fun t => (tLst t).bind fun ds h => if fits ds.length then .ok (.tup ds) h else .err
theorem tTup_exc : ∀ t c h, tTup t ≠ .exc c h := fun t c h e => by
  unfold tTup at e
  cases q : tLst t with
  | ok ds h1 =>
    rw [q] at e
    simp only [Res.bind] at e
    split at e <;> cases e
  | exc c h1 => exact tLst_exc _ _ _ q
  | err => rw [q] at e; cases e
theorem cons_tup (hr : Room (j + 6) X.A) (pins : List (Addr × Obj)) (σ : L2.St) (s5 : Shared) (G1 : Gh) (h1 : LH) (tr : Tr) (a : Addr) (d : D) (h' : LH) (Q : Value → Shared → Prop) (q : GxNew X pins σ T j a G1 h1 tr s5) (e : tTup tr = .ok d h')
    (hQ : ∀ v s', (∃ G2 x, G1.le G2 ∧ GxFin X pins σ T G2 h' s' ∧ RD X.K G2 d x ∧ RelV x v) → Q v s') : wpAny (model X.prog X.w) X.A (call (.type "tuple") [.ref a]) Q X.xe s5 := by
  obtain ⟨H5, rh5, I5⟩ := q.fin
  unfold tTup at e
  cases el : tLst tr with
  | exc c h1 => exact absurd el (tLst_exc _ _ _)
  | err => rw [el] at e; cases e
  | ok ds h2 =>
    rw [el] at e
    simp only [Res.bind] at e
    split at e
    · rename_i hf
      cases e
      have hT := q.gen
      refine callType_codes (Q₁ := fun obj s₁ => s₁.TypeIs obj "tuple" ∧ Q obj s₁) F.called_tuple (F.typeCall_tuple_1 _) F.entry_object_init ?_ fun obj s₁ h₁ => ⟨h₁.1, F.args_object_init_2 obj _, object_init_meets F.called_tuple.init.lookup F.called_tuple.made (by decide) X.prog X.w X.A.in1 _ s₁ ⟨h₁.1, rfl, h₁.2⟩⟩
      refine codeAny_of_tree ?_
      show wpAny _ X.A.in1.in1 (do checkBuiltinCall "tuple.__new__" ⟨[.type "tuple", .ref a], []⟩; again (.builtin "tuple.__new__" ⟨[.type "tuple", .ref a], []⟩)) _ _ s5
      refine wpAny_bind (wpAny_of_eq (F.newCall_tuple_1 _) (wpAny_pure ⟨plainId_quiet F.plain_tuple_new _, codeAny_builtin F.entry_tuple_new ?_⟩))
      rw [Around.under_plainId F.plain_tuple_new _]
      have hsub := sub_tuple_self
      have hinit := init_tuple_lookup
      have hmh := madeHere_tuple
      have hr2 : Room (j + 3) X.A.in1.in1 := ((hr.mono (by omega : j + 5 ≤ j + 6)).in1).in1
      wp_walk using wpAny_typeOf hT, gx_collect q hr2 I5.ok.frames el (fits_ok hf)
      intro s' G us xs l f hv hrd
      obtain ⟨H', rh', I'⟩ := f
      have hlen : us.length ≤ sizeLine := by rw [← hv.length, ← hrd.length]; exact fits_ok hf
      show wpAny _ _ (Builtin.Tuple.tupleExact us.toArray >>= fun v => ret v) _ _ _
      unfold Builtin.Tuple.tupleExact
      refine wpAny_bind (wpAny_newObj_type ?_ (by show us.toArray.size ≤ sizeLine; rw [List.size_toArray]; exact hlen))
      refine wpAny_pure ⟨⟨_, Heap.get?_push_size _ rfl, rfl⟩, ?_⟩
      have hp : H' s'.heap.objs.size = none := I'.hok.fresh (Nat.le_refl _)
      have I2 := I'.laid (a := s'.heap.objs.size) (o := .tup xs) (t' := s'.toks) (h' := s'.heap.push { cls := .type "tuple", data := .seq us.toArray }) (fun b o e => Heap.get?_push_of_some _ e) (Nat.le_refl _) ⟨by rw [hv.length]; exact hlen, us, hv, ⟨_, Heap.get?_push_size _ rfl, rfl, ⟨_, rfl⟩⟩⟩
      have lp := Gh.put_le (o := .tup xs) (rh'.notF hp)
      exact hQ _ _ ⟨G.put s'.heap.objs.size (.tup xs), .ref _, l.trans lp, ⟨_, rh'.new hp _, I2⟩, .tup (SqT.of (by show upd G.F _ _ _ = _; rw [upd_same])) (hrd.mono lp), rfl⟩
    · cases e
end
section
variable {X : Cx} {T : Tb} {W : WX} {j : Nat} {c P : Addr} {elt tg iter : Expr} {ifs : List Expr} {scope : Scope} {own : List (Str × Nat)} {p gpos pos : Pos} {mi : Iv} {g : Gv} {mt : Bv} {me : Ev} {x : Str}
/-- tuple(elt for tg in iter if ..) -/
theorem de_tupGx (hr : Room (j + 6) X.A) (TB : GxR.TabB X.base X.mg c P) (hPT : (P, X.env.qual ++ "<genexpr>") ∈ T) (hTu : ∀ p ∈ T, p.1 = P → p.2 = X.env.qual ++ "<genexpr>") (hcode : X.env.code = .ref c) (hg : Gl X "tuple") (hm : X.mg "tuple" = none) (ok : GxOk X.N X.env.scope scope own) (hN : X.N.Nodup) (hi : DI X T W tg iter mi) (b : GxB X T scope (own.map (·.2)) tg ifs elt g mt me j)
    (hfo : ∀ v, genFold iter X.env v = pure v := by intro _; rfl) (he : starEach [.GeneratorExp elt [⟨tg, iter, ifs, 0⟩] scope gpos] X.env = (false, eval (.GeneratorExp elt [⟨tg, iter, ifs, 0⟩] scope gpos) X.env) :: starEach [] X.env := by rfl) :
    DE X T W (.Call (.Name "tuple" p) [.GeneratorExp elt [⟨tg, iter, ifs, 0⟩] scope gpos] [] pos) (eGx tTup mi (own.map (·.2)) g mt me) :=
  de_gx tTup_exc (hr.mono (by omega)) TB hPT hTu hcode ok hN hi b hfo (cons_tup hr) (hcall_t hg hm (by rfl) (by decide) (by decide) he)
end
end Sh

set_option Elab.async false
set_option linter.all false
set_option maxRecDepth 100000
set_option maxHeartbeats 4000000
/-! Sh13: what is walked; calls of built-ins. -/
namespace Sh
open PySem PySem.Spec PyProof.Rows L2

section
variable {X : Cx} {T : Tb} {W : WX} {tg e e2 a b c : Expr} {me : Ev} {ma : Av} {p pos tpos : Pos} {elts : List Expr} {kk : Nat}
/-- a list, a tuple, a text -/
def iSeq (me : Ev) : Iv := fun ρ h => (me ρ h).bind fun d h1 => match d with
  | .lst ds => .ok ⟨ds, none⟩ h1
  | .fls ds => .ok ⟨ds, none⟩ h1
  | .tup ds => .ok ⟨ds, none⟩ h1
  | .str x => .ok ⟨x.map fun c => .str [c], none⟩ h1
  | .obj n => (match h1[n]? with
    | some (.lst ds) => .ok ⟨ds, some n⟩ h1
    | _ => .err)
  | _ => .err
theorem jok_l {K : PySem.W.Frag} {G0 : Gh} {a : Addr} {ds : List D} {vs : List V} (q : ∀ G h H, G0.lw G → RH K T G h H → SqL K H a vs) (r : RDs K G0 ds vs) : JOk K T G0 (Itl K a) ⟨ds, none⟩ := by
  intro G h H l rh _ i
  have hs := q G h H l rh
  refine ⟨fun d e => ?_, fun hl => ⟨vs, hs, by rw [← r.length]; exact hl⟩⟩
  obtain ⟨v, e1, e2⟩ := r.get e
  refine ⟨⟨vs, v, hs, e1⟩, fun x H' ⟨eH, y⟩ => ?_⟩
  have e3 := y vs hs
  rw [e1] at e3; cases e3
  subst eH
  exact ⟨G, .refl G, rh, e2.monow l⟩
theorem jok_t {K : PySem.W.Frag} {G0 : Gh} {a : Addr} {ds : List D} {vs : List V} (q : ∀ G h H, G0.lw G → RH K T G h H → SqT K H a vs) (r : RDs K G0 ds vs) : JOk K T G0 (Itt K a) ⟨ds, none⟩ := by
  intro G h H l rh _ i
  have hs := q G h H l rh
  refine ⟨fun d e => ?_, fun hl => ⟨vs, hs, by rw [← r.length]; exact hl⟩⟩
  obtain ⟨v, e1, e2⟩ := r.get e
  refine ⟨⟨vs, v, hs, e1⟩, fun x H' ⟨eH, y⟩ => ?_⟩
  have e3 := y vs hs
  rw [e1] at e3; cases e3
  subst eH
  exact ⟨G, .refl G, rh, e2.monow l⟩
theorem jok_s {K : PySem.W.Frag} {G0 : Gh} (x : List Nat) : JOk K T G0 (Its (S x)) ⟨x.map fun c => .str [c], none⟩ := by
  intro G h H l rh _ i
  have el : (S x).cps.size = x.length := by simp
  refine ⟨fun d e => ?_, fun hl => ?_⟩
  · have hi : i < x.length := by
      have := (List.getElem?_eq_some_iff.mp e).1
      simpa using this
    refine ⟨by show i < (S x).cps.size; rw [el]; exact hi, fun v H' ⟨eH, c, ec, ev⟩ => ?_⟩
    subst eH ev
    have e : (x.map fun c => D.str [c])[i]? = some d := e
    rw [List.getElem?_map] at e
    have ec : x.toArray[i]? = some c := ec
    rw [List.getElem?_toArray] at ec
    rw [ec] at e
    cases e
    exact ⟨G, .refl G, rh, .str [c]⟩
  · have hl : (x.map fun c => D.str [c]).length ≤ i := hl
    rw [List.length_map] at hl
    show (S x).cps.size ≤ i
    rw [el]; exact hl
theorem di_seq (he : DE X T W e me) : DI X T W tg e (iSeq me) := ⟨PI.imp (PI.or (PI.or (pi_list he.p) (pi_tup he.p)) (pi_str he.p)) fun σ H R ⟨G, ρ, h, re, rh, p⟩ => by
  unfold iSeq at p
  cases e1 : me ρ h with
  | exc c h1 => rw [e1] at p; exact .inr ⟨G, ρ, h, re, rh, by rw [e1]; exact p⟩
  | err => rw [e1] at p; exact p.elim
  | ok d h1 =>
    rw [e1] at p
    cases d with
    | lst ds =>
      refine .inl (.inl ⟨G, ρ, h, re, rh, ?_⟩)
      rw [e1]
      intro G1 H1 v l1 rh1 rd1
      cases rd1 with
      | @lst _ vs a q r =>
        exact ⟨a, rfl, ⟨vs, SqL.of (rh1.F _ _ q)⟩, p G1 H1 _ l1 rh1 (jok_l (fun G h H l rh => SqL.of (rh.F _ _ (l.F _ _ q))) r)⟩
    | fls ds =>
      refine .inl (.inl ⟨G, ρ, h, re, rh, ?_⟩)
      rw [e1]
      intro G1 H1 v l1 rh1 rd1
      cases rd1 with
      | @fls _ vs a q r =>
        exact ⟨a, rfl, ⟨vs, SqL.mono q rh1.F⟩, p G1 H1 _ l1 rh1 (jok_l (fun G h H l rh => SqL.mono (SqL.mono q l.F) rh.F) r)⟩
    | tup ds =>
      refine .inl (.inr ⟨G, ρ, h, re, rh, ?_⟩)
      rw [e1]
      intro G1 H1 v l1 rh1 rd1
      cases rd1 with
      | @tup _ vs a q r =>
        exact ⟨a, rfl, ⟨vs, SqT.mono q rh1.F⟩, p G1 H1 _ l1 rh1 (jok_t (fun G h H l rh => SqT.mono (SqT.mono q l.F) rh.F) r)⟩
    | str x =>
      refine .inr ⟨G, ρ, h, re, rh, ?_⟩
      rw [e1]
      intro G1 H1 v l1 rh1 rd1
      cases rd1
      exact ⟨S x, rfl, p G1 H1 _ l1 rh1 (jok_s x)⟩
    | obj n =>
      simp only [Res.bind] at p
      split at p
      · rename_i ds eo
        refine .inl (.inl ⟨G, ρ, h, re, rh, ?_⟩)
        rw [e1]
        intro G1 H1 v l1 rh1 rd1
        cases rd1 with
        | @obj _ a ea =>
          obtain ⟨u, q1, q2⟩ := rh1.at eo ea (fun z => by cases z)
          cases q2 with
          | @lst _ vs r =>
            refine ⟨a, rfl, ⟨vs, SqL.of q1⟩, p G1 H1 _ l1 rh1 ?_⟩
            intro G h H l rh st i
            have es := st n rfl
            obtain ⟨u2, z1, z2⟩ := rh.at es (l.α _ _ ea) (fun z => by cases z)
            cases z2 with
            | @lst _ ws r2 =>
              refine ⟨fun d e => ?_, fun hl => ⟨ws, SqL.of z1, by rw [← r2.length]; exact hl⟩⟩
              obtain ⟨v, e1, e2⟩ := r2.get e
              refine ⟨⟨ws, v, SqL.of z1, e1⟩, fun x H' ⟨eH, y⟩ => ?_⟩
              have e3 := y ws (SqL.of z1)
              rw [e1] at e3; cases e3
              subst eH
              exact ⟨G, .refl G, rh, e2⟩
      · exact p.elim
    | _ => exact p.elim⟩
/-- range -/
def inR (i : Int) : Bool := decide (-4611686018427387904 ≤ i) && decide (i < 4611686018427387904)
theorem inR_ok {i : Int} (h : inR i = true) : -(2 ^ 62) ≤ i ∧ i < 2 ^ 62 := by
  unfold inR at h
  simp only [Bool.and_eq_true, decide_eq_true_eq] at h
  constructor <;> omega
def rngD (lo : Int) (n : Nat) : List D := (List.range n).map fun i => .int (lo + (i : Nat))
def iRng1 (ma : Av) : Iv := fun ρ h => (ma ρ h).bind fun ds h1 => match ds with
  | [.int j] => if inR j then .ok ⟨rngD 0 j.toNat, none⟩ h1 else .err
  | _ => .err
def iRng2 (ma : Av) : Iv := fun ρ h => (ma ρ h).bind fun ds h1 => match ds with
  | [.int i, .int j] => if inR i && inR j then .ok ⟨rngD i (j - i).toNat, none⟩ h1 else .err
  | _ => .err
def rngC (lo c : Int) (n : Nat) : List D := (List.range n).map fun i => .int (lo + (i : Nat) * c)
def iRng3 (ma : Av) : Iv := fun ρ h => (ma ρ h).bind fun ds h1 => match ds with
  | [.int i, .int j, .int c] => if decide (c ≠ 0) && decide (c.natAbs < 1073741824) && Builtin.Range.small i j c && decide (0 ≤ Builtin.Range.rangeSize i j c) then .ok ⟨rngC i c (Builtin.Range.rangeSize i j c).toNat, none⟩ h1 else .err
  | _ => .err
theorem jok_r {K : PySem.W.Frag} {G0 : Gh} (lo : Int) (n : Nat) : JOk K T G0 (Itr lo n) ⟨rngD lo n, none⟩ := by
  intro G h H l rh _ i
  refine ⟨fun d e => ?_, fun hl => ?_⟩
  · have e : (rngD lo n)[i]? = some d := e
    unfold rngD at e
    rw [List.getElem?_map] at e
    by_cases hi : i < n
    · rw [List.getElem?_range hi] at e
      cases e
      refine ⟨hi, fun x H' ⟨eH, ex⟩ => ?_⟩
      subst eH ex
      exact ⟨G, .refl G, rh, .int _⟩
    · rw [List.getElem?_eq_none (by simpa using hi)] at e; cases e
  · have hl : (rngD lo n).length ≤ i := hl
    unfold rngD at hl
    show n ≤ i
    simpa using hl
theorem jok_c {K : PySem.W.Frag} {G0 : Gh} (lo c : Int) (n : Nat) : JOk K T G0 (Itc lo c n) ⟨rngC lo c n, none⟩ := by
  intro G h H l rh _ i
  refine ⟨fun d e => ?_, fun hl => ?_⟩
  · have e : (rngC lo c n)[i]? = some d := e
    unfold rngC at e
    rw [List.getElem?_map] at e
    by_cases hi : i < n
    · rw [List.getElem?_range hi] at e
      cases e
      refine ⟨hi, fun x H' ⟨eH, ex⟩ => ?_⟩
      subst eH ex
      exact ⟨G, .refl G, rh, .int _⟩
    · rw [List.getElem?_eq_none (by simpa using hi)] at e; cases e
  · have hl : (rngC lo c n).length ≤ i := hl
    unfold rngC at hl
    show n ≤ i
    simpa using hl
theorem di_range1 (hg : Gl X "range") (hm : X.mg "range" = none) (ha : DA X T W [a] ma) (hs : starEach [a] X.env = [(false, eval a X.env)] := by rfl) : DI X T W tg (.Call (.Name "range" p) [a] [] pos) (iRng1 ma) := ⟨PI.imp (pi_range1 hg hm ha.p hs) fun σ H R ⟨G, ρ, h, re, rh, p⟩ => by
  refine ⟨G, ρ, h, re, rh, ?_⟩
  unfold iRng1 at p
  cases e1 : ma ρ h with
  | exc c h1 => rw [e1] at p; exact p
  | err => rw [e1] at p; exact p
  | ok ds h1 =>
    rw [e1] at p
    intro G1 H1 vs l1 rh1 rd1
    simp only [Res.bind] at p
    split at p
    · cases rd1 with
      | cons r1 r2 =>
        cases r1; cases r2
        split at p
        · rename_i hj
          exact ⟨_, rfl, (inR_ok hj).1, (inR_ok hj).2, p G1 H1 _ l1 rh1 (jok_r _ _)⟩
        · exact p.elim
    · exact p.elim⟩
theorem di_range2 (hg : Gl X "range") (hm : X.mg "range" = none) (ha : DA X T W [a, b] ma) (hs : starEach [a, b] X.env = [(false, eval a X.env), (false, eval b X.env)] := by rfl) (hs2 : starEach [b] X.env = [(false, eval b X.env)] := by rfl) : DI X T W tg (.Call (.Name "range" p) [a, b] [] pos) (iRng2 ma) := ⟨PI.imp (pi_range2 hg hm ha.p hs hs2) fun σ H R ⟨G, ρ, h, re, rh, p⟩ => by
  refine ⟨G, ρ, h, re, rh, ?_⟩
  unfold iRng2 at p
  cases e1 : ma ρ h with
  | exc c h1 => rw [e1] at p; exact p
  | err => rw [e1] at p; exact p
  | ok ds h1 =>
    rw [e1] at p
    intro G1 H1 vs l1 rh1 rd1
    simp only [Res.bind] at p
    split at p
    · cases rd1 with
      | cons r1 r2 =>
        cases r1
        cases r2 with
        | cons r3 r4 =>
          cases r3; cases r4
          split at p
          · rename_i hj
            simp only [Bool.and_eq_true] at hj
            exact ⟨_, _, rfl, ⟨(inR_ok hj.1).1, (inR_ok hj.1).2, (inR_ok hj.2).1, (inR_ok hj.2).2⟩, p G1 H1 _ l1 rh1 (jok_r _ _)⟩
          · exact p.elim
    · exact p.elim⟩
theorem di_range3 (hg : Gl X "range") (hm : X.mg "range" = none) (ha : DA X T W [a, b, c] ma) (hs : starEach [a, b, c] X.env = (false, eval a X.env) :: starEach [b, c] X.env := by rfl) (hpl : (backTo pos (starEach [b, c] X.env)).any (·.1) = false := by rfl) : DI X T W tg (.Call (.Name "range" p) [a, b, c] [] pos) (iRng3 ma) := ⟨PI.imp (pi_range3 hg hm ha.p hs hpl) fun σ H R ⟨G, ρ, h, re, rh, p⟩ => by
  refine ⟨G, ρ, h, re, rh, ?_⟩
  unfold iRng3 at p
  cases e1 : ma ρ h with
  | exc c h1 => rw [e1] at p; exact p
  | err => rw [e1] at p; exact p
  | ok ds h1 =>
    rw [e1] at p
    intro G1 H1 vs l1 rh1 rd1
    simp only [Res.bind] at p
    split at p
    · cases rd1 with
      | cons r1 r2 =>
        cases r1
        cases r2 with
        | cons r3 r4 =>
          cases r3
          cases r4 with
          | cons r5 r6 =>
            cases r5; cases r6
            split at p
            · rename_i hj
              simp only [Bool.and_eq_true, decide_eq_true_eq] at hj
              exact ⟨_, _, _, _, rfl, ⟨hj.1.1.1, hj.1.1.2, hj.1.2, (Int.toNat_of_nonneg hj.2).symm⟩, p G1 H1 _ l1 rh1 (jok_c _ _ _)⟩
            · exact p.elim
    · exact p.elim⟩
/-! ### zip, enumerate -/
def seqOf : D → Option (Bool × List D)
  | .lst ds => some (false, ds)
  | .fls ds => some (false, ds)
  | .tup ds => some (true, ds)
  | _ => none
def pairD (a b : D) : D := .tup [a, b]
def iZipD (ma : Av) : Iv := fun ρ h => (ma ρ h).bind fun ds h1 => match ds with
  | [x, y] => (match seqOf x, seqOf y with
    | some (false, xs), some (false, ys) => .ok ⟨List.zipWith pairD xs ys, none⟩ h1
    | some (true, xs), some (true, ys) => .ok ⟨List.zipWith pairD xs ys, none⟩ h1
    | _, _ => .err)
  | _ => .err
theorem seq_l {K : PySem.W.Frag} {G : Gh} {x : D} {v : V} {xs : List D} (r : RD K G x v) (e : seqOf x = some (false, xs)) : ∃ a vs, v = .ref a ∧ RDs K G xs vs ∧ ∀ G2 h H, G.lw G2 → RH K T G2 h H → SqL K H a vs := by
  cases r with
  | @lst _ vs a q r => cases e; exact ⟨a, vs, rfl, r, fun G2 h H l rh => SqL.of (rh.F _ _ (l.F _ _ q))⟩
  | @fls _ vs a q r => cases e; exact ⟨a, vs, rfl, r, fun G2 h H l rh => SqL.mono (SqL.mono q l.F) rh.F⟩
  | _ => cases e
theorem seq_t {K : PySem.W.Frag} {G : Gh} {x : D} {v : V} {xs : List D} (r : RD K G x v) (e : seqOf x = some (true, xs)) : ∃ a vs, v = .ref a ∧ RDs K G xs vs ∧ ∀ G2 h H, G.lw G2 → RH K T G2 h H → SqT K H a vs := by
  cases r with
  | @tup _ vs a q r => cases e; exact ⟨a, vs, rfl, r, fun G2 h H l rh => SqT.mono (SqT.mono q l.F) rh.F⟩
  | _ => cases e
theorem zip_get {xs ys : List D} {i : Nat} {d : D} (e : (List.zipWith pairD xs ys)[i]? = some d) : ∃ x y, xs[i]? = some x ∧ ys[i]? = some y ∧ d = pairD x y := by
  rw [List.getElem?_zipWith] at e
  cases ex : xs[i]? with
  | none => rw [ex] at e; cases e
  | some x =>
    cases ey : ys[i]? with
    | none => rw [ex, ey] at e; cases e
    | some y => rw [ex, ey] at e; cases e; exact ⟨x, y, rfl, rfl, rfl⟩
theorem di_zip {elt2 : List Expr} (hg : Gl X "zip") (hm : X.mg "zip" = none) (ha : DA X T W [e, e2] ma) (hs : starEach [e, e2] X.env = (false, eval e X.env) :: starEach [e2] X.env := by rfl) (hpl : (backTo pos (starEach [e2] X.env)).any (·.1) = false := by rfl) :
    DI X T W (.Tuple elt2 kk tpos) (.Call (.Name "zip" p) [e, e2] [] pos) (iZipD ma) := ⟨PI.imp (RZ.pi_zipA hg hm ha.p hs hpl) fun σ H R ⟨G, ρ, h, re, rh, p⟩ => by
  refine ⟨G, ρ, h, re, rh, ?_⟩
  unfold iZipD at p
  cases e1 : ma ρ h with
  | exc c h1 => rw [e1] at p; exact p
  | err => rw [e1] at p; exact p
  | ok ds h1 =>
    rw [e1] at p
    intro G1 H1 vs l1 rh1 rd1
    simp only [Res.bind] at p
    split at p
    · rename_i x y
      cases rd1 with
      | cons r1 r2 =>
        cases r2 with
        | cons r3 r4 =>
          cases r4
          split at p
          · rename_i xs ys ex ey
            obtain ⟨aa, va, rfl, ra, qa⟩ := seq_l (T := T) r1 ex
            obtain ⟨ab, vb, rfl, rb, qb⟩ := seq_l (T := T) r3 ey
            refine ⟨aa, ab, va, vb, rfl, .inl ⟨qa G1 h1 H1 (.refl _) rh1, qb G1 h1 H1 (.refl _) rh1, p G1 H1 _ l1 rh1 ?_⟩⟩
            intro G h H l rh _ i
            have sa := qa G h H l rh
            have sb := qb G h H l rh
            refine ⟨fun d e => ?_, fun hl => ⟨va, vb, sa, sb, ?_⟩⟩
            · obtain ⟨dx, dy, ix, iy, rfl⟩ := zip_get e
              obtain ⟨vx, f1, f2⟩ := ra.get ix
              obtain ⟨vy, g1, g2⟩ := rb.get iy
              refine ⟨⟨va, vb, vx, vy, sa, sb, f1, g1⟩, fun v H' ⟨TT, x, y, ev, hT, eH, yx, yy⟩ => ?_⟩
              have e3 := yx va sa
              have e4 := yy vb sb
              rw [f1] at e3; rw [g1] at e4
              cases e3; cases e4
              subst ev eH
              have lp := Gh.put_le (o := .tup [vx, vy]) (rh.notF hT)
              exact ⟨G.put TT (.tup [vx, vy]), lp, rh.new hT _, .tup (SqT.of (by show upd G.F _ _ _ = _; rw [upd_same])) (.cons (f2.monow (l.trans lp.w)) (.cons (g2.monow (l.trans lp.w)) .nil))⟩
            · have hl : (List.zipWith pairD xs ys).length ≤ i := hl
              rw [List.length_zipWith] at hl
              rw [← ra.length, ← rb.length]
              omega
          · rename_i xs ys ex ey
            obtain ⟨aa, va, rfl, ra, qa⟩ := seq_t (T := T) r1 ex
            obtain ⟨ab, vb, rfl, rb, qb⟩ := seq_t (T := T) r3 ey
            refine ⟨aa, ab, va, vb, rfl, .inr ⟨qa G1 h1 H1 (.refl _) rh1, qb G1 h1 H1 (.refl _) rh1, p G1 H1 _ l1 rh1 ?_⟩⟩
            intro G h H l rh _ i
            have sa := qa G h H l rh
            have sb := qb G h H l rh
            refine ⟨fun d e => ?_, fun hl => ⟨va, vb, sa, sb, ?_⟩⟩
            · obtain ⟨dx, dy, ix, iy, rfl⟩ := zip_get e
              obtain ⟨vx, f1, f2⟩ := ra.get ix
              obtain ⟨vy, g1, g2⟩ := rb.get iy
              refine ⟨⟨va, vb, vx, vy, sa, sb, f1, g1⟩, fun v H' ⟨TT, x, y, ev, hT, eH, yx, yy⟩ => ?_⟩
              have e3 := yx va sa
              have e4 := yy vb sb
              rw [f1] at e3; rw [g1] at e4
              cases e3; cases e4
              subst ev eH
              have lp := Gh.put_le (o := .tup [vx, vy]) (rh.notF hT)
              exact ⟨G.put TT (.tup [vx, vy]), lp, rh.new hT _, .tup (SqT.of (by show upd G.F _ _ _ = _; rw [upd_same])) (.cons (f2.monow (l.trans lp.w)) (.cons (g2.monow (l.trans lp.w)) .nil))⟩
            · have hl : (List.zipWith pairD xs ys).length ≤ i := hl
              rw [List.length_zipWith] at hl
              rw [← ra.length, ← rb.length]
              omega
          · exact p.elim
    · exact p.elim⟩
def enumD (ds : List D) : List D := ds.mapIdx fun i d => pairD (.int (i : Nat)) d
def iEnumD (ma : Av) : Iv := fun ρ h => (ma ρ h).bind fun ds h1 => match ds with
  | [x] => (match seqOf x with
    | some (false, xs) => .ok ⟨enumD xs, none⟩ h1
    | _ => .err)
  | _ => .err
theorem di_enum {elt2 : List Expr} (hg : Gl X "enumerate") (hm : X.mg "enumerate" = none) (ha : DA X T W [e] ma) (hs : starEach [e] X.env = [(false, eval e X.env)] := by rfl) :
    DI X T W (.Tuple elt2 kk tpos) (.Call (.Name "enumerate" p) [e] [] pos) (iEnumD ma) := ⟨PI.imp (pi_enum hg hm ha.p hs) fun σ H R ⟨G, ρ, h, re, rh, p⟩ => by
  refine ⟨G, ρ, h, re, rh, ?_⟩
  unfold iEnumD at p
  cases e1 : ma ρ h with
  | exc c h1 => rw [e1] at p; exact p
  | err => rw [e1] at p; exact p
  | ok ds h1 =>
    rw [e1] at p
    intro G1 H1 vs l1 rh1 rd1
    simp only [Res.bind] at p
    split at p
    · rename_i x
      cases rd1 with
      | cons r1 r2 =>
        cases r2
        split at p
        · rename_i xs ex
          obtain ⟨aa, va, rfl, ra, qa⟩ := seq_l (T := T) r1 ex
          refine ⟨aa, va, rfl, qa G1 h1 H1 (.refl _) rh1, p G1 H1 _ l1 rh1 ?_⟩
          intro G h H l rh _ i
          have sa := qa G h H l rh
          refine ⟨fun d e => ?_, fun hl => ⟨va, sa, ?_⟩⟩
          · have e : (enumD xs)[i]? = some d := e
            unfold enumD at e
            rw [List.getElem?_mapIdx] at e
            cases ix : xs[i]? with
            | none => rw [ix] at e; cases e
            | some dx =>
              rw [ix] at e
              cases e
              obtain ⟨vx, f1, f2⟩ := ra.get ix
              refine ⟨⟨va, vx, sa, f1⟩, fun v H' ⟨TT, x, ev, hT, eH, yx⟩ => ?_⟩
              have e3 := yx va sa
              rw [f1] at e3
              cases e3
              subst ev eH
              have lp := Gh.put_le (o := .tup [.int (i : Nat), vx]) (rh.notF hT)
              exact ⟨G.put TT (.tup [.int (i : Nat), vx]), lp, rh.new hT _, .tup (SqT.of (by show upd G.F _ _ _ = _; rw [upd_same])) (.cons (.int _) (.cons (f2.monow (l.trans lp.w)) .nil))⟩
          · have hl : (enumD xs).length ≤ i := hl
            unfold enumD at hl
            rw [List.length_mapIdx] at hl
            rw [← ra.length]
            exact hl
        · exact p.elim
    · exact p.elim⟩
end
end Sh

set_option Elab.async false
set_option linter.all false
set_option maxRecDepth 100000
set_option maxHeartbeats 4000000
/-! Sh14: calls of built-ins, slices, methods of texts and lists. -/
namespace Sh
open PySem PySem.Spec PyProof.Rows L2

theorem S_cps (a : Str) : S a.cps.toList = a := by cases a; rfl
abbrev cp (a : Str) : List Nat := a.cps.toList
theorem rd_cp {K : PySem.W.Frag} {G : Gh} (a : Str) : RD K G (.str (cp a)) (.str a) := by
  have r : RD K G (.str (cp a)) (.str (S (cp a))) := .str (cp a)
  rw [S_cps] at r
  exact r
/-- the items of a list or a tuple (false: a list) -/
def seqH (h : LH) : D → Option (Bool × List D)
  | .lst ds => some (false, ds)
  | .fls ds => some (false, ds)
  | .tup ds => some (true, ds)
  | .obj n => (match h[n]? with
    | some (.lst ds) => some (false, ds)
    | _ => none)
  | _ => none
section
variable {X : Cx} {T : Tb} {W : WX}
theorem seqH_l {K : PySem.W.Frag} {G : Gh} {h : LH} {H : Hp} {x : D} {v : V} {xs : List D} (rh : RH K T G h H) (r : RD K G x v) (e : seqH h x = some (false, xs)) : ∃ a vs, v = .ref a ∧ RDs K G xs vs ∧ SqL K H a vs := by
  cases r with
  | @lst _ vs a q r => cases e; exact ⟨a, vs, rfl, r, SqL.of (rh.F _ _ q)⟩
  | @fls _ vs a q r => cases e; exact ⟨a, vs, rfl, r, SqL.mono q rh.F⟩
  | @obj n a ea =>
    have e : (match h[n]? with
      | some (.lst ds) => some (false, ds)
      | _ => none) = some (false, xs) := e
    split at e
    · rename_i eo
      cases e
      obtain ⟨u, q1, q2⟩ := rh.at eo ea (fun z => by cases z)
      cases q2 with
      | @lst _ vs r => exact ⟨a, vs, rfl, r, SqL.of q1⟩
    · cases e
  | _ => cases e
theorem seqH_t {K : PySem.W.Frag} {G : Gh} {h : LH} {H : Hp} {x : D} {v : V} {xs : List D} (rh : RH K T G h H) (r : RD K G x v) (e : seqH h x = some (true, xs)) : ∃ a vs, v = .ref a ∧ RDs K G xs vs ∧ SqT K H a vs := by
  cases r with
  | @tup _ vs a q r => cases e; exact ⟨a, vs, rfl, r, SqT.mono q rh.F⟩
  | @obj n a ea =>
    have e : (match h[n]? with
      | some (.lst ds) => some (false, ds)
      | _ => none) = some (true, xs) := e
    split at e <;> cases e
  | _ => cases e
def bLen : List D → LH → Option (D × LH)
  | [.str x], h => if fits x.length then some (.int x.length, h) else none
  | [x], h => (seqH h x).map fun q => (.int q.2.length, h)
  | _, _ => none
theorem cd_len : CallD X T (.builtin "len") bLen := by
  intro pins s σ H xs us Q I r ⟨G, h, ds, d, h', rh, rd, e, k⟩
  unfold bLen at e
  split at e
  · rename_i x
    cases rd with
    | cons r1 r2 =>
      cases r1; cases r2
      split at e
      · rename_i hf
        cases e
        exact call_len pins s σ H _ us Q I r ⟨_, x.length, rfl, ⟨by rw [S_len]; exact fits_ok hf, by rw [S_len]⟩, k G H _ (.refl G) rh (.int _)⟩
      · cases e
  · rename_i x hx
    cases rd with
    | cons r1 r2 =>
      cases r2
      cases e1 : seqH h x with
      | none => rw [e1] at e; cases e
      | some q =>
        rw [e1] at e
        cases e
        obtain ⟨b, ds⟩ := q
        cases b with
        | false =>
          obtain ⟨a, vs, rfl, rr, hs⟩ := seqH_l rh r1 e1
          exact call_len pins s σ H _ us Q I r ⟨_, vs.length, rfl, .inl ⟨vs, hs, rfl⟩, by rw [← rr.length]; exact k G H _ (.refl G) rh (.int _)⟩
        | true =>
          obtain ⟨a, vs, rfl, rr, hs⟩ := seqH_t rh r1 e1
          exact call_len pins s σ H _ us Q I r ⟨_, vs.length, rfl, .inr ⟨vs, hs, rfl⟩, by rw [← rr.length]; exact k G H _ (.refl G) rh (.int _)⟩
  · cases e
def bMax : List D → LH → Option (D × LH)
  | [.int i, .int j], h => some (.int (if j > i then j else i), h)
  | _, _ => none
theorem cd_max (hc : X.calm = true) : CallD X T (.builtin "max") bMax := by
  intro pins s σ H xs us Q I r ⟨G, h, ds, d, h', rh, rd, e, k⟩
  unfold bMax at e
  split at e
  · cases e
    cases rd with
    | cons r1 r2 => cases r2 with
      | cons r3 r4 =>
        cases r1; cases r3; cases r4
        exact call_max2 hc pins s σ H _ us Q I r ⟨_, _, rfl, k G H _ (.refl G) rh (.int _)⟩
  · cases e
def bMin : List D → LH → Option (D × LH)
  | [.int i, .int j], h => some (.int (if j < i then j else i), h)
  | _, _ => none
theorem cd_min (hc : X.calm = true) : CallD X T (.builtin "min") bMin := by
  intro pins s σ H xs us Q I r ⟨G, h, ds, d, h', rh, rd, e, k⟩
  unfold bMin at e
  split at e
  · cases e
    cases rd with
    | cons r1 r2 => cases r2 with
      | cons r3 r4 =>
        cases r1; cases r3; cases r4
        exact call_min2 hc pins s σ H _ us Q I r ⟨_, _, rfl, k G H _ (.refl G) rh (.int _)⟩
  · cases e
def bAbs : List D → LH → Option (D × LH)
  | [.int i], h => some (.int (if i < 0 then -i else i), h)
  | _, _ => none
theorem cd_abs : CallD X T (.builtin "abs") bAbs := by
  intro pins s σ H xs us Q I r ⟨G, h, ds, d, h', rh, rd, e, k⟩
  unfold bAbs at e
  split at e
  · cases e
    cases rd with
    | cons r1 r2 =>
      cases r1; cases r2
      exact call_abs pins s σ H _ us Q I r ⟨_, rfl, k G H _ (.refl G) rh (.int _)⟩
  · cases e
def bInt : List D → LH → Option (D × LH)
  | [.int i], h => some (.int i, h)
  | [.bl k], h => some (.int (if k then 1 else 0), h)
  | [.str x], h => if decide (x.length ≤ 640) then (PySem.intText? (S x)).map fun n => (.int n, h) else none
  | _, _ => none
theorem cd_int : CallD X T (.type "int") bInt := by
  intro pins s σ H xs us Q I r ⟨G, h, ds, d, h', rh, rd, e, k⟩
  unfold bInt at e
  split at e
  · cases e
    cases rd with
    | cons r1 r2 =>
      cases r1; cases r2
      exact call_int1 pins s σ H _ us Q I r (.inl ⟨_, rfl, k G H _ (.refl G) rh (.int _)⟩)
  · cases e
    cases rd with
    | cons r1 r2 =>
      cases r1; cases r2
      exact call_int1 pins s σ H _ us Q I r (.inr ⟨_, rfl, k G H _ (.refl G) rh (.int _)⟩)
  · rename_i x
    cases rd with
    | cons r1 r2 =>
      cases r1; cases r2
      split at e
      · rename_i hl
        cases e1 : PySem.intText? (S x) with
        | none => rw [e1] at e; cases e
        | some n =>
          rw [e1] at e
          cases e
          exact call_int_str pins s σ H _ us Q I r ⟨_, n, rfl, e1, by rw [S_len]; exact of_decide_eq_true hl, k G H _ (.refl G) rh (.int _)⟩
      · cases e
  · cases e
def bBool : List D → LH → Option (D × LH)
  | [.int i], h => some (.bl (i != 0), h)
  | [.bl k], h => some (.bl k, h)
  | _, _ => none
theorem cd_bool : CallD X T (.type "bool") bBool := by
  intro pins s σ H xs us Q I r ⟨G, h, ds, d, h', rh, rd, e, k⟩
  unfold bBool at e
  split at e
  · cases e
    cases rd with
    | cons r1 r2 =>
      cases r1; cases r2
      exact call_bool1 pins s σ H _ us Q I r (.inl ⟨_, rfl, k G H _ (.refl G) rh (.bl _)⟩)
  · cases e
    cases rd with
    | cons r1 r2 =>
      cases r1; cases r2
      exact call_bool1 pins s σ H _ us Q I r (.inr ⟨_, rfl, k G H _ (.refl G) rh (.bl _)⟩)
  · cases e
def bStr : List D → LH → Option (D × LH)
  | [.int i], h => if decide (i.natAbs.log2 < 1920) then some (.str (cp (toString i : Str)), h) else none
  | [.str x], h => some (.str x, h)
  | _, _ => none
theorem cd_str : CallD X T (.type "str") bStr := by
  intro pins s σ H xs us Q I r ⟨G, h, ds, d, h', rh, rd, e, k⟩
  unfold bStr at e
  split at e
  · cases rd with
    | cons r1 r2 =>
      cases r1; cases r2
      split at e
      · rename_i hl
        cases e
        exact call_str_int pins s σ H _ us Q I r ⟨_, rfl, of_decide_eq_true hl, k G H _ (.refl G) rh (rd_cp _)⟩
      · cases e
  · cases e
    cases rd with
    | cons r1 r2 =>
      cases r1; cases r2
      exact SkE.call_str_str pins s σ H _ us Q I r ⟨_, rfl, k G H _ (.refl G) rh (.str _)⟩
  · cases e
/-- list(x): a list that never changes -/
def bList : List D → LH → Option (D × LH)
  | [x], h => (seqH h x).map fun q => (.lst q.2, h)
  | _, _ => none
theorem cd_list : CallD X T (.type "list") bList := by
  intro pins s σ H xs us Q I r ⟨G, h, ds, d, h', rh, rd, e, k⟩
  unfold bList at e
  split at e
  · rename_i x
    cases rd with
    | cons r1 r2 =>
      cases r2
      cases e1 : seqH h x with
      | none => rw [e1] at e; cases e
      | some q =>
        rw [e1] at e
        cases e
        obtain ⟨b, ds⟩ := q
        cases b with
        | false =>
          obtain ⟨a, vs, rfl, rr, hs⟩ := seqH_l rh r1 e1
          exact call_list_of pins s σ H _ us Q I r ⟨_, vs, rfl, .inl hs, fin_lst k rh rr⟩
        | true =>
          obtain ⟨a, vs, rfl, rr, hs⟩ := seqH_t rh r1 e1
          exact call_list_of pins s σ H _ us Q I r ⟨_, vs, rfl, .inr hs, fin_lst k rh rr⟩
  · cases e
/-- .. that will be changed -/
def bListN : List D → LH → Option (D × LH)
  | [x], h => (seqH h x).map fun q => (.obj h.length, h ++ [.lst q.2])
  | _, _ => none
theorem cd_listN : CallD X T (.type "list") bListN := by
  intro pins s σ H xs us Q I r ⟨G, h, ds, d, h', rh, rd, e, k⟩
  unfold bListN at e
  split at e
  · rename_i x
    cases rd with
    | cons r1 r2 =>
      cases r2
      cases e1 : seqH h x with
      | none => rw [e1] at e; cases e
      | some q =>
        rw [e1] at e
        cases e
        obtain ⟨b, ds⟩ := q
        cases b with
        | false =>
          obtain ⟨a, vs, rfl, rr, hs⟩ := seqH_l rh r1 e1
          exact call_list_of pins s σ H _ us Q I r ⟨_, vs, rfl, .inl hs, fun q hq => fin_new k rh q hq (.lst (rr.mono Gh.add_le))⟩
        | true =>
          obtain ⟨a, vs, rfl, rr, hs⟩ := seqH_t rh r1 e1
          exact call_list_of pins s σ H _ us Q I r ⟨_, vs, rfl, .inr hs, fun q hq => fin_new k rh q hq (.lst (rr.mono Gh.add_le))⟩
  · cases e
def bTuple : List D → LH → Option (D × LH)
  | [x], h => (seqH h x).map fun q => (.tup q.2, h)
  | _, _ => none
theorem cd_tuple : CallD X T (.type "tuple") bTuple := by
  intro pins s σ H xs us Q I r ⟨G, h, ds, d, h', rh, rd, e, k⟩
  unfold bTuple at e
  split at e
  · rename_i x
    cases rd with
    | cons r1 r2 =>
      cases r2
      cases e1 : seqH h x with
      | none => rw [e1] at e; cases e
      | some q =>
        rw [e1] at e
        cases e
        obtain ⟨b, ds⟩ := q
        cases b with
        | false =>
          obtain ⟨a, vs, rfl, rr, hs⟩ := seqH_l rh r1 e1
          exact call_tuple_of pins s σ H _ us Q I r ⟨_, vs, rfl, .inl ⟨hs, fin_tup k rh rr⟩⟩
        | true =>
          cases r1 with
          | @tup _ vs a q r =>
            cases e1
            exact call_tuple_of pins s σ H _ us Q I ‹_› ⟨_, vs, rfl, .inr ⟨SqT.mono q rh.F, fin_at k rh (.tup q r)⟩⟩
          | @obj n a ea =>
            have e1 : (match h[n]? with
              | some (.lst ds) => some (false, ds)
              | _ => none) = some (true, ds) := e1
            split at e1 <;> cases e1
          | _ => cases e1
  · cases e
end
end Sh

set_option Elab.async false
set_option linter.all false
set_option maxRecDepth 100000
set_option maxHeartbeats 4000000
/-! Sh15: slices, methods of texts and lists. -/
namespace Sh
open PySem PySem.Spec PyProof.Rows L2

abbrev Ov := En → LH → Res (Option Int)
def PostO (K : PySem.W.Frag) (T : Tb) (W : WX) (σ : L2.St) (G : Gh) (r : Res (Option Int)) (Q : Option Int → Hp → Prop) : Prop := match r with
  | .ok d h' => ∀ G' H', G.le G' → RH K T G' h' H' → Q d H'
  | .exc c h' => ∀ G' H', G.le G' → RH K T G' h' H' → W (.ref (He.ga K c)) none σ H'
  | .err => False
def tO (K : PySem.W.Frag) (T : Tb) (W : WX) (m : Ov) : L2.TO := fun σ H Q => ∃ G ρ h, RE K G ρ σ ∧ RH K T G h H ∧ PostO K T W σ G (m ρ h) Q
structure DO (X : Cx) (T : Tb) (W : WX) (o : Option Expr) (m : Ov) : Prop where
  p : PO X o (tO X.K T W m)
theorem PO.imp {X : Cx} {e : Option Expr} {t t' : L2.TO} (h : PO X e t) (i : ∀ σ H Q, t' σ H Q → t σ H Q) : PO X e t' := ⟨fun pins s σ H Q I q => h.run pins s σ H Q I (i _ _ _ q)⟩
def oNo : Ov := fun _ h => .ok none h
def oYes (m : Ev) : Ov := fun ρ h => (m ρ h).bind fun d h1 => match d with
  | .int i => .ok (some i) h1
  | _ => .err
def cutD {α : Type} (xs : List α) (lo hi : Option Int) : List α := (xs.drop (HT.sIx xs.length 0 lo)).take (HT.sIx xs.length xs.length hi - HT.sIx xs.length 0 lo)
def dSl (h : LH) (d : D) (lo hi : Option Int) : Option D := match d with
  | .str x => if fits x.length then some (.str (cutD x lo hi)) else none
  | d => match seqH h d with
    | some (false, xs) => some (.lst (cutD xs lo hi))
    | some (true, xs) => some (.tup (cutD xs lo hi))
    | none => none
theorem RDs.cut {K : PySem.W.Frag} {G : Gh} {xs : List D} {vs : List V} (r : RDs K G xs vs) (lo hi : Option Int) : RDs K G (cutD xs lo hi) (L2.cutV vs lo hi) := by
  unfold cutD L2.cutV
  rw [r.length]
  exact (r.drop _).take _
def rSlD (K : PySem.W.Frag) (T : Tb) : V → Option Int → Option Int → Hp → VK → Prop := fun x lo hi H Q => ∃ G h dx d, RH K T G h H ∧ RD K G dx x ∧ dSl h dx lo hi = some d ∧ ∀ G' H' z, G.le G' → RH K T G' h H' → RD K G' d z → Q z H'
section
variable {X : Cx} {T : Tb} {W : WX} {pos p2 : Pos} {e : Expr} {me : Ev} {lo hi : Option Expr} {ml mh : Ov}
theorem do_no : DO X T W none oNo := ⟨PO.imp po_none fun σ H Q ⟨G, ρ, h, re, rh, p⟩ => p G H (.refl G) rh⟩
theorem do_yes (he : DE X T W e me) : DO X T W (some e) (oYes me) := ⟨PO.imp (po_some he.p) fun σ H Q ⟨G, ρ, h, re, rh, p⟩ => by
  refine ⟨G, ρ, h, re, rh, ?_⟩
  unfold oYes at p
  cases e1 : me ρ h with
  | exc c h1 => rw [e1] at p; exact p
  | err => rw [e1] at p; exact p
  | ok d h1 =>
    rw [e1] at p
    intro G1 H1 v l1 rh1 rd1
    cases rd1 with
    | int i => exact ⟨i, rfl, p G1 H1 l1 rh1⟩
    | _ => exact p.elim⟩
theorem sl_red : SlR X (rSlD X.K T) := by
  intro pins s σ H x v vl vu lo hi sl Q I rx hs pl pu ⟨G, h, dx, d, rh, rd, ed, k⟩
  unfold dSl at ed
  split at ed
  · rename_i x
    cases rd
    split at ed
    · rename_i hf
      cases ed
      refine L2.sl_str pins s σ H _ v vl vu lo hi sl Q I rx hs pl pu ⟨_, rfl, by rw [S_len]; exact fits_ok hf, ?_⟩
      have ec : L2.cutS (S x) lo hi = S (cutD x lo hi) := by
        unfold L2.cutS cutD
        have el : (S x).length = x.length := S_len x
        rw [el]
      rw [ec]
      exact k G H _ (.refl G) rh (.str _)
    · cases ed
  · split at ed
    · rename_i xs es
      cases ed
      obtain ⟨a, vs, rfl, r, q⟩ := seqH_l rh rd es
      exact L2.sl_list pins s σ H _ v vl vu lo hi sl Q I rx hs pl pu ⟨a, vs, rfl, q, fin_lst k rh (r.cut lo hi)⟩
    · rename_i xs es
      cases ed
      cases rd with
      | @tup _ vs a q r =>
        cases es
        refine L2.sl_tupA pins s σ H _ v vl vu lo hi sl Q I rx hs pl pu ⟨a, vs, rfl, SqT.mono q rh.F, fun ⟨w1, w2⟩ => ?_, fun _ => fin_tup k rh (r.cut lo hi)⟩
        have ec : cutD xs lo hi = xs := by
          unfold cutD
          rw [← r.length] at w1 w2
          rw [w1, w2, List.drop_zero, Nat.sub_zero, List.take_length]
        rw [ec] at k
        exact fin_at k rh (.tup q r)
      | @obj n a ea =>
        have es : (match h[n]? with
          | some (.lst ds) => some (false, ds)
          | _ => none) = some (true, xs) := es
        split at es <;> cases es
      | _ => cases es
    · cases ed
def eSl (m : Ev) (l u : Ov) : Ev := fun ρ h => (m ρ h).bind fun x h1 => (l ρ h1).bind fun lo h2 => (u ρ h2).bind fun hi h3 => liftO h3 (dSl h3 x lo hi)
theorem de_sl (he : DE X T W e me) (hl : DO X T W lo ml) (hu : DO X T W hi mh) : DE X T W (.Subscript e (.Slice lo hi none p2) pos) (eSl me ml mh) := ⟨PE.imp (pe_slice (sl_red (T := T)) he.p hl.p hu.p) fun σ H Q ⟨G, ρ, h, re, rh, p⟩ => by
  refine ⟨G, ρ, h, re, rh, ?_⟩
  unfold eSl at p
  cases e1 : me ρ h with
  | exc c h1 => rw [e1] at p; exact p
  | err => rw [e1] at p; exact p.elim
  | ok x h1 =>
    rw [e1] at p
    intro G1 H1 v1 l1 rh1 rd1
    refine ⟨G1, ρ, h1, re.mono l1, rh1, ?_⟩
    simp only [Res.bind] at p
    cases e2 : ml ρ h1 with
    | exc c h2 => rw [e2] at p; exact fun G2 H2 l2 rh2 => p G2 H2 (l1.trans l2) rh2
    | err => rw [e2] at p; exact p.elim
    | ok o h2 =>
      rw [e2] at p
      simp only [Res.bind] at p
      intro G2 H2 l2 rh2
      refine ⟨G2, ρ, h2, (re.mono l1).mono l2, rh2, ?_⟩
      cases e3 : mh ρ h2 with
      | exc c h3 => rw [e3] at p; exact fun G3 H3 l3 rh3 => p G3 H3 ((l1.trans l2).trans l3) rh3
      | err => rw [e3] at p; exact p.elim
      | ok u h3 =>
        rw [e3] at p
        simp only [Res.bind] at p
        intro G3 H3 l3 rh3
        cases e4 : dSl h3 x o u with
        | none => rw [e4] at p; exact p.elim
        | some d => rw [e4] at p; exact ⟨G3, h3, x, d, rh3, (rd1.mono l2).mono l3, e4, fun G4 H4 z l4 r4 d4 => p G4 H4 z (((l1.trans l2).trans l3).trans l4) r4 d4⟩⟩
/-- xs[::-1] of a list -/
def eRev (m : Ev) : Ev := fun ρ h => (m ρ h).bind fun x h1 => match seqH h1 x with
  | some (false, xs) => .ok (.lst xs.reverse) h1
  | _ => .err
theorem de_revL {k : Nat} {p1 p2 p3 : Pos} (he : DE X T W e me) : DE X T W (.Subscript e (.Slice none none (some (.UnaryOp .USub (.Constant (.int 1) k p1) p2)) p3) pos) (eRev me) := ⟨PE.imp (pe_revL he.p) fun σ H Q ⟨G, ρ, h, re, rh, p⟩ => by
  refine ⟨G, ρ, h, re, rh, ?_⟩
  unfold eRev at p
  cases e1 : me ρ h with
  | exc c h1 => rw [e1] at p; exact p
  | err => rw [e1] at p; exact p.elim
  | ok x h1 =>
    rw [e1] at p
    intro G1 H1 v1 l1 rh1 rd1
    simp only [Res.bind] at p
    split at p
    · rename_i xs es
      obtain ⟨a, vs, rfl, r, q⟩ := seqH_l rh1 rd1 es
      exact ⟨a, vs, rfl, q, fin_lst (fun G' H' z l rh rd => p G' H' z (l1.trans l) rh rd) rh1 r.reverse⟩
    · exact p.elim⟩
/-! ### methods -/
abbrev Mf := D → List D → LH → Option (D × LH)
def rMt (K : PySem.W.Frag) (T : Tb) (f : Mf) : V → List V → Hp → VK → Prop := fun x xs H Q => ∃ G h dx ds d h', RH K T G h H ∧ RD K G dx x ∧ RDs K G ds xs ∧ f dx ds h = some (d, h') ∧ ∀ G' H' z, G.le G' → RH K T G' h' H' → RD K G' d z → Q z H'
abbrev MtD (X : Cx) (T : Tb) (id : String) (f : Mf) : Prop := MtR X id (rMt X.K T f)
def tyD (ty : String) (x : D) (h : LH) : Bool := match x with
  | .str _ => decide (ty = "str")
  | .int _ => decide (ty = "int")
  | .lst _ => decide (ty = "list")
  | .fls _ => decide (ty = "list")
  | .dic _ => decide (ty = "dict")
  | .obj n => (match h[n]? with
    | some (.lst _) => decide (ty = "list")
    | some (.dic _) => decide (ty = "dict")
    | some (.dt _) => decide (ty = "dict")
    | _ => false)
  | _ => false
theorem tyD_ok {K : PySem.W.Frag} {G : Gh} {h : LH} {H : Hp} {x : D} {v : V} {ty : String} (rh : RH K T G h H) (r : RD K G x v) (e : tyD ty x h = true) : tyV K ty v H := by
  cases r with
  | str x => exact of_decide_eq_true (p := ty = "str") e
  | int x => exact of_decide_eq_true (p := ty = "int") e
  | lst q _ => exact .inl ⟨of_decide_eq_true e, _, SqL.of (rh.F _ _ q)⟩
  | fls q _ => exact .inl ⟨of_decide_eq_true e, _, SqL.mono q rh.F⟩
  | dic q _ => exact .inr (.inr (.inl ⟨of_decide_eq_true e, .inl ⟨_, rh.F _ _ q⟩⟩))
  | @obj n a ea =>
    have e : (match h[n]? with
      | some (.lst _) => decide (ty = "list")
      | some (.dic _) => decide (ty = "dict")
      | some (.dt _) => decide (ty = "dict")
      | _ => false) = true := e
    split at e
    · rename_i eo
      obtain ⟨u, q1, q2⟩ := rh.at eo ea (fun z => by cases z)
      cases q2
      exact .inl ⟨of_decide_eq_true e, _, SqL.of q1⟩
    · rename_i eo
      obtain ⟨u, q1, q2⟩ := rh.at eo ea (fun z => by cases z)
      cases q2
      exact .inr (.inr (.inl ⟨of_decide_eq_true e, .inl ⟨_, q1⟩⟩))
    · rename_i eo
      obtain ⟨u, q1, q2⟩ := rh.at eo ea (fun z => by cases z)
      cases q2
      exact .inr (.inr (.inl ⟨of_decide_eq_true e, .inr ⟨_, q1⟩⟩))
    · cases e
  | _ => cases e
def eMt (ty : String) (f : Mf) (mo : Ev) (ma : Av) : Ev := fun ρ h => (mo ρ h).bind fun x h1 => if tyD ty x h1 then (ma ρ h1).bind fun ds h2 => (match f x ds h2 with
  | some (d, h3) => .ok d h3
  | none => .err) else .err
variable {o : Expr} {es : List Expr} {mo : Ev} {ma : Av} {name : Str} {apos cpos : Pos} {id ty : String} {f : Mf}
theorem de_m0 (pa : PlainAttrs ty) (slot : Slot ty name id) (hty : typeOf (.builtin id) = pure (.type "method_descriptor")) (hm : MtD X T id f) (ho : DE X T W o mo)
    (hbase : attributeBase o name X.env (eval o X.env) = eval o X.env := by rfl) (hline : (apos.endLine == cpos.line) = true := by rfl) : DE X T W (.Call (.Attribute o name apos) [] [] cpos) (eMt ty f mo aNil) := ⟨PE.imp (pe_bm0 pa slot hty hm ho.p hbase hline) fun σ H Q ⟨G, ρ, h, re, rh, p⟩ => by
  refine ⟨G, ρ, h, re, rh, ?_⟩
  unfold eMt at p
  cases e1 : mo ρ h with
  | exc c h1 => rw [e1] at p; exact p
  | err => rw [e1] at p; exact p.elim
  | ok x h1 =>
    rw [e1] at p
    intro G1 H1 v1 l1 rh1 rd1
    simp only [Res.bind] at p
    split at p
    · rename_i ht
      refine ⟨tyD_ok rh1 rd1 ht, ?_⟩
      have p : Post X.K T W σ G (match f x [] h1 with
        | some (d, h3) => .ok d h3
        | none => .err) Q := p
      cases e2 : f x [] h1 with
      | none => rw [e2] at p; exact p.elim
      | some q => rw [e2] at p; exact ⟨G1, h1, x, [], q.1, q.2, rh1, rd1, .nil, e2, fun G' H' z l r d => p G' H' z (l1.trans l) r d⟩
    · exact p.elim⟩
theorem de_m (pa : PlainAttrs ty) (slot : Slot ty name id) (hty : typeOf (.builtin id) = pure (.type "method_descriptor")) (hm : MtD X T id f) (ho : DE X T W o mo) (ha : DA X T W (e :: es) ma)
    (hbase : attributeBase o name X.env (eval o X.env) = eval o X.env := by rfl)
    (hfew : ((backTo cpos (starEach (e :: es) X.env)).all (fun x => !x.1) && (backToKw cpos (keywordEach [] X.env)).all (fun x => x.1.isSome)
      && decide ((e :: es).length + ([] : List Keyword).length + (if ([] : List Keyword).isEmpty then 0 else 1) < 30)) = true := by rfl)
    (hline : (apos.endLine == cpos.line) = true := by rfl) (hs : starEach (e :: es) X.env = (false, eval e X.env) :: starEach es X.env := by rfl) (hplain : (backTo cpos (starEach es X.env)).any (·.1) = false := by rfl) :
    DE X T W (.Call (.Attribute o name apos) (e :: es) [] cpos) (eMt ty f mo ma) := ⟨PE.imp (pe_bm pa slot hty hm ho.p ha.p hbase hfew hline hs hplain) fun σ H Q ⟨G, ρ, h, re, rh, p⟩ => by
  refine ⟨G, ρ, h, re, rh, ?_⟩
  unfold eMt at p
  cases e1 : mo ρ h with
  | exc c h1 => rw [e1] at p; exact p
  | err => rw [e1] at p; exact p.elim
  | ok x h1 =>
    rw [e1] at p
    intro G1 H1 v1 l1 rh1 rd1
    simp only [Res.bind] at p
    split at p
    · rename_i ht
      refine ⟨tyD_ok rh1 rd1 ht, G1, ρ, h1, re.mono l1, rh1, ?_⟩
      cases e2 : ma ρ h1 with
      | exc c h2 => rw [e2] at p; exact fun G2 H2 l2 rh2 => p G2 H2 (l1.trans l2) rh2
      | err => rw [e2] at p; exact p.elim
      | ok ds h2 =>
        rw [e2] at p
        intro G2 H2 vs l2 rh2 rd2
        have p : Post X.K T W σ G (match f x ds h2 with
          | some (d, h3) => .ok d h3
          | none => .err) Q := p
        cases e3 : f x ds h2 with
        | none => rw [e3] at p; exact p.elim
        | some q => rw [e3] at p; exact ⟨G2, h2, x, ds, q.1, q.2, rh2, rd1.mono l2, rd2, e3, fun G' H' z l r d => p G' H' z ((l1.trans l2).trans l) r d⟩
    · exact p.elim⟩
/-! of texts -/
def mS0 (g : List Nat → Option D) : Mf := fun x ds h => match x, ds with
  | .str a, [] => (g a).map fun d => (d, h)
  | _, _ => none
def mS1 (g : List Nat → List Nat → Option D) : Mf := fun x ds h => match x, ds with
  | .str a, [.str b] => (g a b).map fun d => (d, h)
  | _, _ => none
theorem md_s0 {id : String} {g : List Nat → Option D} {r : V → List V → Hp → VK → Prop} (hr : MtR X id r) (hg : ∀ a d H Q, g a = some d → (∀ v, (∀ G : Gh, RD X.K G d v) → Q v H) → r (.str (S a)) [] H Q) : MtD X T id (mS0 g) := by
  intro pins s σ H x xs v us Q I rx rs ⟨G, h, dx, ds, d, h', rh, rd, rds, e, k⟩
  unfold mS0 at e
  split at e
  · rename_i a
    cases rd; cases rds
    cases e1 : g a with
    | none => rw [e1] at e; cases e
    | some d1 =>
      rw [e1] at e; cases e
      exact hr pins s σ H _ _ v us Q I rx rs (hg a _ H Q e1 fun v hv => k G H v (.refl G) rh (hv G))
  · cases e
theorem md_s1 {id : String} {g : List Nat → List Nat → Option D} {r : V → List V → Hp → VK → Prop} (hr : MtR X id r) (hg : ∀ a b d H Q, g a b = some d → (∀ v, (∀ G : Gh, RD X.K G d v) → Q v H) → r (.str (S a)) [.str (S b)] H Q) : MtD X T id (mS1 g) := by
  intro pins s σ H x xs v us Q I rx rs ⟨G, h, dx, ds, d, h', rh, rd, rds, e, k⟩
  unfold mS1 at e
  split at e
  · rename_i a b
    cases rd
    cases rds with
    | cons r1 r2 =>
      cases r1; cases r2
      cases e1 : g a b with
      | none => rw [e1] at e; cases e
      | some d1 =>
        rw [e1] at e; cases e
        exact hr pins s σ H _ _ v us Q I rx rs (hg a b _ H Q e1 fun v hv => k G H v (.refl G) rh (hv G))
  · cases e
def gLower (a : List Nat) : Option D := if decide (a.length ≤ 5592405) then some (.str (cp (Txt.lower (S a)))) else none
def gUpper (a : List Nat) : Option D := if decide (a.length ≤ 5592405) then some (.str (cp (Txt.upper (S a)))) else none
def gStrip (a : List Nat) : Option D := if fits a.length then some (.str (cp (Txt.strip (S a)))) else none
def gCount (a b : List Nat) : Option D := some (.int (Txt.count (S a) (S b)))
def gFind (a b : List Nat) : Option D := some (.int (Txt.find (S a) (S b)))
def gStarts (a b : List Nat) : Option D := some (.bl (Txt.startswith (S a) (S b)))
def gEnds (a b : List Nat) : Option D := some (.bl (Txt.endswith (S a) (S b)))
def gDigit (a : List Nat) : Option D := some (.bl (Txt.isdigit (S a)))
theorem md_lower : MtD X T "str.lower" (mS0 gLower) := md_s0 mt_lower fun a d H Q e k => by
  unfold gLower at e
  split at e
  · rename_i hl
    cases e
    exact ⟨_, rfl, rfl, by rw [S_len]; exact of_decide_eq_true hl, k _ fun G => rd_cp _⟩
  · cases e
theorem md_upper : MtD X T "str.upper" (mS0 gUpper) := md_s0 mt_upper fun a d H Q e k => by
  unfold gUpper at e
  split at e
  · rename_i hl
    cases e
    exact ⟨_, rfl, rfl, by rw [S_len]; exact of_decide_eq_true hl, k _ fun G => rd_cp _⟩
  · cases e
theorem md_strip : MtD X T "str.strip" (mS0 gStrip) := md_s0 mt_strip fun a d H Q e k => by
  unfold gStrip at e
  split at e
  · rename_i hl
    cases e
    exact ⟨_, rfl, rfl, by rw [S_len]; exact fits_ok hl, k _ fun G => rd_cp _⟩
  · cases e
theorem md_isdigit : MtD X T "str.isdigit" (mS0 gDigit) := md_s0 mt_isdigit fun a d H Q e k => by
  cases e
  exact ⟨_, rfl, rfl, trivial, k _ fun G => .bl _⟩
theorem md_count : MtD X T "str.count" (mS1 gCount) := md_s1 mt_count fun a b d H Q e k => by
  cases e
  exact ⟨_, _, rfl, rfl, k _ fun G => .int _⟩
theorem md_find : MtD X T "str.find" (mS1 gFind) := md_s1 mt_find fun a b d H Q e k => by
  cases e
  exact ⟨_, _, rfl, rfl, k _ fun G => .int _⟩
theorem md_startswith : MtD X T "str.startswith" (mS1 gStarts) := md_s1 mt_startswith fun a b d H Q e k => by
  cases e
  exact ⟨_, _, rfl, rfl, k _ fun G => .bl _⟩
theorem md_endswith : MtD X T "str.endswith" (mS1 gEnds) := md_s1 mt_endswith fun a b d H Q e k => by
  cases e
  exact ⟨_, _, rfl, rfl, k _ fun G => .bl _⟩
/-! join -/
def strsOf : List D → Option (List (List Nat))
  | [] => some []
  | .str x :: r => (strsOf r).map fun ys => x :: ys
  | _ => none
theorem strs_rd {K : PySem.W.Frag} {G : Gh} : ∀ {ds : List D} {vs : List V} {ys : List (List Nat)}, RDs K G ds vs → strsOf ds = some ys → vs = (ys.map S).map V.str
  | _, _, _, .nil, e => by cases e; rfl
  | x :: ds, _, ys, .cons r t, e => by
    cases r with
    | str x =>
      have e : (strsOf ds).map (fun ys => x :: ys) = some ys := e
      cases e1 : strsOf ds with
      | none => rw [e1] at e; cases e
      | some zs =>
        rw [e1] at e; cases e
        rw [strs_rd t e1]
        rfl
    | _ => cases e
/-- sep.join(parts) -/
def joinN (a : List Nat) : List (List Nat) → List Nat
  | [] => []
  | [p] => p
  | p :: q :: r => p ++ (a ++ joinN a (q :: r))
theorem join_eq (a : List Nat) (ys : List (List Nat)) : Txt.join (S a) (ys.map S) = S (joinN a ys) := by
  have h := TL.tl_join (S a) (ys.map S)
  have e : ∀ zs : List (List Nat), TL.joinL a zs = joinN a zs := by
    intro zs
    induction zs with
    | nil => rfl
    | cons p r ih =>
      cases r with
      | nil => rfl
      | cons q r =>
        show p ++ (a ++ TL.joinL a (q :: r)) = p ++ (a ++ joinN a (q :: r))
        rw [ih]
  have h2 : TL.tl (Txt.join (S a) (ys.map S)) = joinN a ys := by
    have h' : TL.tl (Txt.join (S a) (ys.map S)) = TL.joinL (TL.tl (S a)) ((ys.map S).map TL.tl) := by
      rw [show Txt.join (S a) (ys.map S) = PySem.Str.join (S a) (ys.map S) from PySem.StrLaws.glued_eq_join _ _]
      exact h
    rw [h', List.map_map]
    have e2 : ys.map (TL.tl ∘ S) = ys := by
      have : (TL.tl ∘ S) = id := by funext l; rfl
      rw [this, List.map_id]
    rw [e2]
    exact e ys
  have h3 : (Txt.join (S a) (ys.map S)).cps.toList = joinN a ys := h2
  rw [← h3, S_cps]
def mJoin : Mf := fun x ds h => match x, ds with
  | .str a, [y] => (match seqH h y with
    | some (_, zs) => (match strsOf zs with
      | some ys => if decide ((ys.map List.length).sum + ys.length * a.length ≤ 16777216) then some (.str (joinN a ys), h) else none
      | none => none)
    | none => none)
  | _, _ => none
theorem md_join : MtD X T "str.join" mJoin := by
  intro pins s σ H x xs v us Q I rx rs ⟨G, h, dx, ds, d, h', rh, rd, rds, e, k⟩
  unfold mJoin at e
  split at e
  · rename_i a y
    cases rd
    cases rds with
    | cons r1 r2 =>
      cases r2
      split at e
      · rename_i b zs es
        split at e
        · rename_i ys ey
          split at e
          · rename_i hl
            cases e
            have hl2 : (((ys.map S).map (·.length)).sum + (ys.map S).length * (S a).length ≤ 16777216) := by
              have q := of_decide_eq_true hl
              have e1 : (ys.map S).map (·.length) = ys.map List.length := by
                rw [List.map_map]
                exact List.map_congr_left fun y _ => S_len y
              rw [e1, List.length_map, S_len]
              exact q
            cases b with
            | false =>
              obtain ⟨p, vs, rfl, r, q⟩ := seqH_l rh r1 es
              have ev := strs_rd r ey
              subst ev
              exact mt_join pins s σ H _ _ v us Q I rx rs ⟨_, p, ys.map S, rfl, rfl, .inl q, hl2, by rw [join_eq]; exact k G H _ (.refl G) rh (.str _)⟩
            | true =>
              obtain ⟨p, vs, rfl, r, q⟩ := seqH_t rh r1 es
              have ev := strs_rd r ey
              subst ev
              exact mt_join pins s σ H _ _ v us Q I rx rs ⟨_, p, ys.map S, rfl, rfl, .inr q, hl2, by rw [join_eq]; exact k G H _ (.refl G) rh (.str _)⟩
          · cases e
        · cases e
      · cases e
  · cases e
end
end Sh

set_option Elab.async false
set_option linter.all false
set_option maxRecDepth 100000
set_option maxHeartbeats 4000000
/-! Sh16: tuples backwards, stores, dicts of the module, displays of dicts, get; replace behind lower. -/
namespace Sh
open PySem PySem.Spec PyProof.Rows L2

/-! ### t[::-1] -/
section
variable {prog : Program} {w : World} {A : Around} {E : Value → Shared → Prop} {s : Shared}
theorem rev_adj (n : Nat) : Builtin.Slice.sliceAdjust none none (-1) (n : Int) = ((n : Int) - 1, -1) := by
  unfold Builtin.Slice.sliceAdjust
  simp only [show ((-1 : Int) < 0) from by decide, if_true]
theorem rev_pl (n : Nat) : Builtin.Slice.slicePlaces ((n : Int) - 1) (-1) (-1) = n := by
  unfold Builtin.Slice.slicePlaces
  simp only [show ¬ ((-1 : Int) > 0) from by decide, if_false, Int.neg_neg, Int.ediv_one]
  split <;> omega
theorem fm_map {α β : Type} {f : α → Option β} {g : α → β} : ∀ {l : List α}, (∀ k ∈ l, f k = some (g k)) → l.filterMap f = l.map g
  | [], _ => rfl
  | a :: r, h => by rw [List.filterMap_cons, h a List.mem_cons_self, List.map_cons, fm_map fun k hk => h k (List.mem_cons_of_mem _ hk)]
theorem rev_pick (xs : Array Value) : ((List.range xs.size).filterMap fun (k : Nat) => xs[(((xs.size : Int) - 1) + (k : Int) * (-1)).toNat]?).toArray = xs.toList.reverse.toArray := by
  congr 1
  refine List.ext_getElem? fun i => ?_
  have e : (List.range xs.size).filterMap (fun (k : Nat) => xs[(((xs.size : Int) - 1) + (k : Int) * (-1)).toNat]?) = (List.range xs.size).map fun k => xs.toList.reverse[k]?.getD .none := by
    refine fm_map fun k hk => ?_
    have hk : k < xs.size := List.mem_range.mp hk
    have e1 : (((xs.size : Int) - 1) + (k : Int) * (-1)).toNat = xs.size - 1 - k := by omega
    rw [e1]
    have h2 : xs.size - 1 - k < xs.size := by omega
    show xs[xs.size - 1 - k]? = some (xs.toList.reverse[k]?.getD .none)
    rw [List.getElem?_reverse (by simpa using hk)]
    rw [Array.length_toList, Array.getElem?_toList, Array.getElem?_eq_getElem h2]
    rfl
  rw [e, List.getElem?_map]
  by_cases hi : i < xs.size
  · rw [List.getElem?_range hi]
    have hr : i < xs.toList.reverse.length := by simpa using hi
    rw [List.getElem?_eq_getElem hr]
    show some (xs.toList.reverse[i]?.getD .none) = _
    rw [List.getElem?_eq_getElem hr]
    rfl
  · rw [List.getElem?_eq_none (by simpa using hi), List.getElem?_eq_none (by simpa using hi)]
    rfl
theorem tup_rev {t sl : Addr} {items : Array Value} {vl vu vs : Value} {Q : Value → Shared → Prop} (ht : IsTup s.heap t items) (hs : s.heap.IsSliceOf sl vl vu vs) (pl : IsPart vl none) (pu : IsPart vu none) (ps : IsPart vs (some (-1)))
    (h : Q (.ref s.heap.objs.size) { s with heap := s.heap.push { cls := .type "tuple", data := .seq items.toList.reverse.toArray } }) (hsz : items.size ≤ sizeLine) : wpAny (model prog w) A (getItem (.ref t) (.ref sl)) Q E s := by
  have hok : sizeOk (.seq items.toList.reverse.toArray) := by
    show items.toList.reverse.toArray.size ≤ sizeLine
    simpa using hsz
  obtain ⟨os, hos, hcs, hds⟩ := id hs
  unfold getItem
  try with_reducible refine wpAny_holding ?_
  first | refine wpAny_bind (wpAny_pure ?_) | skip
  refine wpAny_bind (wpAny_sequenceKey ht.typeIs (by decide) ?_)
  refine wpAny_bind (wpAny_callSpecial?_slot (name := Str.ofString "__getitem__") ht.typeIs PyProof.Rows.slot_tuple_getitem
    (wpAny_call_entry PyProof.Rows.slot_tuple_getitem ht.typeIs entry_tuple_getitem ?_ (args_tuple_getitem _ _)))
  refine wpAny_bind (m := Builtin.Tuple.tupleItemsOf (.ref t)) (tupleItemsOf_ ht ?_)
  refine wpAny_bind (wpAny_typeOf (T := "slice") ⟨os, hos, hcs⟩ ?_)
  rw [if_pos (by decide)]
  have ap : ∀ {Q2 : Int × Int × Nat → Shared → Prop} {E2 : Value → Shared → Prop} {A2 : Around}, Q2 ((items.size : Int) - 1, -1, items.size) s → wpAny (model prog w) A2 (Builtin.Slice.sliceApplied (.ref sl) (pure (items.size : Int))) Q2 E2 s := by
    intro Q2 E2 A2 hq
    unfold Builtin.Slice.sliceApplied Builtin.Slice.sliceFields
    refine wpAny_bind (wpAny_bind (wpAny_field hos hds (x := vl) rfl (wpAny_bind (wpAny_field hos hds (x := vu) rfl (wpAny_bind (wpAny_field hos hds (x := vs) rfl (wpAny_pure ?_)))))))
    refine wpAny_bind (HT.slicePart_ ps ?_)
    refine (if_neg (show ¬ (((-1 : Int) == 0) = true) by decide)) ▸ ?_
    refine wpAny_bind (HT.slicePart_ pl (wpAny_bind (HT.slicePart_ pu (wpAny_bind (wpAny_pure ?_)))))
    show wpAny _ _ (match Builtin.Slice.sliceAdjust none none (-1) (items.size : Int) with | (lo, hi) => pure (lo, (-1 : Int), Builtin.Slice.slicePlaces lo hi (-1))) _ _ s
    rw [rev_adj items.size]
    show wpAny _ _ (pure ((items.size : Int) - 1, (-1 : Int), Builtin.Slice.slicePlaces ((items.size : Int) - 1) (-1) (-1))) _ _ s
    rw [rev_pl]
    exact wpAny_pure hq
  refine wpAny_bind (ap ?_)
  show wpAny _ _ (if ((items.size : Int) - 1 == 0 && (-1 : Int) == 1 && items.size == items.size) = true then _ else _) _ _ s
  rw [if_neg (by simp), rev_pick]
  first
    | exact wpAny_bind (m := Builtin.Tuple.tupleExact _) (wpAny_newObj_type (wpAny_pure ⟨_, rfl, wpAny_pure h⟩) hok)
    | exact wpAny_bind (m := Builtin.Tuple.tupleExact _) (wpAny_newObj_type (wpAny_bind (wpAny_pure (wpAny_pure ⟨_, rfl, wpAny_pure h⟩))) hok)
    | exact wpAny_bind (wpAny_bind (m := Builtin.Tuple.tupleExact _) (wpAny_newObj_type (wpAny_pure (wpAny_pure ⟨_, rfl, wpAny_pure h⟩)) hok))
    | exact wpAny_bind (wpAny_bind (m := Builtin.Tuple.tupleExact _) (wpAny_newObj_type (wpAny_pure ⟨_, rfl, wpAny_pure h⟩) hok))
end
section
variable {X : Cx} {T : Tb} {W : WX} {pos : Pos} {e : Expr} {me : Ev}
/-- xs[::-1] of a list or a tuple -/
def eRevA (m : Ev) : Ev := fun ρ h => (m ρ h).bind fun x h1 => match seqH h1 x with
  | some (false, xs) => .ok (.lst xs.reverse) h1
  | some (true, xs) => .ok (.tup xs.reverse) h1
  | _ => .err
theorem de_rev {k : Nat} {p1 p2 p3 : Pos} (he : DE X T W e me) : DE X T W (.Subscript e (.Slice none none (some (.UnaryOp .USub (.Constant (.int 1) k p1) p2)) p3) pos) (eRevA me) := ⟨⟨fun pins s σ H Q I ⟨G, ρ, h, re, rh, p⟩ => by
  unfold eRevA at p
  refine Subscript_ (thn (he.p.run pins s σ H (fun v H1 => ∃ G1 x h1, G.le G1 ∧ RH X.K T G1 h1 H1 ∧ RD X.K G1 x v ∧ Post X.K T W σ G (match seqH h1 x with
    | some (false, xs) => .ok (.lst xs.reverse) h1
    | some (true, xs) => .ok (.tup xs.reverse) h1
    | _ => .err) Q) I ⟨G, ρ, h, re, rh, ?_⟩) fun v s1 ⟨x, H1, I1, r1, G1, dx, h1, l1, rh1, rd1, p⟩ => ?_)
  · cases e1 : me ρ h with
    | exc c h1 => rw [e1] at p; exact p
    | err => rw [e1] at p; exact p.elim
    | ok x h1 => rw [e1] at p; exact fun G1 H1 v l1 rh1 rd1 => ⟨G1, x, h1, l1, rh1, rd1, p⟩
  · have hst : PO X (some (.UnaryOp .USub (.Constant (.int 1) k p1) p2)) (tPart (tUn (rU fun i => .int (-i)) (tC (.int 1)))) := po_some (pe_un un_neg pe_int)
    refine wpAny_Slice (thn (po_none.run pins s1 σ H1 (fun o H2 => o = none ∧ H2 = H1) I1 ⟨rfl, rfl⟩) fun vl s2 ⟨l, H2, I2, pl, el, e2⟩ => ?_)
    subst el e2
    refine thn (po_none.run pins s2 σ H2 (fun o H3 => o = none ∧ H3 = H2) I2 ⟨rfl, rfl⟩) fun vu s3 ⟨u, H3, I3, pu, eu, e3⟩ => ?_
    subst eu e3
    refine thn (hst.run pins s3 σ H3 (fun o H4 => o = some (-1) ∧ H4 = H3) I3 ⟨1, rfl, -1, rfl, rfl, rfl⟩) fun vs s4 ⟨o, H4, I4, ps, eo, e4⟩ => ?_
    subst eo e4
    have I5 : Inv X pins σ H4 { s4 with heap := s4.heap.push { cls := .type "slice", data := .fields #[vl, vu, vs] } } := I4.kept (t' := s4.toks) fun b ob q => Heap.get?_push_of_some _ q
    show wpAny (model X.prog X.w) X.A (subscriptTail e (.Slice none none (some (.UnaryOp .USub (.Constant (.int 1) k p1) p2)) p3) v (.ref s4.heap.objs.size)) (EP X pins σ Q) X.xe { s4 with heap := s4.heap.push { cls := .type "slice", data := .fields #[vl, vu, vs] } }
    split at p
    · rename_i xs es
      obtain ⟨a, ws, rfl, r, q⟩ := seqH_l rh1 rd1 es
      cases r1
      obtain ⟨its, rv, ht, hz⟩ := I5.list q
      have hlen := rv.length
      refine tail_any (ops := [.ref a, .ref s4.heap.objs.size]) ht.isList.typeIs (PySem.slot_list_getitem.lookup) ?_ (by with_unfolding_all rfl)
      refine wpAny_getItem_list_slice ht.isList (Heap.IsSliceOf.new _ vl vu vs) pl pu ps (by decide) ?_ (by rw [List.size_toArray]; omega)
      rw [PySem.W.krv_pick]
      refine ⟨.ref _, _, I5.laid (t' := s4.toks) (o := .lst ws.reverse) (fun b ob q => Heap.get?_push_of_some _ q) (Nat.le_refl _) ?_, rfl, fin_lst (fun G' H' z l rh rd => p G' H' z (l1.trans l) rh rd) rh1 r.reverse _ (I5.hok.fresh (Nat.le_refl _))⟩
      exact ⟨by rw [List.length_reverse]; exact hz, _, 0, rv.reverse, Heap.get?_push_size _ rfl⟩
    · rename_i xs es
      obtain ⟨a, ws, rfl, r, q⟩ := seqH_t rh1 rd1 es
      cases r1
      obtain ⟨its, rv, ht, hz⟩ := I5.tuple q
      have hlen := rv.length
      refine tail_any (ops := [.ref a, .ref s4.heap.objs.size]) ht.typeIs (PyProof.Rows.slot_tuple_getitem.lookup) ?_ (by with_unfolding_all rfl)
      refine tup_rev ht (Heap.IsSliceOf.new _ vl vu vs) pl pu ps ?_ (by rw [List.size_toArray]; omega)
      refine ⟨.ref _, _, I5.laid (t' := s4.toks) (o := .tup ws.reverse) (fun b ob q => Heap.get?_push_of_some _ q) (Nat.le_refl _) ?_, rfl, fin_tup (fun G' H' z l rh rd => p G' H' z (l1.trans l) rh rd) rh1 r.reverse _ (I5.hok.fresh (Nat.le_refl _))⟩
      exact ⟨by rw [List.length_reverse]; exact hz, its.reverse, rv.reverse, ⟨_, Heap.get?_push_size _ rfl, rfl, _, rfl⟩⟩
    · exact p.elim⟩⟩
/-! ### o[i] = v -/
def putD (kvs : List (Key × D)) (k : Key) (v : D) : List (Key × D) :=
  if (kvs.any fun kv => decide (kv.1 = k)) = true then kvs.map (fun kv => if kv.1 = k then (kv.1, v) else kv) else kvs ++ [(k, v)]
theorem RKs.any {K : PySem.W.Frag} {G : Gh} {k : Key} : ∀ {kvs : List (Key × D)} {vs : List (Key × V)}, RKs K G kvs vs → (kvs.any fun kv => decide (kv.1 = k)) = vs.any fun kv => decide (kv.1 = k)
  | _, _, .nil => rfl
  | _, _, .cons _ t => by rw [List.any_cons, List.any_cons, RKs.any t]
theorem RKs.app {K : PySem.W.Frag} {G : Gh} {k : Key} {d : D} {v : V} (r : RD K G d v) : ∀ {kvs : List (Key × D)} {vs : List (Key × V)}, RKs K G kvs vs → RKs K G (kvs ++ [(k, d)]) (vs ++ [(k, v)])
  | _, _, .nil => .cons r .nil
  | _, _, .cons q t => .cons q (RKs.app r t)
theorem RKs.upd {K : PySem.W.Frag} {G : Gh} {k : Key} {d : D} {v : V} (r : RD K G d v) : ∀ {kvs : List (Key × D)} {vs : List (Key × V)}, RKs K G kvs vs → RKs K G (kvs.map fun kv => if kv.1 = k then (kv.1, d) else kv) (vs.map fun kv => if kv.1 = k then (kv.1, v) else kv)
  | _, _, .nil => .nil
  | _, _, .cons (k := j) q t => by
    rw [List.map_cons, List.map_cons]
    by_cases h : j = k
    · rw [if_pos h, if_pos h]; exact .cons r (RKs.upd r t)
    · rw [if_neg h, if_neg h]; exact .cons q (RKs.upd r t)
theorem RKs.put {K : PySem.W.Frag} {G : Gh} {k : Key} {d : D} {v : V} {kvs : List (Key × D)} {vs : List (Key × V)} (r : RD K G d v) (t : RKs K G kvs vs) : RKs K G (putD kvs k d) (putK vs k v) := by
  unfold putD putK
  rw [t.any (k := k)]
  split
  · exact t.upd r
  · exact t.app r
theorem RKs.length {K : PySem.W.Frag} {G : Gh} : ∀ {kvs : List (Key × D)} {vs : List (Key × V)}, RKs K G kvs vs → kvs.length = vs.length
  | _, _, .nil => rfl
  | _, _, .cons _ t => congrArg (· + 1) (RKs.length t)
def setH (n : Nat) (k d : D) (h : LH) : Option LH := match h[n]? with
  | some (.lst xs) => (match k with
    | .int i => (ixN xs.length i).map fun j => h.set n (.lst (xs.set j d))
    | _ => none)
  | some (.dic kvs) => (keyD k).bind fun k => if fits (kvs.length + 1) then some (h.set n (.dic (putD kvs k d))) else none
  | _ => none
def gSubH (mo mi : Ev) : Gv := fun d ρ h => match mo ρ h with
  | .ok (.obj n) h1 => (match mi ρ h1 with
    | .ok k h2 => (setH n k d h2).map fun h3 => (ρ, h3)
    | _ => none)
  | _ => none
theorem fits_one {n : Nat} (h : fits (n + 1) = true) : n < sizeLine := by have := fits_ok h; omega
def rSetH (K : PySem.W.Frag) (T : Tb) : TSet := fun o i v H Q => ∃ G h n k d h', RH K T G h H ∧ RD K G (.obj n) o ∧ RD K G k i ∧ RD K G d v ∧ setH n k d h = some h' ∧ ∀ H', RH K T G h' H' → Q H'
theorem set_red (hu : X.A.units + 1 < cLine) : PSet X (rSetH X.K T) := by
  intro pins s σ H o i v ov iv u Q I ro ri rv ⟨G, h, n, k, d, h', rh, r1, r2, r3, e, kk⟩
  cases r1 with
  | obj ea =>
    unfold setH at e
    split at e
    · rename_i xs eo
      split at e
      case h_2 => cases e
      rename_i j
      cases r2
      obtain ⟨w, q1, q2⟩ := rh.at eo ea (fun z => by cases z)
      cases q2 with
      | @lst _ vs r =>
        cases e1 : ixN xs.length j with
        | none => rw [e1] at e; cases e
        | some m =>
          rw [e1] at e; cases e
          exact set_list pins s σ H _ _ v ov iv u Q I ro ri rv ⟨_, vs, j, m, rfl, rfl, q1, by rw [← r.length]; exact e1, kk _ (rh.set eo ea (fun z => by cases z) (.lst (r.set m r3)))⟩
    · rename_i kvs eo
      obtain ⟨w, q1, q2⟩ := rh.at eo ea (fun z => by cases z)
      cases q2 with
      | @dic _ vs r =>
        cases e1 : keyD k with
        | none => rw [e1] at e; cases e
        | some key =>
          rw [e1] at e
          have e : (if fits (kvs.length + 1) then some (h.set n (.dic (putD kvs key d))) else none) = some h' := e
          split at e
          · rename_i hf
            cases e
            have ei := keyD_rd r2 e1
            subst ei
            refine set_dict hu pins s σ H _ _ v ov iv u Q I ro ri rv ⟨_, _, rfl, DPut.k q1 (by rw [← r.length]; exact fits_one hf), kk _ (rh.set eo ea (fun z => by cases z) (.dic (r.put r3)))⟩
          · cases e
    · cases e
theorem dg_sub {o i : Expr} {mo mi : Ev} (hu : X.A.units + 1 < cLine) (ho : DE X T W0 o mo) (hi : DE X T W0 i mi)
    (ha : ∀ v, assign (.Subscript o i pos) X.env v = (do
      let ov ← holding [v] (eval o X.env)
      let iv ← holding [v, ov] (eval i X.env)
      standAt pos
      holding [v, ov, iv] (setItem ov iv v)
      release [v, ov, iv] []) := by intro _; rfl) : DG X T (.Subscript o i pos) (gSubH mo mi) := ⟨PG.imp (pg_sub ho.p hi.p (set_red (T := T) hu) ha) fun v σ H Q ⟨G, ρ, h, d, re, rh, rd, p⟩ => by
  refine ⟨G, ρ, h, re, rh, ?_⟩
  unfold gSubH at p
  cases e1 : mo ρ h with
  | exc c h1 => rw [e1] at p; exact p.elim
  | err => rw [e1] at p; exact p.elim
  | ok x h1 =>
    rw [e1] at p
    cases x with
    | obj n =>
      intro G1 H1 v1 l1 rh1 rd1
      refine ⟨G1, ρ, h1, re.mono l1, rh1, ?_⟩
      have p : PostG X.K T G (match mi ρ h1 with
        | .ok k h2 => (setH n k d h2).map fun h3 => (ρ, h3)
        | _ => none) Q := p
      cases e2 : mi ρ h1 with
      | exc c h2 => rw [e2] at p; exact p.elim
      | err => rw [e2] at p; exact p.elim
      | ok k h2 =>
        rw [e2] at p
        intro G2 H2 v2 l2 rh2 rd2
        have p : PostG X.K T G ((setH n k d h2).map fun h3 => (ρ, h3)) Q := p
        cases e3 : setH n k d h2 with
        | none => rw [e3] at p; exact p.elim
        | some h3 =>
          rw [e3] at p
          exact ⟨G2, h2, n, k, d, h3, rh2, rd1.mono l2, rd2, rd.mono (l1.trans l2), e3, fun H' r => p G2 H' σ (l1.trans l2) (re.mono (l1.trans l2)) r⟩
    | _ => exact p.elim⟩
end
end Sh

set_option Elab.async false
set_option linter.all false
set_option maxRecDepth 100000
set_option maxHeartbeats 4000000
/-! Sh17: the module's constants, its dicts; displays of dicts, get; replace behind lower. -/
namespace Sh
open PySem PySem.Spec PyProof.Rows L2

section
variable {X : Cx} {T : Tb} {W : WX} {pos p p2 : Pos} {e : Expr} {me : Ev} {x : Str}
theorem de_gint {i : Int} (hg : Gl X x) (hm : ∃ t, X.mg x = some (.int i t)) (hd : (x == ("__debug__" : Str)) = false := by decide) : DE X T W (.Name x pos) (eC (.int i)) := by
  obtain ⟨t, hm⟩ := hm
  exact ⟨PE.imp (pe_glob (v := .int i) hg hm ⟨t, rfl⟩ hd) fun σ H Q ⟨G, ρ, h, re, rh, p⟩ => p G H _ (.refl G) rh (.int i)⟩
theorem de_gstr {l : List Nat} (hg : Gl X x) (hm : ∃ t, X.mg x = some (.str (S l) t)) (hd : (x == ("__debug__" : Str)) = false := by decide) : DE X T W (.Name x pos) (eC (.str l)) := by
  obtain ⟨t, hm⟩ := hm
  exact ⟨PE.imp (pe_glob (v := .str (S l)) hg hm ⟨t, rfl⟩ hd) fun σ H Q ⟨G, ρ, h, re, rh, p⟩ => p G H _ (.refl G) rh (.str l)⟩
/-- a global list or tuple -/
theorem de_gtup {ds : List D} {vs : List V} {a : Addr} (hg : Gl X x) (hm : X.mg x = some (.ref a)) (hs : ∀ H, SqT X.K H a vs) (hr : ∀ G, RDs X.K G ds vs) (hd : (x == ("__debug__" : Str)) = false := by decide) : DE X T W (.Name x pos) (eC (.tup ds)) :=
  ⟨PE.imp (pe_glob (v := .ref a) hg hm rfl hd) fun σ H Q ⟨G, ρ, h, re, rh, p⟩ => p G H _ (.refl G) rh (.tup (hs _) (hr G))⟩
theorem de_glst {ds : List D} {vs : List V} {a : Addr} (hg : Gl X x) (hm : X.mg x = some (.ref a)) (hs : ∀ H, SqL X.K H a vs) (hr : ∀ G, RDs X.K G ds vs) (hd : (x == ("__debug__" : Str)) = false := by decide) : DE X T W (.Name x pos) (eC (.fls ds)) :=
  ⟨PE.imp (pe_glob (v := .ref a) hg hm rfl hd) fun σ H Q ⟨G, ρ, h, re, rh, p⟩ => p G H _ (.refl G) rh (.fls (hs _) (hr G))⟩
/-! ### the module's dicts -/
structure KTab (K : PySem.W.Frag) (w : World) (a : Addr) (kvs : List (List Nat × D)) (vs : List (Key × Value)) : Prop where
  at_ : ∀ (P : Program) (h : Heap), K.In h → h.DictOf (mixKind P w) a vs
  low : (a == sysModules) = false
  rel : Paired (fun (p : List Nat × D) (q : Key × Value) => q.1 = .inr (S p.1) ∧ ∃ v, RelV v q.2 ∧ ∀ G, RD K G p.2 v) kvs vs
  len : kvs.length ≤ 1000
def GTab (X : Cx) (x : Str) (kvs : List (List Nat × D)) : Prop := ∃ a vs, X.mg x = some (.ref a) ∧ KTab X.K X.w a kvs vs
def lookN : List (List Nat × D) → List Nat → Option D
  | [], _ => none
  | (j, d) :: r, k => if j = k then some d else lookN r k
theorem lookN_rel {K : PySem.W.Frag} {z : List Nat} : ∀ {kvs : List (List Nat × D)} {vs : List (Key × Value)}, Paired (fun (p : List Nat × D) (q : Key × Value) => q.1 = .inr (S p.1) ∧ ∃ v, RelV v q.2 ∧ ∀ G, RD K G p.2 v) kvs vs →
    (∀ d, lookN kvs z = some d → ∃ u v, valueAt vs (.inr (S z) : Key) = some u ∧ RelV v u ∧ ∀ G, RD K G d v) ∧ (lookN kvs z = none → valueAt vs (.inr (S z) : Key) = none)
  | _, _, .nil => ⟨fun _ e => (nomatch e), fun _ => rfl⟩
  | (j, d) :: r, (q, u) :: vs, .cons ⟨e1, v, h1, h2⟩ t => by
    obtain ⟨i1, i2⟩ := lookN_rel (z := z) t
    have e1 : q = .inr (S j) := e1
    subst e1
    unfold lookN valueAt
    rw [List.find?_cons]
    by_cases h : j = z
    · subst h
      rw [if_pos rfl]
      simp only [decide_true]
      exact ⟨fun d' e => by cases e; exact ⟨u, v, rfl, h1, h2⟩, fun e => by cases e⟩
    · rw [if_neg h]
      have hn : ¬ ((Sum.inr (S j) : Key) = Sum.inr (S z)) := fun q => h (S_inj (Sum.inr.inj q))
      simp only [decide_eq_false hn]
      exact ⟨i1, i2⟩
def eKix (kvs : List (List Nat × D)) (b : Ev) : Ev := fun ρ h => (b ρ h).bind fun k h1 => match k with
  | .str z => liftO h1 (lookN kvs z)
  | _ => .err
theorem str_is {P : Program} {w : World} {z : Str} {t : Tok} : (mixKind P w).is (.inr z) (.str z t) = true := mixKind_str P w z t
/-- x[e], x a dict of the module -/
theorem de_kix {kvs : List (List Nat × D)} (hg : Gl X x) (ht : GTab X x kvs) (he : DE X T W e me) (hs : PlainIx e := by exact fun _ _ => rfl) (hd : (x == ("__debug__" : Str)) = false := by decide) : DE X T W (.Subscript (.Name x p) e pos) (eKix kvs me) := by
  obtain ⟨a, vs, hm, tb⟩ := ht
  have ix : IxR X (fun x y H Q => ∃ z d G h, x = .ref a ∧ y = .str (S z) ∧ lookN kvs z = some d ∧ RH X.K T G h H ∧ ∀ G' H' v, G.le G' → RH X.K T G' h H' → RD X.K G' d v → Q v H') := by
    intro value slice pins s σ H x y v u Q I rx ry ⟨z, d, G, h, ex, ey, el, rh, k⟩ hsub
    subst ex ey
    cases rx
    obtain ⟨t, rfl⟩ := ry
    obtain ⟨u0, v0, f1, f2, f3⟩ := (lookN_rel tb.rel).1 d el
    have dd := tb.at_ X.prog s.heap I.kIn
    refine tail_any dd.typeIs slot_dict_getitem.lookup ?_ hsub
    exact wpAny_getItem_of (str_is (P := X.prog) (w := X.w)) dd.mapOf f1 ⟨v0, H, I.tok _, f2, k G H v0 (.refl G) rh (f3 G)⟩
  refine ⟨PE.imp (pe_ix ix (pe_glob (v := .ref a) hg hm rfl hd) he.p hs) fun σ H Q ⟨G, ρ, h, re, rh, p⟩ => ?_⟩
  refine ⟨G, ρ, h, re, rh, ?_⟩
  unfold eKix at p
  cases e1 : me ρ h with
  | exc c h1 => rw [e1] at p; exact p
  | err => rw [e1] at p; exact p.elim
  | ok y h1 =>
    rw [e1] at p
    intro G1 H1 v1 l1 rh1 rd1
    cases rd1 with
    | str z =>
      have p : Post X.K T W σ G (liftO h1 (lookN kvs z)) Q := p
      cases e2 : lookN kvs z with
      | none => rw [e2] at p; exact p.elim
      | some d => rw [e2] at p; exact ⟨z, d, G1, h1, rfl, rfl, e2, rh1, fun G' H' v l r d => p G' H' v (l1.trans l) r d⟩
    | _ => exact p.elim
/-- len(x) -/
theorem de_klen {kvs : List (List Nat × D)} (hg : Gl X x) (ht : GTab X x kvs) (hg2 : Gl X "len") (hm2 : X.mg "len" = none) (hd : (x == ("__debug__" : Str)) = false := by decide)
    (he : starEach [.Name x p] X.env = (false, eval (.Name x p) X.env) :: starEach [] X.env := by rfl) : DE X T W (.Call (.Name "len" p2) [.Name x p] [] pos) (eC (.int kvs.length)) := by
  obtain ⟨a, vs, hm, tb⟩ := ht
  have hl : kvs.length = vs.length := Paired.length tb.rel
  have cl : CallR X (.builtin "len") (fun xs H Q => xs = [V.ref a] ∧ Q (.int kvs.length) H) := by
    intro pins s σ H xs us Q I r ⟨ex, q⟩
    subst ex
    obtain ⟨u, rfl, rx⟩ := vals1 r
    obtain rfl : u = .ref a := rx
    have dd := tb.at_ X.prog s.heap I.kIn
    have := tb.len
    rw [hl] at q
    exact call_len_dict tb.low dd (by omega) ⟨.int ((vs.length : Nat) : Int), H, I.tok _, ⟨_, rfl⟩, q⟩
  exact ⟨PE.imp (pe_callB cl hg2 hm2 (by rfl) (pa_cons (pe_glob (v := .ref a) hg hm rfl hd) pa_nil he) (by decide) (by decide) he (by rfl)) fun σ H Q ⟨G, ρ, h, re, rh, p⟩ => ⟨rfl, p G H _ (.refl G) rh (.int _)⟩⟩
/-- list(x): its keys -/
theorem de_klist {kvs : List (List Nat × D)} (hc : X.calm = true) (hg : Gl X x) (ht : GTab X x kvs) (hg2 : Gl X "list") (hm2 : X.mg "list" = none) (hd : (x == ("__debug__" : Str)) = false := by decide)
    (he : starEach [.Name x p] X.env = (false, eval (.Name x p) X.env) :: starEach [] X.env := by rfl) : DE X T W (.Call (.Name "list" p2) [.Name x p] [] pos) (eC (.lst (kvs.map fun q => .str q.1))) := by
  obtain ⟨a, vs, hm, tb⟩ := ht
  have hl : kvs.length = vs.length := Paired.length tb.rel
  have ks : ∀ {kvs : List (List Nat × D)} {vs : List (Key × Value)}, Paired (fun (p : List Nat × D) (q : Key × Value) => q.1 = .inr (S p.1) ∧ ∃ v, RelV v q.2 ∧ ∀ G, RD X.K G p.2 v) kvs vs → vs.map (fun q => kV q.1) = kvs.map fun q => V.str (S q.1) := by
    intro kvs vs r
    induction r with
    | nil => rfl
    | cons h _ ih => rw [List.map_cons, List.map_cons, ih, h.1]; rfl
  have cl : CallR X (.type "list") (fun xs H Q => xs = [V.ref a] ∧ ∀ p, H p = none → Q (.ref p) (upd H p (.lst (kvs.map fun q => V.str (S q.1))))) := by
    intro pins s σ H xs us Q I r ⟨ex, q⟩
    subst ex
    obtain ⟨u, rfl, rx⟩ := vals1 r
    obtain rfl : u = .ref a := rx
    have dd := tb.at_ X.prog s.heap I.kIn
    obtain ⟨ep, hat⟩ := dd.dictAt
    have hz : vs.length ≤ sizeLine := by have := tb.len; rw [sizeLine_eq]; omega
    refine PySem.W.kdl_call (PySem.W.kdl_dict (knd := mixKind X.prog X.w) (kvs := vs) (ep := ep) tb.low) (I.ok.hd hc) hat hz fun h' tk acc c' hk hD hacc => ?_
    have hv : Vals (vs.map fun p => kV p.1) acc.toList := keys_at (by rw [Array.length_toList]; exact hacc.1) fun j v e => hacc.2 j v (by rw [← Array.getElem?_toList]; exact e)
    rw [ks tb.rel] at hv
    have new : ObjOk X.prog X.w (upd H s.heap.objs.size (.lst (kvs.map fun q => V.str (S q.1)))) h' s.heap.objs.size (.lst (kvs.map fun q => V.str (S q.1))) :=
      ⟨by rw [List.length_map, hl]; exact hz, acc.toList, c', hv, by rw [Array.toArray_toList]; exact hD⟩
    exact ⟨.ref s.heap.objs.size, _, I.laid (t' := tk) hk (Nat.le_refl _) new, rfl, q _ (I.hok.fresh (Nat.le_refl _))⟩
  have rds : ∀ (G : Gh) (l : List (List Nat × D)), RDs X.K G (l.map fun q => .str q.1) (l.map fun q => V.str (S q.1)) := fun G l => by
    induction l with
    | nil => exact .nil
    | cons q r ih => exact .cons (.str _) ih
  exact ⟨PE.imp (pe_callTy cl hg2 hm2 (by rfl) (pa_cons (pe_glob (v := .ref a) hg hm rfl hd) pa_nil he) (by decide) (by decide) he (by rfl)) fun σ H Q ⟨G, ρ, h, re, rh, p⟩ => ⟨rfl, fin_lst p rh (rds G kvs)⟩⟩
/-! ### displays of dicts that never change, get -/
def eDicP : List (Ev × Ev) → En → LH → Res (List (Key × D))
  | [] => fun _ h => .ok [] h
  | (mk, mv) :: r => fun ρ h => (mk ρ h).bind fun k h1 => (mv ρ h1).bind fun v h2 => (eDicP r ρ h2).bind fun kvs h3 => match keyD k with
    | some k => .ok ((k, v) :: kvs) h3
    | none => .err
def mergeD (kvs more : List (Key × D)) : List (Key × D) := more.foldl (fun acc kv => putD acc kv.1 kv.2) kvs
def eDic (ms : List (Ev × Ev)) : Ev := fun ρ h => match eDicP ms ρ h with
  | .ok kvs h1 => .ok (.dic (mergeD [] kvs)) h1
  | _ => .err
theorem RKs.merge {K : PySem.W.Frag} {G : Gh} : ∀ {more : List (Key × D)} {ms : List (Key × V)} {kvs : List (Key × D)} {vs : List (Key × V)}, RKs K G more ms → RKs K G kvs vs → RKs K G (mergeD kvs more) (mergeK vs ms)
  | _, _, _, _, .nil, t => t
  | _, _, _, _, .cons (k := k) q r, t => (RKs.merge r (t.put (k := k) q) : RKs K G (mergeD (putD _ _ _) _) (mergeK (putK _ _ _) _))
def DPs (X : Cx) (T : Tb) (pos : Pos) (keys : List (Option Expr)) (values : List Expr) (trs : List (TE × TE)) (ms : List (Ev × Ev)) : Prop := PPs X pos keys values trs ∧ keys.all (·.isSome) = true ∧ keys.length = values.length ∧ keys.length = ms.length ∧
  ∀ (σ : L2.St) (H : Hp) (Q : List (V × V) → Hp → Prop) (G : Gh) (ρ : En) (h : LH), RE X.K G ρ σ → RH X.K T G h H → (match eDicP ms ρ h with
    | .ok kvs h' => ∀ G' H' vs, G.le G' → RH X.K T G' h' H' → RKs X.K G' kvs vs → Q (vs.map fun kv => (kV kv.1, kv.2)) H'
    | _ => False) → tPairs trs σ H Q
theorem dps_nil : DPs X T pos [] [] [] [] := ⟨pps_nil, rfl, rfl, rfl, fun σ H Q G ρ h re rh p => p G H [] (.refl G) rh .nil⟩
theorem dps_cons {k v : Expr} {ks : List (Option Expr)} {vs : List Expr} {trs : List (TE × TE)} {mk mv : Ev} {ms : List (Ev × Ev)} (hk : DE X T W0 k mk) (hv : DE X T W0 v mv) (hr : DPs X T pos ks vs trs ms) :
    DPs X T pos (some k :: ks) (v :: vs) ((tE X.K T W0 mk, tE X.K T W0 mv) :: trs) ((mk, mv) :: ms) := by
  obtain ⟨r1, r2, r3, r4, r5⟩ := hr
  refine ⟨pps_cons hk.p hv.p r1, by rw [List.all_cons, r2]; rfl, by rw [List.length_cons, List.length_cons, r3], by rw [List.length_cons, List.length_cons, r4], fun σ H Q G ρ h re rh p => ?_⟩
  unfold eDicP at p
  refine ⟨G, ρ, h, re, rh, ?_⟩
  cases e1 : mk ρ h with
  | exc c h1 => rw [e1] at p; exact p.elim
  | err => rw [e1] at p; exact p.elim
  | ok dk h1 =>
    rw [e1] at p
    intro G1 H1 v1 l1 rh1 rd1
    refine ⟨G1, ρ, h1, re.mono l1, rh1, ?_⟩
    simp only [Res.bind] at p
    cases e2 : mv ρ h1 with
    | exc c h2 => rw [e2] at p; exact p.elim
    | err => rw [e2] at p; exact p.elim
    | ok dv h2 =>
      rw [e2] at p
      intro G2 H2 v2 l2 rh2 rd2
      simp only [Res.bind] at p
      refine r5 σ H2 _ G2 ρ h2 ((re.mono l1).mono l2) rh2 ?_
      cases e3 : eDicP ms ρ h2 with
      | exc c h3 => rw [e3] at p; exact p.elim
      | err => rw [e3] at p; exact p.elim
      | ok kvs h3 =>
        rw [e3] at p
        intro G3 H3 vs3 l3 rh3 rk3
        simp only [Res.bind] at p
        cases e4 : keyD dk with
        | none => rw [e4] at p; exact p.elim
        | some key =>
          rw [e4] at p
          have ev := keyD_rd rd1 e4
          subst ev
          exact p G3 H3 ((key, v2) :: vs3) ((l1.trans l2).trans l3) rh3 (.cons (rd2.mono l3) rk3)
theorem eDicP_len : ∀ {ms : List (Ev × Ev)} {ρ : En} {h h' : LH} {kvs : List (Key × D)}, eDicP ms ρ h = .ok kvs h' → kvs.length = ms.length
  | [], ρ, h, h', kvs, e => by cases e; rfl
  | (mk, mv) :: r, ρ, h, h', kvs, e => by
    unfold eDicP at e
    cases e1 : mk ρ h with
    | exc c h1 => rw [e1] at e; cases e
    | err => rw [e1] at e; cases e
    | ok dk h1 =>
      rw [e1] at e
      simp only [Res.bind] at e
      cases e2 : mv ρ h1 with
      | exc c h2 => rw [e2] at e; cases e
      | err => rw [e2] at e; cases e
      | ok dv h2 =>
        rw [e2] at e
        simp only [Res.bind] at e
        cases e3 : eDicP r ρ h2 with
        | exc c h3 => rw [e3] at e; cases e
        | err => rw [e3] at e; cases e
        | ok kvs3 h3 =>
          rw [e3] at e
          simp only [Res.bind] at e
          cases e4 : keyD dk with
          | none => rw [e4] at e; cases e
          | some key => rw [e4] at e; cases e; rw [List.length_cons, List.length_cons, eDicP_len e3]
theorem de_dic {keys : List (Option Expr)} {values : List Expr} {trs : List (TE × TE)} {ms : List (Ev × Ev)} (hp : DPs X T pos keys values trs ms) (h0 : keys ≠ [] := by simp) (h15 : keys.length ≤ 15 := by decide) : DE X T W (.Dict keys values pos) (eDic ms) := by
  obtain ⟨r1, r2, r3, r4, r5⟩ := hp
  refine ⟨PE.imp (pe_disp r1 r2 r3 h0 h15) fun σ H Q ⟨G, ρ, h, re, rh, p⟩ q hq => ?_⟩
  have hE0 := rh.notE hq
  refine r5 σ _ _ (G.hold q (.dK [])) ρ h (re.monow Gh.hold_lw) (rh.hold hq _) ?_
  unfold eDic at p
  cases e1 : eDicP ms ρ h with
  | exc c h1 => rw [e1] at p; exact p.elim
  | err => rw [e1] at p; exact p.elim
  | ok kvs h1 =>
    rw [e1] at p
    intro G1 H1 vs l1 rh1 rk
    have hq1 : G1.E q = some (.dK []) := by rw [l1.E]; show upd G.E q _ q = _; rw [upd_same]
    have hz : kvs.length ≤ 15 := by rw [eDicP_len e1]; rw [← r4]; exact h15
    refine ⟨(rh1.ext q _ hq1).1, vs, rfl, by rw [← rk.length]; exact hz, ?_⟩
    have rh2 := rh1.held hq1 (.dK (mergeK [] vs))
    have hE : ∀ a u, G.E a = some u → (G1.hold q (.dK (mergeK [] vs))).E a = some u := fun a u e => by
      have ne : a ≠ q := fun z => by rw [z, hE0] at e; cases e
      show upd G1.E q _ a = some u
      rw [upd_ne ne, l1.E]
      show upd G.E q _ a = some u
      rw [upd_ne ne]
      exact e
    obtain ⟨lb, rb⟩ := rh2.back (E0 := G.E) (by show upd G1.E q _ q = _; rw [upd_same]) hE0 hE
    have lw : G.lw ((G1.hold q (.dK (mergeK [] vs))).back q (.dK (mergeK [] vs)) G.E) := ((Gh.hold_lw.trans l1.w).trans Gh.hold_lw).trans lb
    have p : Post X.K T W σ G (.ok (.dic (mergeD [] kvs)) h1) Q := p
    exact p _ _ (.ref q) ⟨lw, rfl⟩ rb (.dic (by show upd G1.F q _ q = _; rw [upd_same]) ((rk.monow (Gh.hold_lw.trans lb)).merge .nil))
/-- d.get(k, x) -/
def eGet2 (mo mk mx : Ev) : Ev := fun ρ h => (mo ρ h).bind fun d h1 => match d with
  | .dic kvs => (mk ρ h1).bind fun k h2 => (mx ρ h2).bind fun x h3 => (match keyD k with
    | some k => .ok ((lookD kvs k).getD x) h3
    | none => .err)
  | _ => .err
theorem de_get2 {o f g : Expr} {mo mk mx : Ev} {apos : Pos} (hu : X.A.units + 1 < cLine) (ho : DE X T W o mo) (hk : DE X T W f mk) (hx : DE X T W g mx) (m : M2 X o "get" apos f g pos) : DE X T W (.Call (.Attribute o "get" apos) [f, g] [] pos) (eGet2 mo mk mx) := ⟨PE.imp (pe_dget2 hu ho.p hk.p hx.p m) fun σ H Q ⟨G, ρ, h, re, rh, p⟩ => by
  refine ⟨G, ρ, h, re, rh, ?_⟩
  unfold eGet2 at p
  cases e1 : mo ρ h with
  | exc c h1 => rw [e1] at p; exact p
  | err => rw [e1] at p; exact p.elim
  | ok d h1 =>
    rw [e1] at p
    intro G1 H1 v1 l1 rh1 rd1
    cases rd1 with
    | @dic kvs vs a q r =>
      have p : Post X.K T W σ G ((mk ρ h1).bind fun k h2 => (mx ρ h2).bind fun x h3 => (match keyD k with
        | some k => .ok ((lookD kvs k).getD x) h3
        | none => .err)) Q := p
      refine ⟨a, rfl, .inl ⟨vs, .inl (rh1.F _ _ q)⟩, G1, ρ, h1, re.mono l1, rh1, ?_⟩
      cases e2 : mk ρ h1 with
      | exc c h2 => rw [e2] at p; exact fun G2 H2 l2 rh2 => p G2 H2 (l1.trans l2) rh2
      | err => rw [e2] at p; exact p.elim
      | ok k h2 =>
        rw [e2] at p
        intro G2 H2 v2 l2 rh2 rd2
        refine ⟨G2, ρ, h2, (re.mono l1).mono l2, rh2, ?_⟩
        simp only [Res.bind] at p
        cases e3 : mx ρ h2 with
        | exc c h3 => rw [e3] at p; exact fun G3 H3 l3 rh3 => p G3 H3 ((l1.trans l2).trans l3) rh3
        | err => rw [e3] at p; exact p.elim
        | ok x h3 =>
          rw [e3] at p
          intro G3 H3 v3 l3 rh3 rd3
          simp only [Res.bind] at p
          cases e4 : keyD k with
          | none => rw [e4] at p; exact p.elim
          | some key =>
            rw [e4] at p
            have ev := keyD_rd rd2 e4
            subst ev
            have l13 := (l2.trans l3)
            have g := DGet.k (k := key) (rh3.F _ _ (l13.F _ _ q))
            refine ⟨_, g, ?_⟩
            obtain ⟨s1, s2⟩ := lookD_rd (k := key) (r.mono l13)
            cases e5 : lookD kvs key with
            | none =>
              rw [s2 e5]
              have p : Post X.K T W σ G (.ok ((lookD kvs key).getD x) h3) Q := p
              rw [e5] at p
              exact p G3 H3 v3 (l1.trans l13) rh3 rd3
            | some d =>
              obtain ⟨w, w1, w2⟩ := s1 d e5
              rw [w1]
              have p : Post X.K T W σ G (.ok ((lookD kvs key).getD x) h3) Q := p
              rw [e5] at p
              exact p G3 H3 w (l1.trans l13) rh3 w2
    | _ => exact p.elim⟩
end
end Sh

set_option Elab.async false
set_option linter.all false
set_option maxRecDepth 100000
set_option maxHeartbeats 4000000
/-! Sh18: replace behind lower or upper; told(lambda: ..). -/
namespace Sh
open PySem PySem.Spec PyProof.Rows L2

/-- an expression behind which a token is there -/
structure DK (X : Cx) (T : Tb) (W : WX) (e : Expr) (m : Ev) : Prop where
  run : ∀ (pins : List (Addr × Obj)) (s : Shared) (σ : L2.St) (H : Hp) (Q : VK), Inv X pins σ H s → tE X.K T W m σ H Q → wpAny (model X.prog X.w) X.A (eval e X.env) (fun v s' => 1 ≤ s'.toks ∧ EP X pins σ Q v s') X.xe s
section
variable {X : Cx} {T : Tb} {W : WX} {pos apos : Pos} {o : Expr} {mo : Ev}
theorem DK.de {e : Expr} {m : Ev} (h : DK X T W e m) : DE X T W e m := ⟨⟨fun pins s σ H Q I q => thn (h.run pins s σ H Q I q) fun v s' r => r.2⟩⟩
theorem dk_lower (ho : DE X T W o mo) (hbase : attributeBase o "lower" X.env (eval o X.env) = eval o X.env := by rfl) (hline : (apos.endLine == pos.line) = true := by rfl) :
    DK X T W (.Call (.Attribute o "lower" apos) [] [] pos) (eMt "str" (mS0 gLower) mo aNil) := ⟨fun pins s σ H Q I ⟨G, ρ, h, re, rh, p⟩ => by
  unfold eMt at p
  refine wpAny_Call_method0_late hbase hline (thn (ho.p.run pins s σ H (fun v H1 => ∃ a, v = .str (S a) ∧ a.length ≤ 5592405 ∧ Q (.str (Txt.lower (S a))) H1) I ⟨G, ρ, h, re, rh, ?_⟩) fun v s1 ⟨x, H1, I1, r1, a, ex, hl, q⟩ => ?_)
  · cases e1 : mo ρ h with
    | exc c h1 => rw [e1] at p; exact p
    | err => rw [e1] at p; exact p.elim
    | ok d h1 =>
      rw [e1] at p
      intro G1 H1 v1 l1 rh1 rd1
      simp only [Res.bind] at p
      split at p
      · have p : Post X.K T W σ G (match mS0 gLower d [] h1 with
          | some (d, h3) => .ok d h3
          | none => .err) Q := p
        cases rd1 with
        | str a =>
          have em : mS0 gLower (.str a) [] h1 = (gLower a).map fun d => (d, h1) := rfl
          by_cases hl : a.length ≤ 5592405
          · have eg : gLower a = some (.str (cp (Txt.lower (S a)))) := by unfold gLower; rw [if_pos (decide_eq_true hl)]
            rw [em, eg] at p
            exact ⟨a, rfl, hl, p G1 H1 _ l1 rh1 (rd_cp _)⟩
          · have eg : gLower a = none := by unfold gLower; rw [if_neg (by simpa using hl)]
            rw [em, eg] at p
            exact p.elim
        | _ => exact p.elim
      · exact p.elim
  · subst ex
    obtain ⟨t, rfl⟩ := r1
    refine ⟨"str", _, PySem.F.plainAttrs_str, PySem.F.slot_str_lower, PySem.F.type_str_lower, typeIs_str _ _ _, (fun _ e => nomatch e), Calls.callWith_builtin rfl (PySem.evalArgs_none ?_)⟩
    have e0 := S_len a
    exact PySem.SC.lower (PyProof.Rows.short24 (by have h1 := PyProof.Rows.len_lower (S a); omega)) ⟨Nat.le_add_left 1 _, .str (Txt.lower (S a)), H1, I1.tok _, ⟨_, rfl⟩, q⟩⟩
def eRepl (y z : List Nat) (m : Ev) : Ev := fun ρ h => (m ρ h).bind fun d h1 => match d with
  | .str a => if decide (a.length + (a.length + 1) * z.length ≤ 16777216) then .ok (.str (cp (Txt.replace (S a) (S y) (S z)))) h1 else .err
  | _ => .err
theorem dk_repl {y z : List Nat} {j k : Nat} {c0 c1 : Pos} (ho : DK X T W o mo) (hyz : (S y == S z) = false := by decide)
    (hst : starEach [.Constant (.str (S y)) j c0, .Constant (.str (S z)) k c1] X.env = [(false, eval (.Constant (.str (S y)) j c0) X.env), (false, eval (.Constant (.str (S z)) k c1) X.env)] := by rfl)
    (hbase : attributeBase o "replace" X.env (eval o X.env) = eval o X.env := by rfl) (hline : (apos.endLine == pos.line) = true := by rfl) :
    DK X T W (.Call (.Attribute o "replace" apos) [.Constant (.str (S y)) j c0, .Constant (.str (S z)) k c1] [] pos) (eRepl y z mo) := ⟨fun pins s σ H Q I ⟨G, ρ, h, re, rh, p⟩ => by
  unfold eRepl at p
  refine PySem.Call_method2 hbase hst hline (thn (ho.run pins s σ H (fun v H1 => ∃ a, v = .str (S a) ∧ a.length + (a.length + 1) * z.length ≤ 16777216 ∧ Q (.str (Txt.replace (S a) (S y) (S z))) H1) I ⟨G, ρ, h, re, rh, ?_⟩) fun v s1 ⟨h0, x, H1, I1, r1, a, ex, hb, q⟩ => ?_)
  · cases e1 : mo ρ h with
    | exc c h1 => rw [e1] at p; exact p
    | err => rw [e1] at p; exact p.elim
    | ok d h1 =>
      rw [e1] at p
      intro G1 H1 v1 l1 rh1 rd1
      cases rd1 with
      | str a =>
        have p : Post X.K T W σ G (if decide (a.length + (a.length + 1) * z.length ≤ 16777216) then .ok (.str (cp (Txt.replace (S a) (S y) (S z)))) h1 else .err) Q := p
        split at p
        · rename_i hl
          exact ⟨a, rfl, of_decide_eq_true hl, p G1 H1 _ l1 rh1 (rd_cp _)⟩
        · exact p.elim
      | _ => exact p.elim
  · subst ex
    obtain ⟨t, rfl⟩ := r1
    refine ⟨"str", _, PySem.F.plainAttrs_str, PySem.F.slot_str_replace, PySem.F.type_str_replace, typeIs_str _ _ _, (fun _ e => nomatch e), Calls.callWith_builtin rfl (Calls.evalArgs_plain (Calls.spliced_cons (Calls.Constant_str (Calls.spliced_cons (Calls.Constant_str (Calls.spliced_nil ?_))))))⟩
    refine wpAny_mono (PySem.wpAny_toks (E := X.xe) (PySem.SC.replace (Q := EP X pins σ Q) (by show s1.toks ≠ 0; omega) (by show s1.toks + 1 ≠ 0; omega) (by show s1.toks ≠ s1.toks + 1; omega) hyz (by rw [S_len, S_len]; exact hb) fun t' k => ⟨.str _, H1, I1.tok k, ⟨t', rfl⟩, q⟩)) (fun v s2 r => ⟨?_, r.2⟩) fun v s2 r => r.2
    have hk : s1.toks + 1 + 1 ≤ s2.toks := r.1
    omega⟩
end
/-! ### told(lambda: body) -/
/-- def x(a): try: return a() / except e: return ret -/
structure ToldF (K : PySem.W.Frag) (mg : Str → Option Value) (x a e : Str) (params : Arguments) (sg : Scope) (CS : Addr) (ret : List Nat) : Prop where
  ex : ∃ (g : Addr) (fd : FuncData) (j : Nat) (p1 p2 p3 p4 p5 p6 p7 p8 : Pos), mg x = some (.ref g) ∧ Binds K fd [a] [] ∧
    FunD K x x params [.Try [.Return (some (.Call (.Name a p1) [] [] p2)) p3] [.ExceptHandler (some (.Name e p4)) none [.Return (some (.Constant (.str (S ret)) j p5)) p6] p7] [] [] p8] sg [] [] g fd
  ge : sg.names.lookup e = some .globalImplicit
  me : mg e = some (.ref CS)
  de : (e == ("__debug__" : Str)) = false
  fs : FnScope [a] [a] sg
  va : Vis sg a
def eTold (cat : List Str) (ret : List Nat) (me : Ev) : Ev := fun ρ h => match me ρ h with
  | .ok d h' => .ok d h'
  | .exc c h' => if c ∈ cat then .ok (.str ret) h' else .err
  | .err => .err
section
variable {X : Cx} {T : Tb} {W : WX} {x a e : Str} {pg : Arguments} {sg : Scope} {CS c P : Addr} {ret : List Nat} {k : Nat} {params : Arguments} {body : Expr} {scope : Scope} {me : Ev} {cat : List Str} {p lpos pos : Pos}
theorem de_told (t : ToldF X.K X.mg x a e pg sg CS ret) (hcat : ∀ c ∈ cat, PySem.W.exmOne X.K (.ref (He.ga X.K c)) (.ref CS) = some true) (hg : Gl X x)
    (TB : LamX.TabB X.base X.mg c P) (hcode : X.env.code = .ref c) (hmT : (P, X.env.qual ++ "<lambda>") ∈ T) (hu : ∀ p ∈ T, p.1 = P → p.2 = X.env.qual ++ "<lambda>") (hr : Room (k + 2) X.A) (L : LamX.LamS X.env.scope scope) (hdef : defaultsOf params X.env = ([], []))
    (hbind : ∀ (q : Str) (cl : List (Str × Addr)) (pm cv ctv : Value), bindArgs (PySem.W.kla_fn "<lambda>" q params body scope cl pm cv ctv) ⟨[], []⟩ = pure [])
    (hbody : ∀ (A : Around) (outer : List Env) (s : Shared) (H : Hp) (E : XK) (f c' : Addr), Room k (A.deeper (LamX.lamEnv X scope s.heap.objs.size f c')) → DE (LamX.lamCx X A outer s H E scope f c') T (fun cls d _ H => E cls d H) body me)
    (hdb : (x == ("__debug__" : Str)) = false := by decide) (hd : (a == ("__debug__" : Str)) = false := by decide) (hcd : (a == ("__classdict__" : Str)) = false := by decide) :
    DE X T W (.Call (.Name x p) [.Lambda params body scope lpos] [] pos) (eTold cat ret me) := by
  obtain ⟨g, fd, j, p1, p2, p3, p4, p5, p6, p7, p8, hm, hb, F⟩ := t.ex
  obtain ⟨oc, od, dV, kV, doc, pm, an, cdv, ct, osl, rfl, lk, hcd', _, _⟩ := F.ex
  have G0 := LamX.told_gives (X := X) (Ng := [a]) (x := x) (a := a) (e := e) (q := X.env.qual ++ "<lambda>") (ret := S ret) (sg := sg) (g := g) (CS := CS) (cdg := cdv) (j := j) (p1 := p1) (p2 := p2) (p3 := p3) (p4 := p4) (p5 := p5) (p6 := p6) (p7 := p7) (p8 := p8) t.ge t.me t.de (fun f => rfl)
  refine ⟨PE.imp (LamX.pe_lamcall (Ng := [a]) (t := fun E => tE X.K T (fun cls d _ H => E cls d H) me) hg hm F.kp lk hcd' hb t.fs rfl t.va G0 TB hcode hmT hu hr L hdef hbind (fun A outer s H E f c' hr' => (hbody A outer s H E f c' hr').p) hdb hd hcd) fun σ H Q ⟨G, ρ, h, re, rh, p⟩ => ?_⟩
  refine ⟨rh.tabs, fun H1 eN tT => ?_⟩
  have rh1 := rh.code eN tT
  refine ⟨G.code H1, ρ, h, re.mono Gh.code_le, rh1, ?_⟩
  unfold eTold at p
  cases e1 : me ρ h with
  | ok d h' => rw [e1] at p; exact fun G' H' v l r rd => p G' H' v (Gh.code_le.trans l) r rd
  | exc c h' =>
    rw [e1] at p
    have p : Post X.K T W σ G (if c ∈ cat then .ok (.str ret) h' else .err) Q := p
    split at p
    · rename_i hm
      exact fun G' H' l r => ⟨true, hcat c hm, fun _ => p G' H' _ (Gh.code_le.trans l) r (.str ret), fun z => by cases z⟩
    · exact p.elim
  | err => rw [e1] at p; exact p
end
end Sh

set_option Elab.async false
set_option linter.all false
set_option maxRecDepth 100000
set_option maxHeartbeats 4000000
/-! Sh19: a def of the module, all at once. -/
namespace Sh
open PySem PySem.Spec PyProof.Rows L2

theorem hu1 {k : Nat} {A : Around} (r : Room k A) : A.units + 1 < cLine := by have := r.un; omega
theorem hu64 {k : Nat} {A : Around} (r : Room k A) : A.units + 64 < cLine := by have := r.un; omega
/-- the code object of the def nm, its table -/
abbrev cdA (K : PySem.W.Frag) (nm : Str) : Addr := He.codeOf K (nm, none)
abbrev tbA (K : PySem.W.Frag) (nm : Str) : Addr := He.tabOf K (He.codeOf K (nm, none))
section
variable {P : Program} {w : World} {K : PySem.W.Frag} {mg : Str → Option Value} {base : Heap} {T : Tb} {nm : Str} {params : Arguments} {body : List Stmt} {scope : Scope} {dvs : List V} {N ps : List Str} {k : Nat} {m : Sv}
abbrev dCx (P : Program) (w : World) (K : PySem.W.Frag) (mg : Str → Option Value) (base : Heap) (N : List Str) (nm : Str) (scope : Scope) (A : Around) (outer : List Env) (s : Shared) (H : Hp) (E : XK) : Cx :=
  cxOf (L2.CX P w) P w K mg base N nm scope (He.ga K nm) (.ref (cdA K nm)) A outer s H E
/-- its body, whatever calls it -/
def Body (P : Program) (w : World) (K : PySem.W.Frag) (mg : Str → Option Value) (base : Heap) (T : Tb) (N : List Str) (nm : Str) (scope : Scope) (k : Nat) (body : List Stmt) (m : Sv) : Prop :=
  ∀ (A : Around) (outer : List Env) (s : Shared) (H : Hp) (E : XK), Room k (dCx P w K mg base N nm scope A outer s H E).A → DB (dCx P w K mg base N nm scope A outer s H E) T (fun cls d _ H => E cls d H) body m
theorem fn_okC {fd : FuncData} (F : FunD K nm nm params body scope dvs [] (He.ga K nm) fd) (S : FnScope N ps scope) (hb : Body P w K mg base T N nm scope k body m) :
    FnOk P w K mg base (L2.CX P w) (k + 1) (He.ga K nm) fd ps (spD K T ps.length (fn N.length m)) := by
  obtain ⟨oc, od, dV, kV, doc, pm, an, cdv, ct, osl, rfl, lk, hcd, _, _⟩ := F.ex
  obtain ⟨c, rfl⟩ := He.codeIn_ref hcd
  have ec : cdA K nm = c := He.codeOf_eq (p := (nm, none)) lk rfl
  subst ec
  refine fn_of lk hcd S (fun vs H Q E h => h.1) (fun A outer s H vs Q E hr h => ?_)
  obtain ⟨hl, G, h, ds, rh, rd, p⟩ := h
  refine ⟨_, (hb A outer s H E hr).p, G, ds.map some ++ List.replicate (N.length - ds.length) none, h, ⟨?_, fun i d e => ?_⟩, rh, ?_⟩
  · unfold L2.start
    rw [List.length_append, List.length_append, List.length_map, List.length_map, List.length_replicate, List.length_replicate, rd.length]
  · have hi : i < ds.length := by
      by_cases hi : i < ds.length
      · exact hi
      · rw [List.getElem?_append_right (by simpa using hi), List.getElem?_replicate] at e
        split at e <;> cases e
    rw [List.getElem?_append_left (by simpa using hi), List.getElem?_map] at e
    cases e1 : ds[i]? with
    | none => rw [e1] at e; cases e
    | some d' =>
      rw [e1] at e; cases e
      obtain ⟨v, h1, h2⟩ := rd.get e1
      refine ⟨v, ?_, h2⟩
      unfold L2.start
      rw [List.getElem?_append_left (by rw [List.length_map, ← rd.length]; exact hi), List.getElem?_map, h1]; rfl
  · unfold fn at p
    cases e : m (ds.map some ++ List.replicate (N.length - ds.length) none) h with
    | nx ρ' h' => rw [e] at p; exact fun G1 H1 σ1 l1 re1 rh1 => p G1 H1 _ l1 rh1 .non
    | rt d h' => rw [e] at p; exact p
    | bk ρ' h' => rw [e] at p; exact p.elim
    | ct ρ' h' => rw [e] at p; exact p.elim
    | ex c ρ' h' => rw [e] at p; exact fun G1 H1 σ1 l1 re1 rh1 => p G1 H1 l1 rh1
    | er => rw [e] at p; exact p.elim
/-- called with all its parameters -/
def cAll (n : Nat) (f : Fv) : Fv := fun ds h => if ds.length = n then f ds h else .err
theorem cal_all (hF : ∃ fd, FunD K nm nm params body scope [] [] (He.ga K nm) fd) (hm : mg nm = some (.ref (He.ga K nm))) (S : FnScope N ps scope)
    (hbd : ∀ (kV doc pm : Value) (an : Option Addr) (cdv ct : Value) (us : List Value), us.length = ps.length → bindArgs (PySem.W.fnOf nm nm params body scope .none kV doc pm an cdv ct) ⟨us, []⟩ = pure (ps.zip us))
    (hb : Body P w K mg base T N nm scope k body m) : Cal P w K mg base T (k + 1) nm (cAll ps.length (fn N.length m)) := by
  obtain ⟨fd, F⟩ := hF
  exact cal_of hm F.kp (fn_okC F S hb) (F.bindsN hbd)
/-- .. some of them by their defaults -/
def cDfl (n : Nat) (dds : List D) (f : Fv) : Fv := fun ds h => if ds.length + dds.length = n then f (ds ++ dds) h else .err
theorem cal_dfl1 (n j : Nat) {dds : List D} (hF : ∃ fd, FunD K nm nm params body scope dvs [] (He.ga K nm) fd) (hm : mg nm = some (.ref (He.ga K nm))) (S : FnScope N ps scope) (hd : dvs ≠ []) (hn : n + (dvs.length - j) = ps.length)
    (hbd : ∀ (T : Addr) (kV doc pm : Value) (an : Option Addr) (cdv ct : Value) (us its : List Value), us.length = n → its.length = dvs.length →
      ∃ k, bindArgs (PySem.W.fnOf nm nm params body scope (.ref T) kV doc pm an cdv ct) ⟨us, []⟩ = seqItems? (.ref T) >>= k ∧ k (some its.toArray) = pure (ps.zip (us ++ its.drop j)))
    (hr : ∀ G, RDs K G dds (dvs.drop j)) (hb : Body P w K mg base T N nm scope k body m) : Cal P w K mg base T (k + 1) nm (cDfl ps.length dds (fn N.length m)) := by
  obtain ⟨fd, F⟩ := hF
  exact cal_dfl hm F.kp (fn_okC F S hb) (F.binds1 n j hd hn hbd) hr
/-- an exception's class -/
structure ExnF (K : PySem.W.Frag) (mg : Str → Option Value) (c : Str) : Prop where
  g : mg c = some (.ref (He.ga K c))
  x : PySem.W.excIn K (He.ga K c) He.veBase "ValueError.__new__" = true
  k : PySem.W.keepIn K (.ref (He.ga K c)) = true
  b : PySem.W.subIn K (.ref (He.ga K c)) (.type "BaseException") = some true
  t : PySem.W.typeIn K (.ref (He.ga K c)) = some (.type "type")
theorem ExnF.at {X : Cx} {c : Str} (e : ExnF X.K X.mg c) : Exn X c := ⟨e.g, e.x, e.k, e.b, e.t⟩
end
end Sh

set_option Elab.async false
set_option linter.all false
set_option maxRecDepth 100000
set_option maxHeartbeats 4000000
/-! Sh20: short forms for printed derivations. -/
namespace Sh
open PySem PySem.Spec PyProof.Rows L2
section
variable {X : Cx} {T : Tb} {W : WX} {pos pos' : Pos} {x y z : Str}
theorem dv (i : Nat) (hN : X.N[i]? = some x := by rfl) (hv : Vis X.env.scope x := by first | exact .inl rfl | exact .inr (.inl rfl) | exact .inr (.inr rfl)) (hd : (x == ("__debug__" : Str)) = false := by decide) (hcd : (x == ("__classdict__" : Str)) = false := by decide) : DE X T W (.Name x pos) (eVar i) := de_var hN hv hd hcd
theorem gnm (i : Nat) (hN : X.N.Nodup) (hi : X.N[i]? = some x := by rfl) (hx : Loc X.env.scope x := by first | exact .inl rfl | exact .inr rfl) (hf : X.fn x = true ∨ X.env.scope.names.lookup x = some .local := by first | exact .inl rfl | exact .inr rfl) : DG X T (.Name x pos) (gNm i) := dg_name hN hi hx hf
theorem xnm {vs : List Nat} (i : Nat) (hN : X.N.Nodup) (hi : X.N[i]? = some x := by rfl) (hx : Loc X.env.scope x := by first | exact .inl rfl | exact .inr rfl) (hf : X.fn x = true ∨ X.env.scope.names.lookup x = some .local := by first | exact .inl rfl | exact .inr rfl) (hv : i ∈ vs := by decide) : DX X T vs (.Name x pos) (gNm i) := dx_name hN hi hx hv hf
theorem sst {e : Expr} {me : Ev} (i : Nat) (hN : X.N.Nodup) (he : DE X T W e me) (hi : X.N[i]? = some x := by rfl) (hx : Loc X.env.scope x := by first | exact .inl rfl | exact .inr rfl) (hs : swapsWith e (some (.Name x pos')) pos.line X.env = pure false := by rfl) (hf : X.fn x = true ∨ X.env.scope.names.lookup x = some .local := by first | exact .inl rfl | exact .inr rfl) : DS X T W (.Assign [.Name x pos'] e pos) (sAsg me (gNm i)) := ds_set hN hi hx he hs hf
theorem sau {e : Expr} {me : Ev} {op : Operator} {f : D → D → Option D} (i : Nat) (hN : X.N.Nodup) (he : DE X T W e me) (ho : OpD X T (inplaceOp op) f) (hi : X.N[i]? = some x := by rfl) (hx : Loc X.env.scope x := by first | exact .inl rfl | exact .inr rfl) (hf : X.fn x = true ∨ X.env.scope.names.lookup x = some .local := by first | exact .inl rfl | exact .inr rfl) : DS X T W (.AugAssign (.Name x pos') op e pos) (sAug f i me) := ds_aug hN hi hx he ho hf
theorem spar {a b : Expr} {ma : Av} {px py pt : Pos} {kt k2 pt2} (i j : Nat) (hc : X.calm = true) (hN : X.N.Nodup) (ha : DA X T W [a, b] ma) (hi : X.N[i]? = some x := by rfl) (hj : X.N[j]? = some y := by rfl) (hij : i ≠ j := by decide)
    (hx : X.env.scope.names.lookup x = some .local := by rfl) (hy : X.env.scope.names.lookup y = some .local := by rfl)
    (hw : swappedStores [.Tuple [.Name x px, .Name y py] kt pt] (.Tuple [a, b] k2 pt2) X.env = pure (some [x, y]) := by rfl)
    (hs : swapsWithSole [.Tuple [.Name x px, .Name y py] kt pt] (.Tuple [a, b] k2 pt2) pos.line X.env = pure false := by rfl) :
    DS X T W (.Assign [.Tuple [.Name x px, .Name y py] kt pt] (.Tuple [a, b] k2 pt2) pos) (sPar i j ma) := ds_par hc hN hi hj hij hx hy ha hw hs
def sPar3 (i j l : Nat) (ma : Av) : Sv := fun ρ h => (ma ρ h).st ρ fun ds h1 => match ds with
  | [x, y, z] => .nx (((ρ.set i (some x)).set j (some y)).set l (some z)) h1
  | _ => .er
theorem spar3 {a b c : Expr} {ma : Av} {px py pz pt : Pos} {kt k2 pt2} (i j l : Nat) (hc : X.calm = true) (hN : X.N.Nodup) (ha : DA X T W [a, b, c] ma) (hi : X.N[i]? = some x := by rfl) (hj : X.N[j]? = some y := by rfl) (hl : X.N[l]? = some z := by rfl) (hij : i ≠ j := by decide) (hil : i ≠ l := by decide) (hjl : j ≠ l := by decide)
    (hx : X.env.scope.names.lookup x = some .local := by rfl) (hy : X.env.scope.names.lookup y = some .local := by rfl) (hz : X.env.scope.names.lookup z = some .local := by rfl)
    (hw : swappedStores [.Tuple [.Name x px, .Name y py, .Name z pz] kt pt] (.Tuple [a, b, c] k2 pt2) X.env = pure (some [x, y, z]) := by rfl)
    (hs : swapsWithSole [.Tuple [.Name x px, .Name y py, .Name z pz] kt pt] (.Tuple [a, b, c] k2 pt2) pos.line X.env = pure false := by rfl) :
    DS X T W (.Assign [.Tuple [.Name x px, .Name y py, .Name z pz] kt pt] (.Tuple [a, b, c] k2 pt2) pos) (sPar3 i j l ma) := ⟨PS.imp (ps_par3 hc hN hi hj hl hij hil hjl hx hy hz ha.p hw hs) fun E σ H ⟨G, ρ, h, re, rh, p⟩ => by
  refine ⟨G, ρ, h, re, rh, ?_⟩
  unfold sPar3 at p
  cases e1 : ma ρ h with
  | ok ds h1 =>
    rw [e1] at p
    intro G1 H1 v l1 r1 d1
    cases d1 with
    | nil => exact p.elim
    | cons q t => cases t with
      | nil => exact p.elim
      | cons q2 t2 => cases t2 with
        | nil => exact p.elim
        | cons q3 t3 => cases t3 with
          | nil => exact ⟨_, _, _, rfl, p G1 H1 _ l1 ((((re.mono l1).set i q).set j q2).set l q3) r1⟩
          | cons _ _ => exact p.elim
  | exc c h1 => rw [e1] at p; exact fun G1 H1 l1 r1 => p G1 H1 σ l1 (re.mono l1) r1
  | err => rw [e1] at p; exact p⟩
theorem slc {elt tg iter : Expr} {ifs : List Expr} {scope : Scope} {own : List (Str × Nat)} {mi : Iv} {g : Gv} {mt : Bv} {me : Ev} {py spos : Pos} (i : Nat) (hc : X.calm = true) (hN : X.N.Nodup) (ok : BlkOk X.N X.env.scope scope own) (hi : DI X T W tg iter mi)
    (b : Blk X T scope (own.map (·.2)) tg ifs elt g mt me) (hy : X.N[i]? = some y := by rfl) (hyl : X.env.scope.names.lookup y = some .local := by rfl)
    (hsw : swapsWith (.ListComp elt [⟨tg, iter, ifs, 0⟩] scope pos) (some (.Name y py)) spos.line X.env = pure true := by rfl) (hs : ∀ x, foldedSetIterable iter X.env x = pure x := by intro _; rfl) :
    DS X T W (.Assign [.Name y py] (.ListComp elt [⟨tg, iter, ifs, 0⟩] scope pos) spos) (sAsg (eLc mi (own.map (·.2)) g mt me) (gNm i)) := ds_setLc hc hN hy hyl hsw hi ok b hs
end
theorem Cal.of {P : Program} {w : World} {K : PySem.W.Frag} {mg : Str → Option Value} {base : Heap} {T : Tb} {k : Nat} {x : Str} {f g : Fv} (c : Cal P w K mg base T k x f) (e : ∀ ds h, g ds h = f ds h) : Cal P w K mg base T k x g := by
  have q : g = f := by funext ds h; exact e ds h
  rw [q]; exact c
end Sh

set_option Elab.async false
set_option linter.all false
set_option maxRecDepth 100000
set_option maxHeartbeats 4000000
/-! Sh21: lambdas that are kept: their objects stand in the abstract heap. -/
namespace Sh
open PySem PySem.Spec PyProof.Rows L2

/-- the object at f is ob, for good -/
def LamO (f : Addr) (ob : Obj) : HO := .ext fun h => h.get? f = some ob
theorem lamO_ne {f : Addr} {ob : Obj} (ps : Array Value) : LamO f ob ≠ .tbl ps := fun z => by unfold LamO at z; cases z
theorem lamO_ok {P : Program} {w : World} {H : Hp} {h : Heap} {f : Addr} {ob : Obj} (e : h.get? f = some ob) : ObjOk P w H h f (LamO f ob) := ⟨e, ⟨ob, e⟩, fun _ _ a b => b _ a⟩
theorem lamO_get {P : Program} {w : World} {H : Hp} {h : Heap} {f : Addr} {ob : Obj} (k : HOk P w H h) (e : H f = some (LamO f ob)) : h.get? f = some ob := by
  have z := k f _ e
  unfold LamO at z
  exact z.1
abbrev lamOb (X : Cx) (params : Arguments) (body : Expr) (scope : Scope) (pm : Value) (c' : Addr) (ctv : Value) : Obj :=
  PySem.W.kla_obj "<lambda>" (X.env.qual ++ "<lambda>") params body scope (cloFrom X.env.cells scope.names []) pm c' ctv
section
variable {X : Cx} {pins : List (Addr × Obj)} {σ : L2.St} {H : Hp} {s : Shared}
/-- a lambda is made and tracked -/
theorem lam_mk {T : Tb} {c P : Addr} {params : Arguments} {body : Expr} {scope : Scope} {pos : Pos} {E Q : Value → Shared → Prop} (J : Inv X pins σ H s) (B : LamX.TabB X.base X.mg c P) (hco : X.env.code = .ref c)
    (hin : (P, X.env.qual ++ "<lambda>") ∈ T) (uq : ∀ p ∈ T, p.1 = P → p.2 = X.env.qual ++ "<lambda>") (tT : LamX.Tabs T H) (dn : defaultsOf params X.env = ([], [])) (fr : ∀ y ∈ scope.names, y.2 = .free → ∃ c, X.env.cells.lookup y.1 = some c)
    (done : ∀ (f c' : Addr) (pm ctv : Value) (Ha : Hp) (z : Shared), LamX.ExtN H Ha → LamX.Tabs T Ha → Ha f = none → (H c' = none ∨ ∃ q ps, H P = some (.tbl ps) ∧ codeAmong q ps.toList = some (.ref c')) → Ha c' = some (LamX.CodeO c' (X.env.qual ++ "<lambda>")) →
      Inv X pins σ (upd Ha f (LamO f (lamOb X params body scope pm c' ctv))) z → Q (.ref f) z) :
    wpAny (model X.prog X.w) X.A (eval (.Lambda params body scope pos) X.env) Q E s := by
  obtain ⟨ps, tP, tk3, tin⟩ := tT _ hin
  refine PySem.W.kla_eval dn ?_
  have bt : s.heap.BuiltinsAt X.mg P := B.bm.keeps J.bk
  have gP : s.heap.get? P = some { cls := .none, data := .fields ps } := J.hok P _ tP
  cases am : codeAmong pos ps.toList with
  | none =>
    refine PySem.W.kla_makeFunction (mg := X.mg) (ps := ps) (c := c) (P := P) (closure_ok fr) J.ok.glob (J.mod.glob.keeps J.bk) hco (B.code.keeps J.bk) gP tk3 am B.gP bt fun c' ctv g tk eb ge lt rc gt => ?_
    obtain ⟨c2, oc, vs, t, e2, oc1, oc2, oc3⟩ := rc
    cases e2
    have le1 : s.heap.objs.size ≤ g.objs.size := Nat.le_trans ge (Nat.le_of_lt lt)
    have nn : H c' = none := J.hok.fresh ge
    have J1 := LamX.inv_table (t' := tk) (more := #[rawInt pos.line, rawInt pos.col, .ref c']) (h' := g) J tP (fun b o ne e => eb b o ne e) gt ge ⟨oc, vs, t, oc1, oc2, oc3⟩
    have hE : LamX.ExtN H (upd (upd H P (.tbl (ps ++ #[rawInt pos.line, rawInt pos.col, .ref c']))) c' (LamX.CodeO c' (X.env.qual ++ "<lambda>"))) := by
      intro b o e n
      have n1 : b ≠ c' := ne_of_none e nn
      have n2 : b ≠ P := fun z => n ps (Option.some.inj (e.symm.trans (by rw [z]; exact tP)))
      rw [upd_ne n1, upd_ne n2]; exact e
    have eL : (ps ++ #[rawInt pos.line, rawInt pos.col, .ref c']).toList = ps.toList ++ [rawInt pos.line, rawInt pos.col, .ref c'] := by simp
    have nf := J1.hok.fresh (Nat.le_refl g.objs.size)
    refine done g.objs.size c' ((X.mg "__name__").getD .none) ctv _ _ hE ?_ nf (.inl nn) upd_same (J1.laid (t' := tk) (h' := g.push (lamOb X params body scope ((X.mg "__name__").getD .none) c' ctv)) (fun b o e => Heap.get?_push_of_some _ e) (Nat.le_refl _) (lamO_ok (Heap.get?_push_size _ rfl)))
    intro p hp
    by_cases hb : p.1 = P
    · rw [uq p hp hb, hb]
      refine ⟨_, by rw [upd_ne (ne_of_none tP nn), upd_same], by rw [eL]; exact PySem.TriplesOk_snoc _ _ _ _ tk3, fun p' cv hc => ?_⟩
      rw [eL] at hc
      rcases LamX.among_app _ tk3 hc with z | z
      · obtain ⟨c0, e1, e2⟩ := tin p' cv z
        exact ⟨c0, e1, hE _ _ e2 LamX.codeO_ne⟩
      · exact ⟨c', z, upd_same⟩
    · obtain ⟨ps', a1, a2, a3⟩ := tT p hp
      refine ⟨ps', by rw [upd_ne (ne_of_none a1 nn), upd_ne hb]; exact a1, a2, fun p' cv hc => ?_⟩
      obtain ⟨c0, e1, e2⟩ := a3 p' cv hc
      exact ⟨c0, e1, hE _ _ e2 LamX.codeO_ne⟩
  | some cv =>
    obtain ⟨c', e, co⟩ := tin pos cv am
    subst e
    refine PySem.W.kla_makeFunctionHit (mg := X.mg) (ps := ps) (c := c) (P := P) (closure_ok fr) J.ok.glob (J.mod.glob.keeps J.bk) hco (B.code.keeps J.bk) gP tk3 am bt fun ctv g tk kx le => ?_
    have J1 : Inv X pins σ H { s with heap := g, toks := tk } := J.kept kx
    have nf := J1.hok.fresh (Nat.le_refl g.objs.size)
    exact done g.objs.size c' ((X.mg "__name__").getD .none) ctv H _ (LamX.ExtN.refl H) tT nf (.inr ⟨pos, ps, tP, am⟩) co (J1.laid (t' := tk) (h' := g.push (lamOb X params body scope ((X.mg "__name__").getD .none) c' ctv)) (fun b o e => Heap.get?_push_of_some _ e) (Nat.le_refl _) (lamO_ok (Heap.get?_push_size _ rfl)))
end
/-! ### what is known of a lambda that is kept -/
/-- a lambda's text and its mirror -/
structure LamD (X : Cx) (T : Tb) (k : Nat) (params : Arguments) (body : Expr) (scope : Scope) (me : Ev) : Prop where
  L : LamX.LamS X.env.scope scope
  dn : defaultsOf params X.env = ([], [])
  bind : ∀ (q : Str) (cl : List (Str × Addr)) (pm cv ctv : Value), bindArgs (PySem.W.kla_fn "<lambda>" q params body scope cl pm cv ctv) ⟨[], []⟩ = pure []
  body : ∀ (A : Around) (outer : List Env) (s : Shared) (H : Hp) (E : XK) (f c' : Addr), Room k (A.deeper (LamX.lamEnv X scope s.heap.objs.size f c')) → DE (LamX.lamCx X A outer s H E scope f c') T (fun cls d _ H => E cls d H) body me
/-- at f stands such a one -/
def LamAt (X : Cx) (T : Tb) (k : Nat) (G : Gh) (f : Addr) (me : Ev) : Prop := ∃ params body scope c' pm ctv, LamD X T k params body scope me ∧ G.F f = some (LamO f (lamOb X params body scope pm c' ctv)) ∧ G.F c' = some (LamX.CodeO c' (X.env.qual ++ "<lambda>"))
theorem LamAt.mono {X : Cx} {T : Tb} {k : Nat} {G G' : Gh} {f : Addr} {me : Ev} (h : LamAt X T k G f me) (l : G.lw G') : LamAt X T k G' f me := by
  obtain ⟨a, b, c, d, e, g, h1, h2, h3⟩ := h
  exact ⟨a, b, c, d, e, g, h1, l.F _ _ h2, l.F _ _ h3⟩
inductive LamsAt (X : Cx) (T : Tb) (k : Nat) (G : Gh) : List Addr → List Ev → Prop where
  | nil : LamsAt X T k G [] []
  | cons {f fs me mes} : LamAt X T k G f me → LamsAt X T k G fs mes → LamsAt X T k G (f :: fs) (me :: mes)
theorem LamsAt.mono {X : Cx} {T : Tb} {k : Nat} {G G' : Gh} {fs : List Addr} {mes : List Ev} (h : LamsAt X T k G fs mes) (l : G.lw G') : LamsAt X T k G' fs mes := by
  induction h with
  | nil => exact .nil
  | cons a _ ih => exact .cons (a.mono l) ih
theorem LamsAt.append {X : Cx} {T : Tb} {k : Nat} {G : Gh} {fs gs : List Addr} {mes nes : List Ev} (h : LamsAt X T k G fs mes) (h2 : LamsAt X T k G gs nes) : LamsAt X T k G (fs ++ gs) (mes ++ nes) := by
  induction h with
  | nil => exact h2
  | cons a _ ih => exact .cons a ih
theorem LamsAt.length {X : Cx} {T : Tb} {k : Nat} {G : Gh} {fs : List Addr} {mes : List Ev} (h : LamsAt X T k G fs mes) : fs.length = mes.length := by
  induction h with
  | nil => rfl
  | cons _ _ ih => simp [ih]
section
variable {X : Cx} {T : Tb} {k : Nat} {c P : Addr} {params : Arguments} {body : Expr} {scope : Scope} {pos : Pos} {me : Ev}
/-- the making, told of ghosts -/
def tLam1 (X : Cx) (T : Tb) (k : Nat) (me : Ev) : TE := fun _ H Q => ∃ G h, RH X.K T G h H ∧ ∀ G' H' f, G.le G' → RH X.K T G' h H' → LamAt X T k G' f me → Q (.ref f) H'
theorem pe_lam1 (B : LamX.TabB X.base X.mg c P) (hco : X.env.code = .ref c) (hin : (P, X.env.qual ++ "<lambda>") ∈ T) (uq : ∀ p ∈ T, p.1 = P → p.2 = X.env.qual ++ "<lambda>") (D : LamD X T k params body scope me) :
    PE X (.Lambda params body scope pos) (tLam1 X T k me) := by
  refine ⟨fun pins s σ H Q I ⟨G, h, rh, q⟩ => lam_mk I B hco hin uq rh.tabs D.dn (D.L.has I.ok) fun f c' pm ctv Ha z eN tT nf hc' hco' J => ?_⟩
  have rh1 := rh.code eN tT
  have rh2 := rh1.new nf (LamO f (lamOb X params body scope pm c' ctv)) lamO_ne
  have l2 : (G.code Ha).le ((G.code Ha).put f (LamO f (lamOb X params body scope pm c' ctv))) := Gh.put_le (rh1.notF nf)
  have hF : (G.code Ha).F c' = some (LamX.CodeO c' (X.env.qual ++ "<lambda>")) := by
    rcases hc' with n | ⟨q, ps, e1, e2⟩
    · show (match G.F c' with
        | some o => some o
        | none => open Classical in if (∃ q, Ha c' = some (LamX.CodeO c' q)) ∧ c' ∉ G.α ∧ G.E c' = none then Ha c' else none) = _
      rw [rh.notF n]
      simp only
      rw [if_pos ⟨⟨_, hco'⟩, rh.notα n, rh.notE n⟩]
      exact hco'
    · obtain ⟨⟨ps', e1', _, e3⟩, _⟩ := rh.tab _ hin
      rw [e1] at e1'
      cases e1'
      obtain ⟨c2, e4, e5⟩ := e3 q _ e2
      cases e4
      exact Gh.code_le.F _ _ e5
  refine ⟨.ref f, _, J, rfl, q _ _ f (Gh.code_le.trans l2) rh2 ⟨params, body, scope, c', pm, ctv, D, upd_same, l2.F _ _ hF⟩⟩
/-- a run of them -/
def tLams (X : Cx) (T : Tb) (k : Nat) (mes : List Ev) : TA := fun _ H Q => ∃ G h, RH X.K T G h H ∧ ∀ G' H' fs, G.le G' → RH X.K T G' h H' → LamsAt X T k G' fs mes → Q (fs.map V.ref) H'
theorem pa_lam0 : PA X [] (tLams X T k []) := ⟨fun pos pins s σ H Q I ⟨G, h, rh, q⟩ => pa_nil.run pos pins s σ H Q I (q G H [] (.refl G) rh .nil)⟩
theorem pa_lamc {e : Expr} {es : List Expr} {mes : List Ev} (h1 : PE X e (tLam1 X T k me)) (h2 : PA X es (tLams X T k mes)) (hs : starEach (e :: es) X.env = (false, eval e X.env) :: starEach es X.env := by rfl) : PA X (e :: es) (tLams X T k (me :: mes)) :=
  ⟨fun pos pins s σ H Q I ⟨G, h, rh, q⟩ => (pa_cons h1 h2 hs).run pos pins s σ H Q I ⟨G, h, rh, fun G1 H1 f l1 r1 a1 => ⟨G1, h, r1, fun G2 H2 fs l2 r2 a2 => q G2 H2 (f :: fs) (l1.trans l2) r2 (.cons (a1.mono l2.w) a2)⟩⟩⟩
end
end Sh

set_option Elab.async false
set_option linter.all false
set_option maxRecDepth 100000
set_option maxHeartbeats 4000000
/-! Sh22: a list of lambdas, made bit by bit, in a name. -/
namespace Sh
open PySem PySem.Spec PyProof.Rows L2

/-- the name i tells a list of these lambdas -/
def Bad (X : Cx) (T : Tb) (k : Nat) (G : Gh) (σ : L2.St) (i : Nat) (mes : List Ev) : Prop := ∃ D fs, σ[i]? = some (some (.ref D)) ∧ G.F D = some (.lst (fs.map V.ref)) ∧ LamsAt X T k G fs mes
theorem Bad.mono {X : Cx} {T : Tb} {k : Nat} {G G' : Gh} {σ : L2.St} {i : Nat} {mes : List Ev} (h : Bad X T k G σ i mes) (l : G.lw G') : Bad X T k G' σ i mes := by
  obtain ⟨D, fs, h1, h2, h3⟩ := h
  exact ⟨D, fs, h1, l.F _ _ h2, h3.mono l⟩
/-- such a name, for the mirror, holds nothing -/
def sForget (i : Nat) : Sv := fun ρ h => if i < ρ.length then .nx (ρ.set i none) h else .er
theorem RE.forget {K : PySem.W.Frag} {G : Gh} {ρ : En} {σ : L2.St} (re : RE K G ρ σ) (i : Nat) (v : Option V) : RE K G (ρ.set i Option.none) (σ.set i v) := by
  refine ⟨by rw [List.length_set, List.length_set]; exact re.len, fun j d e => ?_⟩
  by_cases hj : j = i
  · subst hj
    rw [List.getElem?_set] at e
    simp only [if_true] at e
    split at e <;> cases e
  · rw [List.getElem?_set_ne (Ne.symm hj)] at e
    rw [List.getElem?_set_ne (Ne.symm hj)]
    exact re.get j d e
def tLB (X : Cx) (T : Tb) (W : WX) (k i : Nat) (mes : List Ev) (m : Sv) : TS := fun E σ H => ∃ G ρ h, RE X.K G ρ σ ∧ RH X.K T G h H ∧ ρ[i]? = some none ∧ Bad X T k G σ i mes ∧ PostS X.K T W G (m ρ h) E
/-- a body behind such a list -/
structure LB (X : Cx) (T : Tb) (W : WX) (k i : Nat) (mes : List Ev) (st : List Stmt) (m : Sv) : Prop where
  p : PSs X st (tLB X T W k i mes m)
/-- lambdas written one behind another -/
structure DLs (X : Cx) (T : Tb) (k : Nat) (es : List Expr) (mes : List Ev) : Prop where
  p : PA X es (tLams X T k mes)
section
variable {X : Cx} {T : Tb} {W : WX} {k i : Nat} {pos pos' p1 : Pos} {x : Str} {es : List Expr} {mes nes : List Ev} {rest : List Stmt} {m : Sv} {c P : Addr} {params : Arguments} {body : Expr} {scope : Scope} {me : Ev}
theorem dls_nil : DLs X T k [] [] := ⟨pa_lam0⟩
theorem dls_cons (B : LamX.TabB X.base X.mg c P) (hco : X.env.code = .ref c) (hin : (P, X.env.qual ++ "<lambda>") ∈ T) (uq : ∀ p ∈ T, p.1 = P → p.2 = X.env.qual ++ "<lambda>") (D : LamD X T k params body scope me) (h2 : DLs X T k es mes)
    (hs : starEach (.Lambda params body scope pos :: es) X.env = (false, eval (.Lambda params body scope pos) X.env) :: starEach es X.env := by rfl) : DLs X T k (.Lambda params body scope pos :: es) (me :: mes) := ⟨pa_lamc (pe_lam1 B hco hin uq D) h2.p hs⟩
/-- the list itself -/
def tLamL (X : Cx) (T : Tb) (k : Nat) (mes : List Ev) : TE := fun _ H Q => ∃ G h, RH X.K T G h H ∧ ∀ G' H' D fs, G.le G' → RH X.K T G' h H' → G'.F D = some (.lst (fs.map V.ref)) → LamsAt X T k G' fs mes → Q (.ref D) H'
theorem pe_lamL (h : DLs X T k es mes) (hl : mes.length ≤ 1000) : PE X (.List es pos) (tLamL X T k mes) := PE.imp (pe_lst h.p) fun σ H Q ⟨G, hh, rh, q⟩ => by
  refine ⟨G, hh, rh, fun G1 H1 fs l1 r1 a1 => ⟨by rw [List.length_map, a1.length, sizeLine_eq]; omega, fun p hp => ?_⟩⟩
  have l := Gh.put_le (o := .lst (fs.map V.ref)) (r1.notF hp)
  exact q _ _ p fs (l1.trans l) (r1.new hp _) (by show upd G1.F p _ p = _; rw [upd_same]) (a1.mono l.w)
/-- the name is set -/
theorem lb_set {e : Expr} {te : TE} (hN : X.N.Nodup) (hi : X.N[i]? = some x) (hx : Loc X.env.scope x) (he : PE X e te) (hrest : LB X T W k i mes rest m) (hs : swapsWith e (some (.Name x pos')) pos.line X.env = pure false) (hf : X.fn x = true ∨ X.env.scope.names.lookup x = some .local)
    {t : TS} (hq : ∀ E σ H, t E σ H → te σ H fun v H1 => tLB X T W k i mes m E (σ.set i (some v)) H1) : PSs X (.Assign [.Name x pos'] e pos :: rest) t :=
  PSs.imp (pss_cons (ps_set hN hi hx he hs hf) hrest.p) fun E σ H q => hq E σ H q
/-- bad = [lambda: .., ..] -/
theorem lb_start (i : Nat) (hN : X.N.Nodup) (hl : decide (mes.length ≤ 1000) = true) (h : DLs X T k es mes) (hrest : LB X T W k i mes rest m) (hi : X.N[i]? = some x := by rfl) (hx : Loc X.env.scope x := by first | exact .inl rfl | exact .inr rfl) (hs : swapsWith (.List es p1) (some (.Name x pos')) pos.line X.env = pure false := by rfl)
    (hf : X.fn x = true ∨ X.env.scope.names.lookup x = some .local := by first | exact .inl rfl | exact .inr rfl) : DB X T W (.Assign [.Name x pos'] (.List es p1) pos :: rest) (sSeq (sForget i) m) :=
  ⟨lb_set hN hi hx (pe_lamL h (of_decide_eq_true hl)) hrest hs hf fun E σ H ⟨G, ρ, hh, re, rh, p⟩ => ⟨G, hh, rh, fun G1 H1 D fs l1 r1 e1 a1 => by
    have p : PostS X.K T W G ((sForget i ρ hh).then m) E := p
    unfold sForget at p
    split at p
    · rename_i hlen
      have p : PostS X.K T W G (m (ρ.set i none) hh) E := p
      have e2 : (σ.set i (some (.ref D)))[i]? = some (some (V.ref D)) := by rw [List.getElem?_set]; simp only [if_true]; rw [if_pos (by rw [← re.len]; exact hlen)]
      refine ⟨G1, ρ.set i none, hh, (re.mono l1).forget i _, r1, ?_, ⟨D, fs, e2, e1, a1⟩, PostS.mono p l1⟩
      rw [List.getElem?_set]; simp only [if_true]; rw [if_pos hlen]
    · exact p.elim⟩⟩
/-- bad = bad + [lambda: .., ..] -/
theorem lb_more {px pb : Pos} (hN : X.N.Nodup) (hl : decide (mes.length + nes.length ≤ 1000) = true) (h : DLs X T k es nes) (hrest : LB X T W k i (mes ++ nes) rest m) (hi : X.N[i]? = some x := by rfl) (hv : Vis X.env.scope x := by first | exact .inl rfl | exact .inr (.inl rfl) | exact .inr (.inr rfl)) (hx : Loc X.env.scope x := by first | exact .inl rfl | exact .inr rfl)
    (hs : swapsWith (.BinOp (.Name x px) .Add (.List es p1) pb) (some (.Name x pos')) pos.line X.env = pure false := by rfl)
    (hf : X.fn x = true ∨ X.env.scope.names.lookup x = some .local := by first | exact .inl rfl | exact .inr rfl) (hd : (x == ("__debug__" : Str)) = false := by decide) (hcd : (x == ("__classdict__" : Str)) = false := by decide) :
    LB X T W k i mes (.Assign [.Name x pos'] (.BinOp (.Name x px) .Add (.List es p1) pb) pos :: rest) m := by
  have hl := of_decide_eq_true hl
  refine ⟨lb_set hN hi hx (pe_op op_cat (pe_var hi hv hd hcd) (pe_lamL h (by omega))) hrest hs hf fun E σ H ⟨G, ρ, hh, re, rh, e0, ⟨D, fs, s1, s2, s3⟩, p⟩ => ⟨.ref D, s1, G, hh, rh, fun G1 H1 D2 fs2 l1 r1 e1 a1 => ?_⟩⟩
  refine ⟨D, D2, _, _, rfl, rfl, r1.F _ _ (l1.F _ _ s2), r1.F _ _ e1, by rw [List.length_map, List.length_map, s3.length, a1.length, sizeLine_eq]; omega, fun q hq => ?_⟩
  have l := Gh.put_le (o := .lst (fs.map V.ref ++ fs2.map V.ref)) (r1.notF hq)
  have hlen : i < ρ.length := by
    rcases Nat.lt_or_ge i ρ.length with z | z
    · exact z
    · rw [List.getElem?_eq_none z] at e0; cases e0
  have e2 : (σ.set i (some (.ref q)))[i]? = some (some (V.ref q)) := by rw [List.getElem?_set]; simp only [if_true]; rw [if_pos (by rw [← re.len]; exact hlen)]
  have e3 : ρ.set i none = ρ := by
    apply List.ext_getElem?
    intro j
    by_cases hj : j = i
    · subst hj; rw [List.getElem?_set]; simp only [if_true]; rw [if_pos hlen, e0]
    · rw [List.getElem?_set_ne (Ne.symm hj)]
  have re2 := (re.mono (l1.trans l)).forget i (some (.ref q))
  rw [e3] at re2
  refine ⟨_, ρ, hh, re2, r1.new hq _, e0, ⟨q, fs ++ fs2, e2, by show upd G1.F q _ q = _; rw [upd_same, List.map_append], (s3.mono (l1.trans l).w).append (a1.mono l.w)⟩, PostS.mono p (l1.trans l)⟩
/-- the list is not looked at any more -/
theorem lb_out (h : DB X T W rest m) : LB X T W k i mes rest m := ⟨PSs.imp h.p fun E σ H ⟨G, ρ, hh, re, rh, _, _, p⟩ => ⟨G, ρ, hh, re, rh, p⟩⟩
end
end Sh

set_option Elab.async false
set_option linter.all false
set_option maxRecDepth 100000
set_option maxHeartbeats 4000000
/-! Sh23: told(f) within a block, f one of the lambdas that are kept. -/
namespace Sh
open PySem PySem.Spec PyProof.Rows L2

/-- behind a block's steps: the maker's own state -/
theorem outer_inv {X : Cx} {pins pins' : List (Addr × Obj)} {σ σ' : L2.St} {H0 H' : Hp} {s0 s' : Shared} {scope : Scope} {ce : Env} {fp : List Addr} (J : Inv X pins σ H0 s0) (hf : ∀ b ∈ fp, FpOk X pins H0 b) (I : Inv (X.blk s0 H0 scope ce fp) pins' σ' H' s') : Inv X pins σ H' s' :=
  J.call' (ch := fp) I.os I.base I.hok I.bare fun b hb => ⟨(hf b hb).2.2.2.1, (hf b hb).2.1, (hf b hb).2.2.2.2.1, (hf b hb).2.2.2.2.2⟩
section
variable {X : Cx} {T : Tb} {pins : List (Addr × Obj)} {σ : L2.St} {H : Hp} {s : Shared}
/-- a(), a tells a lambda of X that is kept; Z is the frame of the def that got it -/
theorem pe_actO {CZ : CXT} {EZ E : XK} {NZ : List Str} {qz : Str} {sz : Scope} {gz f c' : Addr} {cz pm ctv : Value} {params : Arguments} {body : Expr} {scope : Scope} {k i : Nat} {a : Str} {pn : List (Addr × Obj)} {xe : Value → Shared → Prop} {W : WX} {me : Ev} {p1 p2 : Pos}
    (J : Inv X pins σ H s) (D : LamD X T k params body scope me) (tk : Takes ((cxOf CZ X.prog X.w X.K X.mg X.base NZ qz sz gz cz X.A X.stack s H EZ).tr pn xe) W) (hW : ∀ cls d σ' H', E cls d H' → W cls d σ' H') (hr : Room (k + 1) (X.A.deeper (envOfC qz sz s.heap.objs.size gz cz)))
    (hi : NZ[i]? = some a) (hv : Vis sz a) (hd : (a == ("__debug__" : Str)) = false) (hcd : (a == ("__classdict__" : Str)) = false) :
    PE ((cxOf CZ X.prog X.w X.K X.mg X.base NZ qz sz gz cz X.A X.stack s H EZ).tr pn xe) (.Call (.Name a p1) [] [] p2)
      (fun σz Hz Q => σz[i]? = some (some (.ref f)) ∧ Hz c' = some (LamX.CodeO c' (X.env.qual ++ "<lambda>")) ∧ Hz f = some (LamO f (lamOb X params body scope pm c' ctv)) ∧ tE X.K T (fun cls d _ H => E cls d H) me σ Hz Q) := by
  refine ⟨fun pz z σz Hz Q Iz ⟨h1, h2, h3, h4⟩ => wpAny_Call_Name_kw (thn ((pe_var (pos := p1) hi hv hd hcd).run pz z σz Hz (fun v Hv => v = .ref f ∧ Hv = Hz) Iz ⟨_, h1, rfl, rfl⟩) fun u y ⟨v, Hy, Iy, ry, ev, eH⟩ => ?_)⟩
  subst ev eH
  obtain rfl : u = Value.ref f := ry
  have gf := lamO_get Iy.hok h3
  obtain ⟨⟨oc, vs, t, co1, co2, co3⟩, _, _⟩ := Iy.hok c' _ h2
  refine PySem.W.callWith_F0 ⟨_, _, _, _, gf⟩ ?_
  have un0 : Un (frs X.stack) [] H Hy s.heap y.heap := Iy.base
  have run : codeAny (model X.prog X.w) (X.A.deeper (envOfC qz sz s.heap.objs.size gz cz)) (.call (.ref f) ⟨[], []⟩) (CR (L2.CX X.prog X.w) (envOfC qz sz s.heap.objs.size gz cz :: X.stack) X.prog X.w Hy y Q E) y := by
    refine PySem.W.kla_callFunE hr.depth gf rfl D.L.co D.L.gen rfl ⟨c', oc, vs, t, rfl, co1, co2, co3⟩ ?_
    rw [D.bind]
    refine wpAny_pure (wpAny_newFunctionEnv (fun y hy => (D.L.own y hy).2) (fun y hy => absurd hy (by simp)) (fun hn ns sb => ⟨Iy.nolimit.fresh _ sb, ?_⟩) D.L.kind)
    have keep : ∀ b o, y.heap.get? b = some o → hn.get? b = some o := fun b o e => sb.extBut b o (Nat.ne_of_lt (Heap.lt_size e)) (Heap.get?_push_of_some _ e)
    have Jl : Inv (LamX.lamCx X (X.A.deeper (envOfC qz sz s.heap.objs.size gz cz)) (envOfC qz sz s.heap.objs.size gz cz :: X.stack) y Hy E scope f c') [] σ Hy { y with heap := hn, toks := y.toks + ([] : List (Str × Value)).length } := LamX.lam_start2 J D.L Iy.env0 hr.hd un0 ns keep
    refine PySem.W.kla_codeExpr (wpAny_mono ((D.body _ _ y Hy E f c' (hr.deeper _)).p.run [] _ _ Hy Q Jl h4) (fun v s' ⟨w', H', J', rv, q⟩ => ?_) fun e s' q => q)
    exact ⟨w', H', J'.os, J'.bare, J'.base, J'.hok, rv, q⟩
  refine wpAny_call (codeAny_mono run fun r s' q => ?_)
  cases r with
  | error e => exact (passes_call tk hW) pz σz Hy y e s' Iy q
  | ok fl =>
    cases fl with
    | ret u => exact Iy.after q
    | next => exact q.elim
    | brk => exact q.elim
    | cont => exact q.elim
/-- told(f) there -/
def tToldO (X : Cx) (T : Tb) (k : Nat) (σ : L2.St) (j : Nat) (cat : List Str) (ret : List Nat) : TE := fun σ' H' Q => ∃ fa me G ρ h, σ'[j]? = some (some (.ref fa)) ∧ LamAt X T k G fa me ∧ RE X.K G ρ σ ∧ RH X.K T G h H' ∧
  (match eTold cat ret me ρ h with
  | .ok d h' => ∀ G' H2 v, G.le G' → RH X.K T G' h' H2 → RD X.K G' d v → Q v H2
  | _ => False)
theorem pe_toldO {x a e : Str} {pg : Arguments} {sg : Scope} {CS : Addr} {ret : List Nat} {cat : List Str} {k j : Nat} {scope : Scope} {ce : Env} {fp : List Addr} {y : Str} {p pf pos : Pos} (t : ToldF X.K X.mg x a e pg sg CS ret) (hcat : ∀ c ∈ cat, PySem.W.exmOne X.K (.ref (He.ga X.K c)) (.ref CS) = some true)
    (J : Inv X pins σ H s) (hf : ∀ b ∈ fp, FpOk X pins H b) (hg : Gl (X.blk s H scope ce fp) x) (hr : Room (k + 2) X.A) (hj : X.N[j]? = some y) (hv : Vis ce.scope y) (hdb : (x == ("__debug__" : Str)) = false) (hyd : (y == ("__debug__" : Str)) = false) (hyc : (y == ("__classdict__" : Str)) = false) (had : (a == ("__debug__" : Str)) = false) (hac : (a == ("__classdict__" : Str)) = false)
    (hst : starEach [.Name y pf] ce = (false, eval (.Name y pf) ce) :: starEach [] ce := by rfl) (hpl : (backTo pos (starEach ([] : List Expr) ce)).any (·.1) = false := by rfl) :
    PE (X.blk s H scope ce fp) (.Call (.Name x p) [.Name y pf] [] pos) (tToldO X T k σ j cat ret) := by
  obtain ⟨g, fd, jj, p1, p2, p3, p4, p5, p6, p7, p8, hm, hb, F⟩ := t.ex
  obtain ⟨oc, od, dV, kV, doc, pm0, an, cdv, ct, osl, rfl, lk, hcd', _, _⟩ := F.ex
  have G0 := LamX.told_gives (X := X) (Ng := [a]) (x := x) (a := a) (e := e) (q := X.env.qual ++ "<lambda>") (ret := S ret) (sg := sg) (g := g) (CS := CS) (cdg := cdv) (j := jj) (p1 := p1) (p2 := p2) (p3 := p3) (p4 := p4) (p5 := p5) (p6 := p6) (p7 := p7) (p8 := p8) t.ge t.me t.de (fun f => rfl)
  refine ⟨fun pb z σb Hb Q I ⟨fa, me, G, ρ, h, hs, ⟨params, body, lsc, c', pm, ctv, D, f1, f2⟩, re, rh, q⟩ => ?_⟩
  refine wpAny_Call_Name_kw (ld_glob I hg hm ?_ hdb)
  refine PySem.W.callWith_K (h₀ := X.base) I.ok.mod.kin F.kp (thn ((pa_cons (X := X.blk s H scope ce fp) (pe_var hj hv hyd hyc) pa_nil hst).run pos pb z σb Hb (fun vs Hv => vs = [.ref fa] ∧ Hv = Hb) I ⟨_, hs, rfl, rfl⟩) fun us s1 ⟨vs, H1, I1, r, ev, eH⟩ => ⟨I1.kIn, ?_⟩) hst hpl
  subst ev eH
  have J1 : Inv X pins σ H1 s1 := outer_inv J hf I1
  cases r with
  | cons r1 r2 =>
    cases r2
    obtain rfl := r1
    have rc : codeAny (model X.prog X.w) X.A (.call (.ref g) ⟨[.ref fa], []⟩) (CR C8.CX0 X.stack X.prog X.w H1 s1 Q C8.E0) s1 := by
      refine LamX.run_ofS (N := [a]) (ps := [a]) (us := [.ref fa]) (vs := [.ref fa]) lk hcd' t.fs hr J1.env0 (hb s1 [.ref fa] J1.kIn rfl) (.cons rfl .nil) rfl fun hr' => ?_
      have hx : LamX.TTold X.K CS (S ret) (fun E H' Q' => H' fa = some (LamO fa (lamOb X params body lsc pm c' ctv)) ∧ tE X.K T (fun cls d _ H => E cls d H) me σ H' Q') H1 Q := by
        refine ⟨rh.F _ _ f1, G, ρ, h, re, rh, ?_⟩
        unfold eTold at q
        cases e1 : me ρ h with
        | ok d h' => rw [e1] at q; exact q
        | exc c h' =>
          rw [e1] at q
          intro G' H' l r
          by_cases hm : c ∈ cat
          · have q : (match (if c ∈ cat then .ok (.str ret) h' else .err : Res Sh.D) with
              | .ok d h' => ∀ G' H2 v, G.le G' → RH X.K T G' h' H2 → RD X.K G' d v → Q v H2
              | _ => False) := q
            rw [if_pos hm] at q
            exact ⟨true, hcat c hm, fun _ => q G' H' _ l r (.str ret), fun z => by cases z⟩
          · have q : (match (if c ∈ cat then .ok (.str ret) h' else .err : Res Sh.D) with
              | .ok d h' => ∀ G' H2 v, G.le G' → RH X.K T G' h' H2 → RD X.K G' d v → Q v H2
              | _ => False) := q
            rw [if_neg hm] at q
            exact q.elim
        | err => rw [e1] at q; exact q.elim
      obtain ⟨t', ht', hq'⟩ := G0 fa c' s1 H1 Q _ (fun W pn xe E p1 p2 tk hW => pe_actO (i := 0) J1 D tk hW hr' rfl t.va had hac) (rh.F _ _ f2) hx
      exact ⟨t', ht'.nox, hq'⟩
    refine wpAny_call (codeAny_mono rc fun r s2 hq => ?_)
    cases r with
    | error e => exact (show False from hq).elim
    | ok fl =>
      cases fl with
      | ret u => exact I1.after hq
      | next => exact False.elim hq
      | brk => exact False.elim hq
      | cont => exact False.elim hq
end
end Sh

set_option Elab.async false
set_option linter.all false
set_option maxRecDepth 100000
set_option maxHeartbeats 4000000
/-! Sh24: a list comprehension whose tests lean on the maker's own state. -/
namespace Sh
open PySem PySem.Spec PyProof.Rows L2

section
variable {X : Cx}
theorem lc_own {pins : List (Addr × Obj)} {s : Shared} {σ : L2.St} {H : Hp} {Q : VK} {elt tg iter : Expr} {ifs : List Expr} {scope : Scope} {own : List (Str × Nat)} {pos : Pos} {wi : TI} {g : TG} {tt : TT} {te : TE} (calm : X.calm = true) (nd : X.N.Nodup) (J : Inv X pins σ H s) (hi : PI X tg iter wi)
    (ok : BlkOk X.N X.env.scope scope own) (hg : ∀ (s : Shared) (H : Hp) (C : Addr) (cl : List (Str × Addr)) (fp : List Addr), PG (X.blk s H scope (compEnvC scope cl C X.env) fp) tg g)
    (ht : ∀ (s : Shared) (H : Hp) (C : Addr) (cl : List (Str × Addr)) (fp : List Addr), Inv X pins σ H s → (∀ b ∈ fp, FpOk X pins H b) → PTs (X.blk s H scope (compEnvC scope cl C X.env) fp) ifs tt)
    (he : ∀ (s : Shared) (H : Hp) (C : Addr) (cl : List (Str × Addr)) (fp : List Addr), PE (X.blk s H scope (compEnvC scope cl C X.env) fp) elt te) (hs : ∀ x, foldedSetIterable iter X.env x = pure x) (h : tLc wi g tt te (own.map (·.2)) σ H Q) :
    wpAny (model X.prog X.w) X.A (eval (.ListComp elt [⟨tg, iter, ifs, 0⟩] scope pos) X.env) (EP X pins σ Q) X.xe s := by
  have fr : ∀ y ∈ scope.names, y.2 = .free → ∃ c, X.env.cells.lookup y.1 = some c := by
    intro y hy e
    exact (ok.free y hy e).elim (fun z => J.ok.has _ (.inl z)) fun z => J.ok.has _ (.inr z)
  rw [eval_ListComp]
  refine wpAny_comprehension_free (use := none) rfl hs (closure_ok fr) ok.kind (fun y hy e => by rw [ok.uniq y hy, e]) (thn (hi.run pins s σ H _ J h) fun xv za hx => thn hx fun iv zb hb => ?_)
  obtain ⟨it, fp, tn, Jt, Hb, rfl, Jb, Tu, tb0, fpb, q⟩ := hb
  refine wpAny_newObj_type (newEnv_comp ?_) (by show 0 ≤ sizeLine; decide)
  have nD : Hb zb.heap.objs.size = none := Jb.hok.fresh (Nat.le_refl _)
  obtain ⟨Wt, ⟨m0, w0⟩, step⟩ := q _ nD
  -- the list, the block's frame
  obtain ⟨D, eD⟩ : ∃ D, D = zb.heap.objs.size := ⟨_, rfl⟩
  rw [← eD] at w0 step nD
  obtain ⟨zc, ec⟩ : ∃ zc : Shared, zc = { zb with heap := zb.heap.push { cls := .type "list", data := .seq ([] : List Value).toArray } } := ⟨_, rfl⟩
  have hpc : zc.heap = zb.heap.push { cls := .type "list", data := .seq ([] : List Value).toArray } := by rw [ec]
  have Jc : Inv X pins σ (upd Hb D (.lst [])) zc := by
    rw [ec]
    refine Jb.laid (t' := zb.toks) (fun b o e => Heap.get?_push_of_some _ e) (Nat.le_of_eq eD.symm) ⟨Nat.zero_le _, [], 0, .nil, ?_⟩
    rw [eD]
    exact Heap.get?_push_size _ rfl
  have lo : ∀ b ∈ fp, b < zb.heap.objs.size := fun b hb => let ⟨o, e, _⟩ := Tu.obj _ _ tb0 b hb; Heap.lt_size e
  have fpc : ∀ b ∈ fp, FpOk X pins (upd Hb D (.lst [])) b ∧ b < zc.heap.objs.size := by
    intro b hb
    refine ⟨⟨?_, (fpb b hb).2⟩, ?_⟩
    · rw [upd_ne (show b ≠ D from by rw [eD]; exact Nat.ne_of_lt (lo b hb))]
      exact (fpb b hb).1
    · rw [hpc, Heap.size_push]
      exact Nat.lt_succ_of_lt (lo b hb)
  have tc0 : tn 0 zc.heap := Tu.keep _ _ _ tb0 fun b _ o e => by rw [hpc]; exact Heap.get?_push_of_some _ e
  have Jd := block_start Jc ok nd fpc
  rw [← ec, ← eD]
  obtain ⟨Hc, eH⟩ : ∃ Hc, Hc = upd Hb D (.lst []) := ⟨_, rfl⟩
  rw [← eH] at w0 Jc fpc Jd
  obtain ⟨cl, ecl⟩ : ∃ cl, cl = cellsFrom (zc.heap.objs.size + 1) scope.names (cloFrom X.env.cells scope.names []) := ⟨_, rfl⟩
  have rg := hg zc Hc zc.heap.objs.size cl fp
  have rt := ht zc Hc zc.heap.objs.size cl fp Jc fun b hb => (fpc b hb).1
  have re := he zc Hc zc.heap.objs.size cl fp
  rw [← ecl] at Jd
  show codeAny _ _ (.compStart (.ListComp elt [⟨tg, iter, ifs, 0⟩] scope pos) 0 (.ref it) (.ref D) (compEnvC scope (cellsFrom (zc.heap.objs.size + 1) scope.names (cloFrom X.env.cells scope.names [])) zc.heap.objs.size X.env)) (compPost (model X.prog X.w) X.A X.xe none (EP X pins σ Q) (.ref D) zc.heap.objs.size)
    { zc with heap := pushCells (zc.heap.push { cls := .type "dict", data := .dict #[] }) scope.names }
  rw [← ecl]
  obtain ⟨ce, ece⟩ : ∃ ce, ce = compEnvC scope cl zc.heap.objs.size X.env := ⟨_, rfl⟩
  have locs : ce.locals = zc.heap.objs.size := by rw [ece]; rfl
  rw [← ece] at Jd rg rt re ⊢
  obtain ⟨zd, ed⟩ : ∃ zd : Shared, zd = { zc with heap := pushCells (zc.heap.push { cls := .type "dict", data := .dict #[] }) scope.names } := ⟨_, rfl⟩
  have td0 : tn 0 zd.heap := Tu.keep _ _ _ tc0 fun b _ o e => by rw [ed]; exact pushCells_keeps _ _ _ _ (Heap.get?_push_of_some _ e)
  rw [← ed] at Jd ⊢
  have stand : ∀ {σ' : L2.St} {H' : Hp} {z : Shared}, Inv (X.blk zc Hc scope ce fp) [] σ' H' z → (∀ b ∈ fp, H' b = none) → ∀ b ∈ fp, FpOk (X.blk zc Hc scope ce fp) [] H' b := by
    intro σ' H' z I n b hb
    exact ⟨n b hb, (I.ok.exf b hb).1, I.ok.exfs b hb, .inl hb, fun x c e => (I.ok.exf b hb).2 x c e, fun p hp => absurd (show p ∈ ([] : List (Addr × Obj)) ++ [] from hp) (by simp)⟩
  have loop : codeAny (model X.prog X.w) X.A (.compLoop (.ListComp elt [⟨tg, iter, ifs, 0⟩] scope pos) 0 (.ref it) (.ref D) ce) (compPost (model X.prog X.w) X.A X.xe none (EP X pins σ Q) (.ref D) zc.heap.objs.size) zd := by
    refine compLoop_any (fun n z => ∃ i H', Inv (X.blk zc Hc scope ce fp) [] (wipe σ (own.map (·.2))) H' z ∧ tn i z.heap ∧ (∀ b ∈ fp, H' b = none) ∧ Wt i n H') (fun n z ⟨i, Hz, Jz, tz, nz, wz⟩ => ?_) m0 ⟨0, Hc, Jd, td0, fun b hb => (fpc b hb).1.1, w0⟩
    rcases step i n Hz wz with ⟨halt, won⟩ | ⟨go, Nx, less, turn⟩
    · -- none is left
      refine thnF (Tu.done (X.blk zc Hc scope ce fp) rfl rfl rfl calm i [] z _ Hz (fun _ _ => False) Jz (stand Jz nz) tz halt) fun r y ⟨hr, Jy⟩ => ?_
      subst hr
      have Jo : Inv X pins σ Hz y := outer_inv Jc (fun b hb => (fpc b hb).1) Jy
      have fC : Hz zc.heap.objs.size = none := by rw [← locs]; exact Jy.free
      obtain ⟨m, hm, _⟩ := Jy.loc
      have hm : y.heap.Ns ce.locals m := hm
      rw [locs] at hm
      refine ⟨m, hm, fun h2 sb => ?_⟩
      obtain ⟨a0, a1, _, a3, a4, a5⟩ := Jc.fpOk (Nat.le_refl _) fC
      exact ⟨.ref D, Hz, Jo.turned (t' := y.toks) (fun b o ne e => (sb.2 b ne).trans e) a0 a1 a3 a4 a5, rfl, won⟩
    · -- one more
      refine thnF (Tu.item (X.blk zc Hc scope ce fp) rfl rfl rfl calm i [] z _ Hz (fun _ _ => False) Jz (stand Jz nz) tz go) fun r y ⟨u, hr, hy⟩ => ?_
      subst hr
      refine thnF hy fun _ y2 ⟨x, H2, J2, rx, yx, t2, n2⟩ => ?_
      have J2p := J2.pinned (stand J2 n2) (Tu.obj _ _ t2)
      refine thnF (rg.run _ y2 _ H2 x u _ J2p rx (turn x H2 yx)) fun _ y3 ⟨σ3, H3, J3, same, q3⟩ => ?_
      refine thnF (rt.run _ y3 σ3 H3 _ J3 q3) fun b y4 ⟨H4, J4, q4⟩ => ?_
      have next : ∀ {y' : Shared} {H' : Hp}, Inv (X.blk zc Hc scope ce fp) ([] ++ pinsAt fp y2.heap) σ3 H' y' → Nx H' → ∃ m, m < n ∧ ∃ i H', Inv (X.blk zc Hc scope ce fp) [] (wipe σ (own.map (·.2))) H' y' ∧ tn i y'.heap ∧ (∀ b ∈ fp, H' b = none) ∧ Wt i m H' := by
        intro y' H' I' nx
        obtain ⟨m', lt, w'⟩ := less H' nx
        have held : ∀ b ∈ fp, ∀ o, y2.heap.get? b = some o → y'.heap.get? b = some o ∧ H' b = none := fun b hb o e => let z := I'.pin (b, o) (List.mem_append_right _ (List.mem_append_right _ (mem_pinsAt hb e))); ⟨z.1, z.2.1⟩
        refine ⟨m', lt, i + 1, H', (I'.unpinned (pins := [])).weak (by rw [← same, wipe_length]) (fun j v e => ?_), Tu.keep _ _ _ t2 fun b hb o e => (held b hb o e).1, fun b hb => ?_, w'⟩
        · rw [← same] at e
          exact (wipe_some e).1
        · obtain ⟨o, e, _⟩ := Tu.obj _ _ t2 b hb
          exact (held b hb o e).2
      cases b with
      | false => simp only [Bool.false_eq_true, if_false] at q4 ⊢; exact next J4 q4
      | true =>
        simp only [if_true] at q4 ⊢
        exact thnF (re.run _ y4 σ3 H4 _ J4 q4) fun v y5 ⟨yv, H5, J5, r5, acc, e5, z5, nx⟩ => app_ok (X := X.blk zc Hc scope ce fp) J5 e5 z5 r5 fun y6 J6 => next J6 nx
  exact codeAny_compStart_list loop (Tu.self X.A 0 _ _ _ td0 loop)
end
end Sh

set_option Elab.async false
set_option linter.all false
set_option maxRecDepth 100000
set_option maxHeartbeats 4000000
/-! Sh25: [1 for f in bad if told(f) != y]. -/
namespace Sh
open PySem PySem.Spec PyProof.Rows L2

theorem LamsAt.get {X : Cx} {T : Tb} {k : Nat} {G : Gh} {fs : List Addr} {mes : List Ev} (h : LamsAt X T k G fs mes) : ∀ {i : Nat} {me : Ev}, mes[i]? = some me → ∃ f, fs[i]? = some f ∧ LamAt X T k G f me := by
  induction h with
  | nil => intro i me e; simp at e
  | @cons f fs me mes a _ ih =>
    intro i m e
    cases i with
    | zero => simp at e; subst e; exact ⟨f, by simp, a⟩
    | succ i => simp at e; obtain ⟨g, h1, h2⟩ := ih e; exact ⟨g, by simpa using h1, h2⟩
/-- each lambda told; how many tell something else -/
def badGo (cat : List Str) (ret y : List Nat) : List Ev → Nat → En → LH → Res D
  | [], n, _, h => .ok (.lst (List.replicate n (.int 1))) h
  | me :: mes, n, ρ, h => match eTold cat ret me ρ h with
    | .ok d h' => (match dNe d (.str y) with
      | some (.bl true) => badGo cat ret y mes (n + 1) ρ h'
      | some (.bl false) => badGo cat ret y mes n ρ h'
      | _ => .err)
    | _ => .err
def eBad (j : Nat) (cat : List Str) (ret y : List Nat) (mes : List Ev) : Ev := fun ρ h => if j < ρ.length then badGo cat ret y mes 0 ρ h else .err
/-- the test, in the block -/
def tBadT (X : Cx) (T : Tb) (k : Nat) (σ : L2.St) (j : Nat) (cat : List Str) (ret y : List Nat) : TT := fun σ' H Q => ∃ fa me G ρ h, σ'[j]? = some (some (.ref fa)) ∧ LamAt X T k G fa me ∧ RE X.K G ρ σ ∧ RH X.K T G h H ∧
  (match eTold cat ret me ρ h with
  | .ok d h' => (match dNe d (.str y) with
    | some (.bl b) => ∀ G' H2, G.le G' → RH X.K T G' h' H2 → Q b H2
    | _ => False)
  | _ => False)
theorem rds_rep {K : PySem.W.Frag} {G : Gh} : ∀ n : Nat, RDs K G (List.replicate n (.int 1)) (List.replicate n (.int 1))
  | 0 => .nil
  | n + 1 => .cons (.int 1) (rds_rep n)
section
variable {X : Cx} {T : Tb} {W : WX} {k i j : Nat}
theorem pts_bad {pins : List (Addr × Obj)} {σ : L2.St} {H : Hp} {s : Shared} {x a e : Str} {pg : Arguments} {sg : Scope} {CS : Addr} {ret : List Nat} {cat : List Str} {scope : Scope} {ce : Env} {fp : List Addr} {yf : Str} {p pf pc pos : Pos} {yl : List Nat} {jc : Nat} {py : Pos} (t : ToldF X.K X.mg x a e pg sg CS ret) (hcat : ∀ c ∈ cat, PySem.W.exmOne X.K (.ref (He.ga X.K c)) (.ref CS) = some true)
    (J : Inv X pins σ H s) (hf : ∀ b ∈ fp, FpOk X pins H b) (hg : Gl (X.blk s H scope ce fp) x) (hr : Room (k + 2) X.A) (hj : X.N[j]? = some yf) (hv : Vis ce.scope yf) (hdb : (x == ("__debug__" : Str)) = false) (hyd : (yf == ("__debug__" : Str)) = false) (hyc : (yf == ("__classdict__" : Str)) = false) (had : (a == ("__debug__" : Str)) = false) (hac : (a == ("__classdict__" : Str)) = false)
    (hst : starEach [.Name yf pf] ce = (false, eval (.Name yf pf) ce) :: starEach [] ce := by rfl) (hpl : (backTo pc (starEach ([] : List Expr) ce)).any (·.1) = false := by rfl) :
    PTs (X.blk s H scope ce fp) [.Compare (.Call (.Name x p) [.Name yf pf] [] pc) [.NotEq] [.Constant (.str (S yl)) jc py] pos] (tBadT X T k σ j cat ret yl) := by
  refine PTs.imp (pts_one (pt_cmpR (X := X.blk s H scope ce fp) (od_ne (T := T) (hu64 hr)) (pe_toldO t hcat J hf hg hr hj hv hdb hyd hyc had hac hst hpl) pe_str (by first | exact nomark _ | rfl))) fun σ' H' Q ⟨fa, me, G, ρ, h, h1, h2, h3, h4, q⟩ => ⟨fa, me, G, ρ, h, h1, h2, h3, h4, ?_⟩
  cases e1 : eTold cat ret me ρ h with
  | err => rw [e1] at q; exact q.elim
  | exc c h' => rw [e1] at q; exact q.elim
  | ok d h' =>
    rw [e1] at q
    intro G' H2 v l r rd
    cases e2 : dNe d (.str yl) with
    | none => simp only [e2] at q
    | some z =>
      simp only [e2] at q
      cases z with
      | bl b => exact ⟨G', h', d, .str yl, .bl b, r, rd, .str yl, e2, fun G3 H3 z l3 r3 d3 => by cases d3; exact ⟨b, rfl, q G3 H3 (l.trans l3) r3⟩⟩
      | _ => simp at q
/-- the list's reading asks what stands in the name -/
def tEB (X : Cx) (T : Tb) (W : WX) (k i : Nat) (mes : List Ev) (m : Ev) : TE := fun σ H Q => ∃ G ρ h, RE X.K G ρ σ ∧ RH X.K T G h H ∧ Bad X T k G σ i mes ∧ Post X.K T W σ G (m ρ h) Q
theorem pe_bad {mes : List Ev} {x a e : Str} {pg : Arguments} {sg : Scope} {CS : Addr} {ret : List Nat} {cat : List Str} {scope : Scope} {yf xb : Str} {p pf pc pe pt pb py p9 pos : Pos} {yl : List Nat} {jc j1 : Nat} (t : ToldF X.K X.mg x a e pg sg CS ret) (hcat : ∀ c ∈ cat, PySem.W.exmOne X.K (.ref (He.ga X.K c)) (.ref CS) = some true)
    (calm : X.calm = true) (nd : X.N.Nodup) (hl : mes.length ≤ 1000) (hr : Room (k + 2) X.A) (ok : BlkOk X.N X.env.scope scope [(yf, j)]) (hg : ∀ C cl, (compEnvC scope cl C X.env).kindOf x = some .globalImplicit) (hi : X.N[i]? = some xb) (hvb : Vis X.env.scope xb) (hj : X.N[j]? = some yf)
    (hv : ∀ C cl, Vis (compEnvC scope cl C X.env).scope yf) (hlo : ∀ C cl, Loc (compEnvC scope cl C X.env).scope yf) (hfn : (scope.names.lookup yf == some .cell) = true ∨ ∀ C cl, (compEnvC scope cl C X.env).scope.names.lookup yf = some .local)
    (hdb : (x == ("__debug__" : Str)) = false) (hyd : (yf == ("__debug__" : Str)) = false) (hyc : (yf == ("__classdict__" : Str)) = false) (had : (a == ("__debug__" : Str)) = false) (hac : (a == ("__classdict__" : Str)) = false) (hbd : (xb == ("__debug__" : Str)) = false) (hbc : (xb == ("__classdict__" : Str)) = false)
    (hs : ∀ v, foldedSetIterable (.Name xb pb) X.env v = pure v) (hst : ∀ C cl, starEach [.Name yf pf] (compEnvC scope cl C X.env) = (false, eval (.Name yf pf) (compEnvC scope cl C X.env)) :: starEach [] (compEnvC scope cl C X.env)) :
    PE X (.ListComp (.Constant (.int 1) j1 pe) [⟨.Name yf pt, .Name xb pb, [.Compare (.Call (.Name x p) [.Name yf pf] [] pc) [.NotEq] [.Constant (.str (S yl)) jc py] p9], 0⟩] scope pos) (tEB X T W k i mes (eBad j cat ret yl mes)) := by
  refine ⟨fun pins s σ H Q I ⟨G, ρ, h, re, rh, ⟨LD, fs, s1, s2, s3⟩, q⟩ => ?_⟩
  refine lc_own calm nd I (pi_list (pe_var hi hvb hbd hbc)) ok (fun s H C cl fp => pg_name (X := X.blk s H scope (compEnvC scope cl C X.env) fp) nd hj (hlo C cl) (hfn.elim .inl fun z => .inr (z C cl))) (fun s H C cl fp J hf => pts_bad (T := T) t hcat J hf (hg C cl) hr hj (hv C cl) hdb hyd hyc had hac (hst C cl)) (fun s H C cl fp => pe_int) hs ?_
  unfold eBad at q
  split at q
  rotate_left
  · exact q.elim
  rename_i hjl
  refine ⟨.ref LD, s1, LD, rfl, ⟨_, SqL.of (rh.F _ _ s2)⟩, fun D hD => ?_⟩
  have n0 : G.E D = none := rh.notE hD
  refine ⟨fun i m H => ∃ G2 h n, G.lw G2 ∧ G2.E = upd G.E D (.lst (List.replicate n (.int 1))) ∧ RH X.K T G2 h H ∧ n ≤ i ∧ m = mes.length - i ∧ i ≤ mes.length ∧ Post X.K T W σ G (badGo cat ret yl (mes.drop i) n ρ h) Q,
    ⟨_, G.hold D (.lst []), h, 0, Gh.hold_lw, rfl, rh.hold hD _, Nat.le_refl _, rfl, Nat.zero_le _, q⟩, ?_⟩
  rintro i m H2 ⟨G2, h2, n, l2, eE, rh2, hn, rfl, hi, p2⟩
  have hE2 : G2.E D = some (.lst (List.replicate n (.int 1))) := by rw [eE, upd_same]
  have hL : SqL X.K H2 LD (fs.map V.ref) := SqL.of (rh2.F _ _ (l2.F _ _ s2))
  by_cases hlt : i < mes.length
  · obtain ⟨fa, g1, g2⟩ := s3.get (List.getElem?_eq_getElem hlt)
    have gi : (fs.map V.ref)[i]? = some (.ref fa) := by rw [List.getElem?_map, g1]; rfl
    refine .inr ⟨⟨_, _, hL, gi⟩, fun H' => ∃ G3 h n, G.lw G3 ∧ G3.E = upd G.E D (.lst (List.replicate n (.int 1))) ∧ RH X.K T G3 h H' ∧ n ≤ i + 1 ∧ Post X.K T W σ G (badGo cat ret yl (mes.drop (i + 1)) n ρ h) Q,
      fun H' ⟨G3, h3, n3, a1, a2, a3, a4, a5⟩ => ⟨mes.length - (i + 1), by omega, G3, h3, n3, a1, a2, a3, a4, rfl, hlt, a5⟩, fun x H' ⟨eH, y⟩ => ?_⟩
    have y := y _ hL
    rw [gi] at y
    cases y
    subst eH
    refine ⟨(wipe_set (List.mem_singleton.mpr rfl)).trans wipe_idem, fa, mes[i], G2, ρ, h2, ?_, g2.mono l2, re.monow l2, rh2, ?_⟩
    · rw [List.getElem?_set]
      simp only [if_true]
      rw [if_pos (by rw [wipe_length, ← re.len]; exact hjl)]
    · rw [List.drop_eq_getElem_cons hlt] at p2
      unfold badGo at p2
      cases e1 : eTold cat ret mes[i] ρ h2 with
      | err => rw [e1] at p2; exact p2.elim
      | exc c h3 => rw [e1] at p2; exact p2.elim
      | ok d h3 =>
        rw [e1] at p2
        cases e2 : dNe d (.str yl) with
        | none => simp only [e2] at p2; exact p2.elim
        | some z =>
          simp only [e2] at p2
          cases z with
          | bl b =>
            simp only [e2]
            intro G3 H3 l3 rh3
            have eE3 : G3.E = upd G.E D (.lst (List.replicate n (.int 1))) := by rw [l3.E]; exact eE
            cases b with
            | false =>
              rw [if_neg Bool.false_ne_true]
              exact ⟨G3, h3, n, l2.trans l3.w, eE3, rh3, by omega, p2⟩
            | true =>
              rw [if_pos rfl]
              have hE3 : G3.E D = some (.lst (List.replicate n (.int 1))) := by rw [l3.E]; exact hE2
              refine ⟨List.replicate n (.int 1), (rh3.ext D _ hE3).1, by rw [List.length_replicate, sizeLine_eq]; omega, G3.hold D (.lst (List.replicate (n + 1) (.int 1))), h3, n + 1, (l2.trans l3.w).trans Gh.hold_lw, ?_, ?_, by omega, p2⟩
              · show upd G3.E D _ = _
                rw [eE3, upd_upd]
              · rw [← List.replicate_succ']
                exact rh3.held hE3 _
          | _ => exact p2.elim
  · have ei : i = mes.length := by omega
    subst ei
    rw [List.drop_length] at p2
    refine .inl ⟨⟨_, hL, by rw [List.length_map, s3.length]; exact Nat.le_refl _⟩, ?_⟩
    obtain ⟨lb, rb⟩ := rh2.back hE2 n0 (fun a u e => by rw [eE, upd_ne (fun z => by rw [z, n0] at e; cases e)]; exact e)
    exact p2 (G2.back D (.lst (List.replicate n (.int 1))) G.E) H2 (.ref D) ⟨l2.trans lb, rfl⟩ rb (.lst (by show upd G2.F D _ D = _; rw [upd_same]) (rds_rep n))
end
end Sh

set_option Elab.async false
set_option linter.all false
set_option maxRecDepth 100000
set_option maxHeartbeats 4000000
/-! Sh26: if [1 for f in bad if told(f) != y] != []: .. -/
namespace Sh
open PySem PySem.Spec PyProof.Rows L2

def tTB (X : Cx) (T : Tb) (W : WX) (k i : Nat) (mes : List Ev) (mt : Bv) : TT := fun σ H Q => ∃ G ρ h, RE X.K G ρ σ ∧ RH X.K T G h H ∧ Bad X T k G σ i mes ∧ PostB X.K T W σ G (mt ρ h) Q
/-- a test that looks at such a list -/
structure DTB (X : Cx) (T : Tb) (W : WX) (k i : Nat) (mes : List Ev) (e : Expr) (mt : Bv) : Prop where
  p : PT X e (tTB X T W k i mes mt)
section
variable {X : Cx} {T : Tb} {W : WX} {k i j : Nat} {mes : List Ev} {pos : Pos}
theorem dtb_cmp {e1 e2 : Expr} {op : CmpOp} {f : D → D → Option D} {m1 m2 : Ev} (ho : OpD X T (compareOp op) f) (h1 : PE X e1 (tEB X T W k i mes m1)) (h2 : DE X T W e2 m2) (hm : behindInMarks op e2 = false := by first | exact nomark _ | rfl) :
    DTB X T W k i mes (.Compare e1 [op] [e2] pos) (bTest (eBin f m1 m2)) := ⟨PT.imp (pt_cmpR ho h1 h2.p hm) fun σ H Q ⟨G, ρ, h, re, rh, b, p⟩ => by
  refine ⟨G, ρ, h, re, rh, b, ?_⟩
  unfold bTest eBin at p
  cases e1 : m1 ρ h with
  | err => rw [e1] at p; exact p.elim
  | exc c h' => rw [e1] at p; exact p
  | ok d h1 =>
    rw [e1] at p
    intro G1 H1 v1 l1 r1 d1
    refine ⟨G1, ρ, h1, re.mono l1, r1, ?_⟩
    simp only [Res.bind] at p
    cases e2 : m2 ρ h1 with
    | err => rw [e2] at p; exact p.elim
    | exc c h' => rw [e2] at p; exact fun G2 H2 l2 => p G2 H2 (l1.trans l2)
    | ok d2 h2 =>
      rw [e2] at p
      intro G2 H2 v2 l2 r2 dd2
      simp only [Res.bind] at p
      cases e3 : f d d2 with
      | none => rw [e3] at p; exact p.elim
      | some z =>
        rw [e3] at p
        refine ⟨G2, h2, d, d2, z, r2, d1.mono l2, dd2, e3, fun G3 H3 w l3 r3 d3 => ?_⟩
        cases z with
        | bl b => cases d3; exact ⟨b, rfl, p G3 H3 ((l1.trans l2).trans l3) r3⟩
        | _ => exact p.elim⟩
theorem lb_if {c : Expr} {a b rest : List Stmt} {mt : Bv} {m n r : Sv} (hc : DTB X T W k i mes c mt) (ha : DB X T W a m) (hb : DB X T W b n) (hr : DB X T W rest r) : LB X T W k i mes (.If c a b pos :: rest) (sSeq (sIf mt m n) r) :=
  ⟨PSs.imp (pss_cons (ps_if hc.p ha.p hb.p) hr.p) fun E σ H ⟨G, ρ, h, re, rh, _, bd, p⟩ => by
    refine ⟨G, ρ, h, re, rh, bd, ?_⟩
    unfold sSeq sIf at p
    cases e1 : mt ρ h with
    | err => rw [e1] at p; exact p.elim
    | exc c h' => rw [e1] at p; exact fun G1 H1 l1 r1 => p G1 H1 σ l1 (re.mono l1) r1
    | ok d h1 =>
      rw [e1] at p
      simp only [Res.st] at p
      intro G1 H1 l1 r1
      have fin : ∀ q : SR, PostS X.K T W G (q.then r) E → PostS X.K T W G1 q { E with nx := tS X.K T W r E } := by
        intro q hq
        cases q with
        | nx ρ' h' => exact fun G2 H2 σ2 l2 re2 rh2 => ⟨G2, ρ', h', re2, rh2, PostS.mono hq (l1.trans l2)⟩
        | rt d h' => exact PostS.mono (r := .rt d h') hq l1
        | bk ρ' h' => exact PostS.mono (r := .bk ρ' h') hq l1
        | ct ρ' h' => exact PostS.mono (r := .ct ρ' h') hq l1
        | ex c ρ' h' => exact PostS.mono (r := .ex c ρ' h') hq l1
        | er => exact hq
      cases d with
      | true => rw [if_pos rfl] at p ⊢; exact ⟨G1, ρ, h1, re.mono l1, r1, fin _ p⟩
      | false => rw [if_neg Bool.false_ne_true] at p ⊢; exact ⟨G1, ρ, h1, re.mono l1, r1, fin _ p⟩⟩
/-- the short form -/
theorem dtb_bad {x a e : Str} {pg : Arguments} {sg : Scope} {CS : Addr} {ret : List Nat} {cat : List Str} {scope : Scope} {yf xb : Str} {p pf pc pe pt pb py p1 p2 p3 : Pos} {jc j1 : Nat} (i j : Nat) (yl : List Nat) (t : ToldF X.K X.mg x a e pg sg CS ret) (hcat : ∀ c ∈ cat, PySem.W.exmOne X.K (.ref (He.ga X.K c)) (.ref CS) = some true)
    (nd : X.N.Nodup) (hr : Room (k + 2) X.A) (calm : X.calm = true := by rfl) (hl : decide (mes.length ≤ 1000) = true := by rfl) (ok : blkC X.N X.env.scope scope [(yf, j)] = true := by rfl) (hg : ∀ C cl, (compEnvC scope cl C X.env).kindOf x = some .globalImplicit := by intro _ _; rfl) (hi : X.N[i]? = some xb := by rfl) (hvb : Vis X.env.scope xb := by first | exact .inl rfl | exact .inr (.inl rfl) | exact .inr (.inr rfl)) (hj : X.N[j]? = some yf := by rfl)
    (hv : ∀ C cl, Vis (compEnvC scope cl C X.env).scope yf := by intro _ _; first | exact .inl rfl | exact .inr (.inl rfl) | exact .inr (.inr rfl)) (hlo : ∀ C cl, Loc (compEnvC scope cl C X.env).scope yf := by intro _ _; first | exact .inl rfl | exact .inr rfl)
    (hfn : (scope.names.lookup yf == some .cell) = true ∨ ∀ C cl, (compEnvC scope cl C X.env).scope.names.lookup yf = some .local := by first | exact .inl rfl | exact .inr (fun _ _ => rfl))
    (hdb : (x == ("__debug__" : Str)) = false := by decide) (hyd : (yf == ("__debug__" : Str)) = false := by decide) (hyc : (yf == ("__classdict__" : Str)) = false := by decide) (had : (a == ("__debug__" : Str)) = false := by decide) (hac : (a == ("__classdict__" : Str)) = false := by decide) (hbd : (xb == ("__debug__" : Str)) = false := by decide) (hbc : (xb == ("__classdict__" : Str)) = false := by decide)
    (hs : ∀ v, foldedSetIterable (.Name xb pb) X.env v = pure v := by intro _; rfl) (hst : ∀ C cl, starEach [.Name yf pf] (compEnvC scope cl C X.env) = (false, eval (.Name yf pf) (compEnvC scope cl C X.env)) :: starEach [] (compEnvC scope cl C X.env) := by intro _ _; rfl) :
    DTB X T W k i mes (.Compare (.ListComp (.Constant (.int 1) j1 pe) [⟨.Name yf pt, .Name xb pb, [.Compare (.Call (.Name x p) [.Name yf pf] [] pc) [.NotEq] [.Constant (.str (S yl)) jc py] p1], 0⟩] scope p2) [.NotEq] [.List [] p3] pos) (bTest (eBin dNe (eBad j cat ret yl mes) (eLst aNil))) :=
  dtb_cmp (od_ne (hu64 hr)) (pe_bad t hcat calm nd (of_decide_eq_true hl) hr (blkOk_by ok) hg hi hvb hj hv hlo hfn hdb hyd hyc had hac hbd hbc hs hst) (de_lst da_nil)
/-- .. or another thing -/
theorem dtb_or {c c2 : Expr} {es : List Expr} {mt mo : Bv} (hc : DTB X T W k i mes c mt) (ho : DW X T W (.BoolOp .Or (c2 :: es) pos) mo) : DTB X T W k i mes (.BoolOp .Or (c :: c2 :: es) pos) (bOr mt mo) := ⟨(PW.imp (pw_or hc.p ho.p) fun σ H Q ⟨G, ρ, h, re, rh, bd, p⟩ => by
  refine ⟨G, ρ, h, re, rh, bd, ?_⟩
  unfold bOr at p
  cases e1 : mt ρ h with
  | err => rw [e1] at p; exact p.elim
  | exc c h1 => rw [e1] at p; exact p
  | ok x h1 =>
    rw [e1] at p
    intro G1 H1 l1 rh1
    cases x with
    | true => rw [if_pos rfl]; exact p G1 H1 l1 rh1
    | false => rw [if_neg Bool.false_ne_true]; exact ⟨G1, ρ, h1, re.mono l1, rh1, PostB.mono p l1⟩).pt⟩
end
end Sh

set_option Elab.async false
set_option linter.all false
set_option maxRecDepth 100000
set_option maxHeartbeats 4000000
/-! Sh27: data of the module, by a Bool that a head evaluates. -/
namespace Sh
open PySem PySem.Spec PyProof.Rows L2

def zipB (f : D → Value → Bool) : List D → List Value → Bool
  | [], [] => true
  | d :: ds, u :: us => f d u && zipB f ds us
  | _, _ => false
/-- the value u is d, for good -/
def frB (K : PySem.W.Frag) : Nat → D → Value → Bool
  | 0, _, _ => false
  | n + 1, d, u => match d, u with
    | .non, .none => true
    | .bl b, .bool c => b == c
    | .int i, .int j _ => decide (i = j)
    | .str x, .str y _ => decide (S x = y)
    | .tup ds, .ref a => (match K.lookup a with
      | some ⟨.type c, _, .seq its _, _⟩ => decide (c = "tuple") && (decide (its.size ≤ sizeLine) && zipB (frB K n) ds its.toList)
      | _ => false)
    | .fls ds, .ref a => (match K.lookup a with
      | some ⟨.type c, none, .seq its _, _⟩ => decide (c = "list") && (decide (its.size ≤ sizeLine) && zipB (frB K n) ds its.toList)
      | _ => false)
    | _, _ => false
theorem and2 {a b : Bool} (h : (a && b) = true) : a = true ∧ b = true := by simpa using h
theorem zipB_ok {K : PySem.W.Frag} {f : D → Value → Bool} (hf : ∀ d u, f d u = true → ∃ v, RelV v u ∧ ∀ G, RD K G d v) : ∀ (ds : List D) (us : List Value), zipB f ds us = true → ∃ vs, Vals vs us ∧ ∀ G, RDs K G ds vs
  | [], [], _ => ⟨[], .nil, fun _ => .nil⟩
  | d :: ds, u :: us, h => by
    obtain ⟨h1, h2⟩ := and2 h
    obtain ⟨v, r, q⟩ := hf d u h1
    obtain ⟨vs, rs, qs⟩ := zipB_ok hf ds us h2
    exact ⟨v :: vs, .cons r rs, fun G => .cons (q G) (qs G)⟩
  | [], _ :: _, h => by cases h
  | _ :: _, [], h => by cases h
theorem frB_ok {K : PySem.W.Frag} : ∀ (n : Nat) (d : D) (u : Value), frB K n d u = true → ∃ v, RelV v u ∧ ∀ G, RD K G d v
  | 0, _, _, h => by cases h
  | n + 1, d, u, h => by
    unfold frB at h
    split at h
    · exact ⟨.non, rfl, fun _ => .non⟩
    · rename_i b c
      have e : b = c := by simpa using h
      subst e
      exact ⟨.bl b, rfl, fun _ => .bl b⟩
    · rename_i i j t
      have e := of_decide_eq_true h
      subst e
      exact ⟨.int i, ⟨t, rfl⟩, fun _ => .int i⟩
    · rename_i x y t
      have e := of_decide_eq_true h
      subst e
      exact ⟨.str (S x), ⟨t, rfl⟩, fun _ => .str x⟩
    · rename_i ds a
      split at h
      · rename_i c od its m sl q
        obtain ⟨h1, h2⟩ := and2 h
        obtain ⟨h2, h3⟩ := and2 h2
        obtain ⟨vs, r, q2⟩ := zipB_ok (frB_ok n) ds its.toList h3
        refine ⟨.ref a, rfl, fun G => .tup (.inr ⟨_, its, m, q, ?_, rfl, of_decide_eq_true h2, r⟩) (q2 G)⟩
        rw [of_decide_eq_true h1]
      · cases h
    · rename_i ds a
      split at h
      · rename_i c its m sl q
        obtain ⟨h1, h2⟩ := and2 h
        obtain ⟨h2, h3⟩ := and2 h2
        obtain ⟨vs, r, q2⟩ := zipB_ok (frB_ok n) ds its.toList h3
        refine ⟨.ref a, rfl, fun G => .fls (.inr ⟨_, its, m, q, ?_, rfl, rfl, of_decide_eq_true h2, r⟩) (q2 G)⟩
        rw [of_decide_eq_true h1]
      · cases h
    · cases h
/-! ### a dict of the module -/
def entB (K : PySem.W.Frag) (p : List Nat × D) (e : DictEntry) : Bool := (match e.key with
  | .str x _ => decide (S p.1 = x)
  | _ => false) && frB K 6 p.2 e.val
def entsB (K : PySem.W.Frag) : List (List Nat × D) → List DictEntry → Bool
  | [], [] => true
  | p :: ps, e :: es => entB K p e && entsB K ps es
  | _, _ => false
def dcB (K : PySem.W.Frag) (a : Addr) (kvs : List (List Nat × D)) : Bool := match K.lookup a with
  | some ⟨_, _, .dict es _, _⟩ => entsB K kvs es.toList
  | _ => false
theorem ents_ok {K : PySem.W.Frag} {w : World} : ∀ (kvs : List (List Nat × D)) (es : List DictEntry), entsB K kvs es = true → ∃ vs : List (Key × Value), (∀ P : Program, Pairs (mixKind P w) es vs) ∧ vs.map (·.1) = kvs.map (fun p => (.inr (S p.1) : Key)) ∧
    Paired (fun (p : List Nat × D) (q : Key × Value) => q.1 = .inr (S p.1) ∧ ∃ v, RelV v q.2 ∧ ∀ G, RD K G p.2 v) kvs vs
  | [], [], _ => ⟨[], fun _ => .nil, rfl, .nil⟩
  | p :: ps, e :: es, h => by
    obtain ⟨h1, h2⟩ := and2 h
    obtain ⟨vs, a1, a2, a3⟩ := ents_ok ps es h2
    obtain ⟨h3, h4⟩ := and2 h1
    obtain ⟨v, r, q⟩ := frB_ok 6 p.2 e.val h4
    refine ⟨(.inr (S p.1), e.val) :: vs, fun P => .cons ?_ rfl (a1 P), by simp [a2], .cons ⟨rfl, v, r, q⟩ a3⟩
    split at h3
    · rename_i x t ek
      have e2 := of_decide_eq_true h3
      show keyIs (.inr (S p.1)) e.key = true
      rw [ek, ← e2]
      exact keyIs_str _ _
    · cases h3
  | [], _ :: _, h => by cases h
  | _ :: _, [], h => by cases h
theorem ktab_of {K : PySem.W.Frag} {w : World} {a : Addr} {es : Array DictEntry} {n : Nat} {kvs : List (List Nat × D)} (Dk : KDict K w a es n) (h : dcB K a kvs = true) (hl : decide (kvs.length ≤ 1000) = true) (hn : decide ((kvs.map (·.1)).Nodup) = true) : ∃ vs, KTab K w a kvs vs := by
  unfold dcB at h
  rw [Dk.at_] at h
  obtain ⟨vs, a1, a2, a3⟩ := ents_ok (w := w) kvs es.toList h
  have nd : (vs.map (·.1)).Nodup := by
    rw [a2, show (kvs.map fun p => (.inr (S p.1) : Key)) = (kvs.map (·.1)).map fun l => (.inr (S l) : Key) from by rw [List.map_map]; rfl]
    exact List.Pairwise.map _ (fun x y hne z => hne (S_inj (Sum.inr.inj z))) (of_decide_eq_true hn)
  refine ⟨vs, ⟨fun P hh X => ?_, Dk.low, a3, of_decide_eq_true hl⟩⟩
  refine ⟨_, es, n, X _ _ Dk.at_, ⟨rfl, rfl, rfl⟩, rfl, fun e he => ?_, a1 P, nd⟩
  obtain ⟨x, t, ek, eh⟩ := Dk.lit.all e (by simpa using he)
  exact ⟨.inr x, (show keyIs (.inr x) e.key = true from by rw [ek]; exact keyIs_str x t), eh⟩
end Sh

set_option Elab.async false
set_option linter.all false
set_option maxRecDepth 100000
set_option maxHeartbeats 4000000
/-! Sh28: the start of a law's def, its end. -/
namespace Sh
open PySem PySem.Spec PyProof.Rows L2

/-- the ghost at the start: the script stands -/
noncomputable def G0 (H : Hp) (a : Addr) : Gh := ⟨fun b => if b = a then (match H a with
  | some (.tbl _) => none
  | o => o) else none, [], fun _ => none⟩
theorem g0_F {H : Hp} {a b : Addr} {o : HO} (h : (G0 H a).F b = some o) : b = a ∧ H b = some o ∧ ∀ ps, o ≠ .tbl ps := by
  have h : (if b = a then (match H a with
    | some (.tbl _) => none
    | o => o) else none) = some o := h
  split at h
  · rename_i e
    subst e
    refine ⟨rfl, ?_⟩
    split at h
    · cases h
    · rename_i hn
      refine ⟨h, fun ps z => ?_⟩
      subst z
      exact hn ps h
  · cases h
theorem rh_start {K : PySem.W.Frag} {T : Tb} {H : Hp} {a : Addr} (hT : ∀ p ∈ T, H p.1 = some (.tbl #[])) : RH K T (G0 H a) [] H := by
  refine ⟨fun b o e => (g0_F e).2.1, rfl, by show ([] : List Addr).Nodup; exact List.nodup_nil, fun n o a e => by simp at e, fun p hp => ⟨⟨#[], hT p hp, True.intro, fun pos cv hc => ?_⟩, ?_, by show p.1 ∉ ([] : List Addr); simp, rfl⟩, fun b o e => (nomatch e), fun b ps e => (g0_F e).2.2 ps rfl⟩
  · have z : codeAmong pos [] = some cv := hc
    simp [codeAmong] at z
  · cases e : (G0 H a).F p.1 with
    | none => rfl
    | some o =>
      obtain ⟨_, e1, e2⟩ := g0_F e
      rw [hT p hp] at e1
      exact (e2 #[] (Option.some.inj e1).symm).elim
theorem rds_ints {K : PySem.W.Frag} {G : Gh} : ∀ ns : List Int, RDs K G (ns.map D.int) (ns.map V.int)
  | [] => .nil
  | n :: ns => .cons (.int n) (rds_ints ns)
theorem rd_script {K : PySem.W.Frag} {H : Hp} {a : Addr} {ns : List Int} (h : SqL K H a (ns.map V.int)) : RD K (G0 H a) (.fls (ns.map D.int)) (.ref a) := by
  refine .fls ?_ (rds_ints ns)
  have ga : ∀ o, H a = some o → (∀ ps, o ≠ .tbl ps) → (G0 H a).F a = some o := by
    intro o e n
    show (if a = a then (match H a with
      | some (.tbl _) => none
      | o => o) else none) = some o
    rw [if_pos rfl, e]
    cases o with
    | tbl ps => exact (n ps rfl).elim
    | _ => rfl
  rcases h with h | h
  · rcases h with h | ⟨o, h⟩
    · exact .inl (.inl (ga _ h fun ps z => by cases z))
    · exact .inl (.inr ⟨o, ga _ h fun ps z => by cases z⟩)
  · exact .inr h
theorem cx_none {P : Program} {w : World} {H : Hp} {s s' : Shared} {e : Value} (h : L2.CX P w [] H s (fun _ _ _ => False) e s') : False := by
  obtain ⟨_, _, _, _, _, _, _, _, _, _, _, _, z⟩ := h
  exact z
theorem law_atS {l : PySem.W.OpenLaw} {w : World} {K : PySem.W.Frag} {mg : Str → Option Value} {h : Heap} {params : Arguments} {body : List Stmt} {scope : Scope} {N : List Str} {k n : Nat} {m : Sv} {fd : FuncData} {T : Tb} {cs : List (Addr × Addr)} {x : Str}
    (F : FunD K "law" "law" params body scope [] [] (He.ga K "law") fd) (S : FnScope N [x] scope) (hbd : ∀ (kV doc pm : Value) (an : Option Addr) (cdv ct : Value) (us : List Value), us.length = [x].length → bindArgs (PySem.W.fnOf "law" "law" params body scope .none kV doc pm an cdv ct) ⟨us, []⟩ = pure ([x].zip us))
    (he : ∀ p ∈ cs, h.get? p.2 = some { cls := .none, data := .fields #[] }) (ho : ∀ p ∈ cs, K.lookup p.2 = none) (hd : ∀ p ∈ cs, PySem.W.CodeHd h p.1 p.2) (hT : ∀ p ∈ T, ∃ c, (c, p.1) ∈ cs)
    (hb : ∀ base : Heap, K.In base → base.Ns mainGlobals mg → (∀ p ∈ cs, LamX.TabB base mg p.1 p.2) → Body l.prog w K mg base T N "law" scope k body m)
    (plain : ∀ ns : List Int, ns.length ≤ n → (∀ z ∈ ns, Builtin.Int.intBits z ≤ 1048576) → ∃ h', fn N.length m [.fls (ns.map D.int)] [] = .ok (.bl true) h') : LamX.LawAtS l w K (L2.CX l.prog w) (k + 1) n x mg (He.ga K "law") h := by
  refine ⟨fd, cs, spD K T [x].length (fn N.length m), he, ho, hd, fun s u => ?_, fun H a ns hl hz hH hS => ?_, fun base X G TB => fn_okC F S (hb base X G TB)⟩
  · exact F.bindsA (ps := [x]) hbd s [u] rfl
  · obtain ⟨h', e⟩ := plain ns hl hz
    refine ⟨rfl, G0 H a, [], [.fls (ns.map D.int)], rh_start fun p hp => ?_, .cons (rd_script hS) .nil, ?_⟩
    · obtain ⟨c, hc⟩ := hT p hp
      exact hH _ hc
    · rw [e]
      intro G' H' v _ _ rd
      cases rd
      rfl
end Sh

set_option Elab.async false
set_option linter.all false
set_option maxRecDepth 100000
set_option maxHeartbeats 4000000
/-! Sh29: mirrors evaluated: small rewriting steps. -/
namespace Sh
open PySem PySem.Spec PyProof.Rows L2

section
variable {α β : Type} {a : α} {d : D} {h h' : LH} {ρ ρ' : En} {c : Str} {i j : Int} {x y : List Nat} {xs ys : List D} {b e : Bool}
theorem ev_b1 (f : α → LH → Res β) : Res.bind (.ok a h) f = f a h := rfl
theorem ev_b2 (f : α → LH → Res β) : Res.bind (.exc c h) f = .exc c h := rfl
theorem ev_b3 (f : α → LH → Res β) : Res.bind .err f = .err := rfl
theorem ev_l1 : liftO h (some d) = .ok d h := rfl
theorem ev_s1 (f : α → LH → SR) : Res.st (.ok a h) ρ f = f a h := rfl
theorem ev_s2 (f : α → LH → SR) : Res.st (.exc c h) ρ f = .ex c ρ h := rfl
theorem ev_t1 (f : Sv) : SR.then (.nx ρ h) f = f ρ h := rfl
theorem ev_t2 (f : Sv) : SR.then (.rt d h) f = .rt d h := rfl
theorem ev_t3 (f : Sv) : SR.then (.ex c ρ h) f = .ex c ρ h := rfl
theorem ev_ix (l : List (Option D)) (o : Option D) : (o :: l)[0]? = some o := rfl
theorem ev_addI : dAdd (.int i) (.int j) = some (.int (i + j)) := rfl
theorem ev_addS : dAdd (.str x) (.str y) = if fits (x.length + y.length) then some (.str (x ++ y)) else none := rfl
theorem ev_addL : dAdd (.lst xs) (.lst ys) = if fits (xs.length + ys.length) then some (.lst (xs ++ ys)) else none := rfl
theorem ev_iaddI : dIAdd (.int i) (.int j) = some (.int (i + j)) := rfl
theorem ev_sub : dSub (.int i) (.int j) = some (.int (i - j)) := rfl
theorem ev_mulI : dMul (.int i) (.int j) = if mulOk i j then some (.int (i * j)) else none := rfl
theorem ev_mulS : dMul (.str x) (.int i) = if decide (-(2 ^ 63) ≤ i) && decide (i < 2 ^ 63) && fits (x.length * i.toNat) then some (.str (List.replicate i.toNat x).flatten) else none := rfl
theorem ev_neg : dNeg (.int i) = some (.int (-i)) := rfl
theorem ev_eqI : dEq (.int i) (.int j) = some (.bl (i == j)) := rfl
theorem ev_neI : dNe (.int i) (.int j) = some (.bl (!(i == j))) := rfl
theorem ev_eqS : dEq (.str x) (.str y) = some (.bl (x == y)) := rfl
theorem ev_neS : dNe (.str x) (.str y) = some (.bl (!(x == y))) := rfl
theorem ev_eqB : dEq (.bl b) (.bl e) = some (.bl (b == e)) := rfl
theorem ev_neB : dNe (.bl b) (.bl e) = some (.bl (!(b == e))) := rfl
theorem ev_ltI : dLt (.int i) (.int j) = some (.bl (decide (i < j))) := rfl
theorem ev_leI : dLe (.int i) (.int j) = some (.bl (decide (i ≤ j))) := rfl
theorem ev_gtI : dGt (.int i) (.int j) = some (.bl (decide (j < i))) := rfl
theorem ev_geI : dGe (.int i) (.int j) = some (.bl (decide (j ≤ i))) := rfl
theorem ev_ltS : dLt (.str x) (.str y) = some (.bl (decide (x < y))) := rfl
theorem ev_len : bLen [.str x] h = if fits x.length then some (.int x.length, h) else none := rfl
theorem ev_lenL : bLen [.lst xs] h = some (.int xs.length, h) := rfl
theorem ev_lenT : bLen [.tup xs] h = some (.int xs.length, h) := rfl
theorem ev_lenF : bLen [.fls xs] h = some (.int xs.length, h) := rfl
theorem ev_max : bMax [.int i, .int j] h = some (.int (if j > i then j else i), h) := rfl
theorem ev_min : bMin [.int i, .int j] h = some (.int (if j < i then j else i), h) := rfl
theorem ev_int : bInt [.int i] h = some (.int i, h) := rfl
theorem ev_intB : bInt [.bl b] h = some (.int (if b then 1 else 0), h) := rfl
theorem ev_iteT {s t : α} : (if true = true then s else t) = s := rfl
theorem ev_iteF {s t : α} : (if false = true then s else t) = t := rfl
theorem ev_cAll {n : Nat} {f : Fv} {ds : List D} (hl : ds.length = n) : cAll n f ds h = f ds h := by unfold cAll; rw [if_pos hl]
theorem ev_ixL : dIx h (.lst xs) (.int i) = atI xs i := rfl
theorem ev_ixT : dIx h (.tup xs) (.int i) = atI xs i := rfl
theorem ev_ixO {n : Nat} (e : h[n]? = some (.lst xs)) : dIx h (.obj n) (.int i) = atI xs i := by simp only [dIx, e]
theorem ev_at {α : Type} {l : List α} {j : Nat} (hj : j < l.length) : atI l (j : Int) = some l[j] := by
  unfold atI ixN
  rw [if_pos (by omega), if_pos (by omega)]
  simp [hj]
theorem fits_le {n : Nat} (h : n ≤ 16777216) : fits n = true := decide_eq_true h
theorem ev_ixS {j : Nat} (hj : j < x.length) (hl : x.length ≤ 16777216) : dIx h (.str x) (.int (j : Int)) = some (.str [x.getD j 0]) := by
  show (if fits x.length then (atI x j).map fun c => D.str [c] else none) = _
  rw [if_pos (fits_le hl), ev_at hj, List.getD_eq_getElem?_getD, List.getElem?_eq_getElem hj]; rfl
theorem lg_lt {n k : Nat} (h : n < 2 ^ k) (hk : 0 < k) : n.log2 < k := by
  by_cases z : n = 0
  · rw [z]; exact hk
  · exact (Nat.log2_lt z).mpr h
theorem lg_ok {n : Nat} (h : n < 2 ^ 200) : n.log2 < 9000 := Nat.lt_trans (lg_lt h (by decide)) (by decide)
theorem mul_ok (h : i.natAbs < 2 ^ 64 ∨ j.natAbs < 2 ^ 64) : mulOk i j = true := by
  unfold mulOk
  rcases h with h | h
  · rw [decide_eq_true h]; rfl
  · rw [decide_eq_true h]; simp
theorem ev_mod (hj : 0 < j) : dMod (.int i) (.int j) = some (.int (i % j)) := by show (if 0 < j then _ else _) = _; rw [if_pos hj]
theorem ev_div (hj : 0 < j) (hl : j.natAbs < 2 ^ 200) : dDiv (.int i) (.int j) = some (.int (i / j)) := by
  show (if decide (0 < j) && decide (j.natAbs.log2 < 9000) then _ else _) = _
  rw [decide_eq_true hj, decide_eq_true (lg_ok hl)]; rfl
theorem ev_modN {n b : Nat} (hb : 0 < b) : dMod (.int n) (.int b) = some (.int ((n % b : Nat) : Int)) := by rw [ev_mod (by omega)]; rfl
theorem ev_divN {n b : Nat} (hb : 0 < b) (hl : b < 2 ^ 200) : dDiv (.int n) (.int b) = some (.int ((n / b : Nat) : Int)) := by rw [ev_div (by omega) (by simpa using hl)]; rfl
theorem ev_mulN {n b : Nat} (hb : b < 2 ^ 64) : dMul (.int n) (.int b) = some (.int ((n * b : Nat) : Int)) := by
  rw [ev_mulI, mul_ok (.inr (by simpa using hb)), ev_iteT]
  push_cast; rfl
theorem ev_repl {k : Nat} {ch : Nat} (hk : k ≤ 16777216) : dMul (.str [ch]) (.int (k : Int)) = some (.str (List.replicate k ch)) := by
  rw [ev_mulS]
  have e1 : decide (-(2 ^ 63) ≤ (k : Int)) = true := decide_eq_true (by omega)
  have e2 : decide ((k : Int) < 2 ^ 63) = true := decide_eq_true (by omega)
  rw [e1, e2, fits_le (by simpa using hk)]
  simp
theorem ev_repl0 {k : Int} {ch : Nat} (hk : k ≤ 0) (h2 : -(2 ^ 63) ≤ k) : dMul (.str [ch]) (.int k) = some (.str []) := by
  rw [ev_mulS]
  have e0 : k.toNat = 0 := by omega
  have e1 : decide (-(2 ^ 63) ≤ k) = true := decide_eq_true h2
  have e2 : decide (k < 2 ^ 63) = true := decide_eq_true (by omega)
  rw [e1, e2, e0, fits_le (by simp)]
  rfl
end
end Sh

set_option Elab.async false
set_option linter.all false
set_option maxRecDepth 100000
set_option maxHeartbeats 4000000
/-! Sh30: mirrors evaluated statement by statement. -/
namespace Sh
open PySem PySem.Spec PyProof.Rows L2

section
variable {d : D} {h h1 h2 : LH} {ρ ρ1 ρ2 : En} {m n : Sv} {r : SR} {me : Ev} {mi : Iv} {g : Gv} {t : Bv} {ds : List D} {i j l : Nat} {ma : Av} {x y z : D} {c : Str} {F : Nat}
theorem seq_nx (e1 : m ρ h = .nx ρ1 h1) (e2 : n ρ1 h1 = r) : sSeq m n ρ h = r := by unfold sSeq; rw [e1]; exact e2
theorem seq_rt (e1 : m ρ h = .rt d h1) : sSeq m n ρ h = .rt d h1 := by unfold sSeq; rw [e1]; rfl
theorem seq_ex (e1 : m ρ h = .ex c ρ1 h1) : sSeq m n ρ h = .ex c ρ1 h1 := by unfold sSeq; rw [e1]; rfl
theorem fn_rt {k w : Nat} (hl : ds.length = k) (e : m (ds.map some ++ List.replicate (w - ds.length) none) h = .rt d h1) : cAll k (fn w m) ds h = .ok d h1 := by
  unfold cAll fn
  rw [if_pos hl, e]
theorem fn_ex {k w : Nat} (hl : ds.length = k) (e : m (ds.map some ++ List.replicate (w - ds.length) none) h = .ex c ρ h1) : cAll k (fn w m) ds h = .exc c h1 := by
  unfold cAll fn
  rw [if_pos hl, e]
theorem for_of (hi : mi ρ h = .ok ⟨ds, none⟩ h1) (hf : sFor g m ds ρ h1 = r) : sForI mi g m ρ h = r := by unfold sForI; rw [hi]; exact hf
theorem if_no (ht : t ρ h = .ok false h1) (hb : n ρ h1 = r) : sIf t m n ρ h = r := by unfold sIf; rw [ht]; exact hb
theorem if_yes (ht : t ρ h = .ok true h1) (hb : m ρ h1 = r) : sIf t m n ρ h = r := by unfold sIf; rw [ht]; exact hb
theorem asg_nm (he : me ρ h = .ok d h1) : sAsg me (gNm i) ρ h = .nx (ρ.set i (some d)) h1 := by unfold sAsg; rw [he]; rfl
theorem asg_g (he : me ρ h = .ok d h1) (hg : g d ρ h1 = some (ρ2, h2)) : sAsg me g ρ h = .nx ρ2 h2 := by unfold sAsg; rw [he]; simp only [Res.st, hg]
theorem ret_ok (he : me ρ h = .ok d h1) : sRet me ρ h = .rt d h1 := by unfold sRet; rw [he]; rfl
theorem par_ok (he : ma ρ h = .ok [x, y] h1) : sPar i j ma ρ h = .nx ((ρ.set i (some x)).set j (some y)) h1 := by unfold sPar; rw [he]; rfl
theorem par3_ok (he : ma ρ h = .ok [x, y, z] h1) : sPar3 i j l ma ρ h = .nx (((ρ.set i (some x)).set j (some y)).set l (some z)) h1 := by unfold sPar3; rw [he]; rfl
/-! a for's turn -/
theorem for_nil : sFor g m [] ρ h = .nx ρ h := rfl
theorem for_cons (hg : g d ρ h = some (ρ1, h1)) (hm : m ρ1 h1 = .nx ρ2 h2) (ht : sFor g m ds ρ2 h2 = r) : sFor g m (d :: ds) ρ h = r := by
  show (match g d ρ h with
    | some (ρ1, h1) => (match m ρ1 h1 with
      | .nx ρ' h' => sFor g m ds ρ' h'
      | .ct ρ' h' => sFor g m ds ρ' h'
      | .bk ρ' h' => .nx ρ' h'
      | .rt d h' => .rt d h'
      | .ex c ρ' h' => .ex c ρ' h'
      | .er => .er)
    | none => .er) = r
  rw [hg]
  simp only
  rw [hm]
  exact ht
theorem wh_no (ht : t ρ h = .ok false h1) : sWh t m (F + 1) ρ h = .nx ρ h1 := by unfold sWh; rw [ht]; rfl
theorem wh_yes (ht : t ρ h = .ok true h1) (hm : m ρ h1 = .nx ρ2 h2) (hr : sWh t m F ρ2 h2 = r) : sWh t m (F + 1) ρ h = r := by
  unfold sWh
  rw [ht]
  simp only [Res.st, if_true]
  rw [hm]
  exact hr
/-! expressions -/
theorem call_ok {f : List D → LH → Res D} (ha : ma ρ h = .ok ds h1) (hf : f ds h1 = .ok d h2) : eCall f ma ρ h = .ok d h2 := by unfold eCall; rw [ha]; exact hf
theorem cons_ok {b : Av} (h1' : me ρ h = .ok x h1) (h2' : b ρ h1 = .ok ds h2) : aCons me b ρ h = .ok (x :: ds) h2 := by unfold aCons; rw [h1', ev_b1, h2']; rfl
theorem nil_ok : aNil ρ h = .ok [] h := rfl
theorem bin_ok {f : D → D → Option D} {a b : Ev} (ha : a ρ h = .ok x h1) (hb : b ρ h1 = .ok y h2) (hf : f x y = some z) : eBin f a b ρ h = .ok z h2 := by unfold eBin; rw [ha, ev_b1, hb, ev_b1, hf]; rfl
theorem ix_ok {a b : Ev} (ha : a ρ h = .ok x h1) (hb : b ρ h1 = .ok y h2) (hf : dIx h2 x y = some z) : eIx a b ρ h = .ok z h2 := by unfold eIx; rw [ha, ev_b1, hb, ev_b1, hf]; rfl
theorem test_ok {k : Bool} (ha : me ρ h = .ok (.bl k) h1) : bTest me ρ h = .ok k h1 := by unfold bTest; rw [ha]; rfl
theorem or_no {t2 : Bv} {k : Bool} (ha : t ρ h = .ok false h1) (hb : t2 ρ h1 = .ok k h2) : bOr t t2 ρ h = .ok k h2 := by unfold bOr; rw [ha]; exact hb
theorem or_yes {t2 : Bv} (ha : t ρ h = .ok true h1) : bOr t t2 ρ h = .ok true h1 := by unfold bOr; rw [ha]; rfl
theorem and_yes {t2 : Bv} {k : Bool} (ha : t ρ h = .ok true h1) (hb : t2 ρ h1 = .ok k h2) : bAnd t t2 ρ h = .ok k h2 := by unfold bAnd; rw [ha]; exact hb
theorem and_no {t2 : Bv} (ha : t ρ h = .ok false h1) : bAnd t t2 ρ h = .ok false h1 := by unfold bAnd; rw [ha]; rfl
theorem not_ok {k : Bool} (ha : t ρ h = .ok k h1) : bNot t ρ h = .ok (!k) h1 := by unfold bNot; rw [ha]; rfl
theorem var_ok (e : ρ[i]? = some (some d)) : eVar i ρ h = .ok d h := by unfold eVar; rw [e]
theorem eif_yes {a b : Ev} (ht : t ρ h = .ok true h1) (ha : a ρ h1 = .ok d h2) : eIf t a b ρ h = .ok d h2 := by unfold eIf; rw [ht]; exact ha
theorem eif_no {a b : Ev} (ht : t ρ h = .ok false h1) (ha : b ρ h1 = .ok d h2) : eIf t a b ρ h = .ok d h2 := by unfold eIf; rw [ht]; exact ha
theorem aug_ok {f : D → D → Option D} (e : ρ[i]? = some (some x)) (he : me ρ h = .ok y h1) (hf : f x y = some z) : sAug f i me ρ h = .nx (ρ.set i (some z)) h1 := by unfold sAug; rw [e]; simp only [he, Res.st, hf]
theorem lst_ok (ha : ma ρ h = .ok ds h1) (hf : fits ds.length = true) : eLst ma ρ h = .ok (.lst ds) h1 := by unfold eLst; rw [ha, ev_b1, if_pos hf]
theorem tup_ok (ha : ma ρ h = .ok ds h1) (hf : fits ds.length = true) : eTup ma ρ h = .ok (.tup ds) h1 := by unfold eTup; rw [ha, ev_b1, if_pos hf]
theorem res_ok {f : List D → LH → Option (D × LH)} (e : f ds h = some (d, h1)) : bRes f ds h = .ok d h1 := by unfold bRes; rw [e]
theorem chain_ok {f g : D → D → Option D} {a b c : Ev} {h3 : LH} {w : D} (ha : a ρ h = .ok x h1) (hb : b ρ h1 = .ok y h2) (hf : f x y = some (.bl true)) (hc : c ρ h2 = .ok z h3) (hg : g y z = some w) : eChain f g a b c ρ h = .ok w h3 := by
  unfold eChain; rw [ha, ev_b1, hb, ev_b1, hf]; simp only; rw [hc, ev_b1, hg]; rfl
theorem seq_of (ha : me ρ h = .ok (.lst ds) h1) : iSeq me ρ h = .ok ⟨ds, none⟩ h1 := by unfold iSeq; rw [ha]; rfl
theorem seq_ofT (ha : me ρ h = .ok (.tup ds) h1) : iSeq me ρ h = .ok ⟨ds, none⟩ h1 := by unfold iSeq; rw [ha]; rfl
theorem lc_nil {vs : List Nat} {mt : Bv} {acc : List D} : lcGo vs g mt me ρ [] acc h = .ok (.lst acc) h := rfl
theorem lc_cons {vs : List Nat} {mt : Bv} {acc : List D} {h3 h4 : LH} {q : Res D} (hg : g d (wipeD ρ vs) h = some (ρ2, h2)) (ht : mt ρ2 h2 = .ok true h3) (he : me ρ2 h3 = .ok y h4) (hf : fits (acc.length + 1) = true) (hr : lcGo vs g mt me ρ ds (acc ++ [y]) h4 = q) : lcGo vs g mt me ρ (d :: ds) acc h = q := by
  unfold lcGo
  rw [hg]
  simp only
  rw [ht]
  simp only
  rw [he]
  simp only
  rw [if_pos hf]
  exact hr
theorem lc_skip {vs : List Nat} {mt : Bv} {acc : List D} {h3 : LH} {q : Res D} (hg : g d (wipeD ρ vs) h = some (ρ2, h2)) (ht : mt ρ2 h2 = .ok false h3) (hr : lcGo vs g mt me ρ ds acc h3 = q) : lcGo vs g mt me ρ (d :: ds) acc h = q := by
  unfold lcGo
  rw [hg]
  simp only
  rw [ht]
  exact hr
theorem elc_of {vs : List Nat} {mt : Bv} {q : Res D} (hi : mi ρ h = .ok ⟨ds, none⟩ h1) (hr : lcGo vs g mt me ρ ds [] h1 = q) : eLc mi vs g mt me ρ h = q := by unfold eLc; rw [hi]; exact hr
end
end Sh

set_option Elab.async false
set_option linter.all false
set_option maxRecDepth 100000
set_option maxHeartbeats 4000000
/-! Sh31: typed data and ==; loops by what a turn does. -/
namespace Sh
open PySem PySem.Spec PyProof.Rows L2

/-- typed data: what stands for it, and that == tells it -/
class Py (α : Type) [BEq α] where
  e : α → D
  p : α → PyData
  ok : α → Bool
  dep : Nat
  h1 : ∀ a, toPy (e a) = some (p a)
  h2 : ∀ a, ok a = true → (p a).canLay0 = true
  h3 : ∀ a, (p a).depth ≤ dep
  h4 : ∀ a b, PyData.eqv (p a) (p b) = (a == b)
theorem eqB_e {α : Type} [BEq α] [Py α] {a b : α} (oa : Py.ok a = true) (ob : Py.ok b = true) (hd : Py.dep α ≤ 64) : eqB (Py.e a) (Py.e b) = some (a == b) := by
  have ha := Py.h1 a
  have hb := Py.h1 b
  have h4 := Py.h4 a b
  have s1 : SeqAt.shaped (Py.p a) = true := by
    unfold SeqAt.shaped
    rw [Py.h2 a oa, decide_eq_true (Nat.le_trans (Py.h3 a) hd)]; rfl
  have s2 : SeqAt.shaped (Py.p b) = true := by
    unfold SeqAt.shaped
    rw [Py.h2 b ob, decide_eq_true (Nat.le_trans (Py.h3 b) hd)]; rfl
  unfold eqB
  split
  · rename_i i j e1 e2
    rw [e1] at ha; rw [e2] at hb
    have ha := Option.some.inj ha
    have hb := Option.some.inj hb
    rw [← ha, ← hb] at h4
    rw [← h4]; rfl
  · rename_i i j e1 e2
    rw [e1] at ha; rw [e2] at hb
    have ha := Option.some.inj ha
    have hb := Option.some.inj hb
    rw [← ha, ← hb] at h4
    rw [← h4]
    exact congrArg some (S_beq _ _).symm
  · rename_i i j e1 e2
    rw [e1] at ha; rw [e2] at hb
    have ha := Option.some.inj ha
    have hb := Option.some.inj hb
    rw [← ha, ← hb] at h4
    rw [← h4]; rfl
  · rw [ha, hb]
    simp only
    rw [s1, s2, h4]; rfl
theorem dEq_e {α : Type} [BEq α] [Py α] {a b : α} (oa : Py.ok a = true) (ob : Py.ok b = true) (hd : Py.dep α ≤ 64) : dEq (Py.e a) (Py.e b) = some (.bl (a == b)) := by unfold dEq; rw [eqB_e oa ob hd]; rfl
theorem dNe_e {α : Type} [BEq α] [Py α] {a b : α} (oa : Py.ok a = true) (ob : Py.ok b = true) (hd : Py.dep α ≤ 64) : dNe (Py.e a) (Py.e b) = some (.bl (!(a == b))) := by unfold dNe; rw [eqB_e oa ob hd]; rfl
theorem dEq_same {α : Type} [BEq α] [LawfulBEq α] [Py α] {a : α} (oa : Py.ok a = true) (hd : Py.dep α ≤ 64) : dEq (Py.e a) (Py.e a) = some (.bl true) := by rw [dEq_e oa oa hd, beq_self_eq_true]
theorem dNe_same {α : Type} [BEq α] [LawfulBEq α] [Py α] {a : α} (oa : Py.ok a = true) (hd : Py.dep α ≤ 64) : dNe (Py.e a) (Py.e a) = some (.bl false) := by rw [dNe_e oa oa hd, beq_self_eq_true]; rfl
/-- a text -/
structure Tx where
  l : List Nat
  deriving DecidableEq
instance : BEq Tx := ⟨fun a b => a.l == b.l⟩
instance : LawfulBEq Tx where
  rfl {a} := beq_self_eq_true a.l
  eq_of_beq {a b} h := by
    cases a; cases b
    have h : (_ == _) = true := h
    exact congrArg Tx.mk (eq_of_beq h)
theorem Tx.beq (a b : List Nat) : ((⟨a⟩ : Tx) == ⟨b⟩) = (a == b) := rfl
/-- a tuple of the same -/
structure Tu (α : Type) where
  l : List α
  deriving DecidableEq
instance {α : Type} [BEq α] : BEq (Tu α) := ⟨fun a b => a.l == b.l⟩
theorem Tu.beq {α : Type} [BEq α] (a b : List α) : ((⟨a⟩ : Tu α) == ⟨b⟩) = (a == b) := rfl
instance {α : Type} [BEq α] [LawfulBEq α] : LawfulBEq (Tu α) where
  rfl {a} := beq_self_eq_true a.l
  eq_of_beq {a b} h := by cases a; cases b; rw [Tu.beq] at h; rw [eq_of_beq h]
instance : Py Int where
  e i := .int i
  p i := .int i
  ok _ := true
  dep := 0
  h1 _ := rfl
  h2 _ _ := rfl
  h3 _ := Nat.le_refl _
  h4 _ _ := rfl
theorem nat_beq (a b : Nat) : (((a : Nat) : Int) == (b : Int)) = (a == b) := by
  by_cases h : a = b
  · subst h; rw [beq_self_eq_true, beq_self_eq_true]
  · rw [beq_eq_false_iff_ne.mpr h, beq_eq_false_iff_ne.mpr (by omega)]
instance : Py Nat where
  e i := .int i
  p i := .int i
  ok _ := true
  dep := 0
  h1 _ := rfl
  h2 _ _ := rfl
  h3 _ := Nat.le_refl _
  h4 a b := nat_beq a b
instance : Py Bool where
  e i := .bl i
  p i := .bool i
  ok _ := true
  dep := 0
  h1 _ := rfl
  h2 _ _ := rfl
  h3 _ := Nat.le_refl _
  h4 _ _ := rfl
def txOk (l : List Nat) : Bool := l.all (· < 0x110000)
instance : Py Tx where
  e a := .str a.l
  p a := .str (S a.l)
  ok a := txOk a.l
  dep := 0
  h1 _ := rfl
  h2 a h := by
    show PyData.strOk (S a.l) = true
    unfold PyData.strOk
    rw [← Array.all_toList, S_toList]; exact h
  h3 _ := Nat.le_refl _
  h4 a b := by
    cases a; cases b
    rw [Tx.beq]; exact S_beq _ _
section
variable {α β : Type} [BEq α] [BEq β] [Py α] [Py β]
theorem toPys_map : ∀ l : List α, toPys (l.map Py.e) = some (l.map Py.p)
  | [] => rfl
  | a :: r => by
    rw [List.map_cons]
    unfold toPys
    rw [Py.h1 a, toPys_map r]; rfl
theorem layAll_map : ∀ l : List α, l.all Py.ok = true → PyData.canLayAll0 (l.map Py.p) = true
  | [], _ => rfl
  | a :: r, h => by
    rw [List.all_cons, Bool.and_eq_true] at h
    show ((Py.p a).canLay0 && PyData.canLayAll0 (r.map Py.p)) = true
    rw [Py.h2 a h.1, layAll_map r h.2]; rfl
theorem depAll_map : ∀ l : List α, PyData.depthAll (l.map Py.p) ≤ Py.dep α
  | [] => Nat.zero_le _
  | a :: r => Nat.max_le.mpr ⟨Py.h3 a, depAll_map r⟩
theorem eqvAll_map : ∀ a b : List α, PyData.eqvAll (a.map Py.p) (b.map Py.p) = (a == b)
  | [], [] => rfl
  | a :: r, b :: s => by
    show (PyData.eqv (Py.p a) (Py.p b) && PyData.eqvAll (r.map Py.p) (s.map Py.p)) = _
    rw [Py.h4, eqvAll_map r s]; rfl
  | [], _ :: _ => rfl
  | _ :: _, [] => rfl
instance : Py (List α) where
  e a := .lst (a.map Py.e)
  p a := .list (a.map Py.p)
  ok a := a.all Py.ok
  dep := Py.dep α + 1
  h1 a := by show (toPys (a.map Py.e)).map PyData.list = _; rw [toPys_map]; rfl
  h2 a h := by show PyData.canLayAll0 _ = true; exact layAll_map a h
  h3 a := by show PyData.depthAll _ + 1 ≤ _; exact Nat.succ_le_succ (depAll_map a)
  h4 a b := by show PyData.eqvAll _ _ = _; exact eqvAll_map a b
instance : Py (Tu α) where
  e a := .tup (a.l.map Py.e)
  p a := .tuple (a.l.map Py.p)
  ok a := a.l.all Py.ok
  dep := Py.dep α + 1
  h1 a := by show (toPys (a.l.map Py.e)).map PyData.tuple = _; rw [toPys_map]; rfl
  h2 a h := by show PyData.canLayAll0 _ = true; exact layAll_map a.l h
  h3 a := by show PyData.depthAll _ + 1 ≤ _; exact Nat.succ_le_succ (depAll_map a.l)
  h4 a b := by show PyData.eqvAll _ _ = _; exact eqvAll_map a.l b.l
instance : Py (α × β) where
  e a := .tup [Py.e a.1, Py.e a.2]
  p a := .tuple [Py.p a.1, Py.p a.2]
  ok a := Py.ok a.1 && Py.ok a.2
  dep := max (Py.dep α) (Py.dep β) + 1
  h1 a := by
    show (toPys [Py.e a.1, Py.e a.2]).map PyData.tuple = _
    unfold toPys toPys toPys
    rw [Py.h1, Py.h1]; rfl
  h2 a h := by
    rw [Bool.and_eq_true] at h
    show ((Py.p a.1).canLay0 && ((Py.p a.2).canLay0 && true)) = true
    rw [Py.h2 _ h.1, Py.h2 _ h.2]; rfl
  h3 a := by
    show max ((Py.p a.1).depth) (max ((Py.p a.2).depth) 0) + 1 ≤ _
    have h1 := Py.h3 a.1
    have h2 := Py.h3 a.2
    omega
  h4 a b := by
    show (PyData.eqv (Py.p a.1) (Py.p b.1) && (PyData.eqv (Py.p a.2) (Py.p b.2) && true)) = _
    rw [Py.h4, Py.h4, Bool.and_true]; rfl
end
theorem neS_same {x : List Nat} : dNe (.str x) (.str x) = some (.bl false) := by rw [ev_neS, beq_self_eq_true]; rfl
theorem neI_same {x : Int} : dNe (.int x) (.int x) = some (.bl false) := by rw [ev_neI, beq_self_eq_true]; rfl
theorem neB_same {x : Bool} : dNe (.bl x) (.bl x) = some (.bl false) := by rw [ev_neB, beq_self_eq_true]; rfl
/-! ### loops -/
section
variable {α β γ : Type} {g : Gv} {m : Sv} {t : Bv} {me : Ev} {mt : Bv} {mi : Iv} {vs : List Nat} {ρ : En} {h : LH}
/-- a for: what a turn does to what is told by env and H -/
theorem for_ix (toD : α → D) (env : β → γ → En) (H : β → LH) (step : β → α → β) (P : Nat → β → Prop) : ∀ (l : List α) (k : Nat) (b : β) (o : γ),
    (∀ i a b o, l[i]? = some a → P (k + i) b → P (k + i + 1) (step b a) ∧ ∃ ρ1 h1 o', g (toD a) (env b o) (H b) = some (ρ1, h1) ∧ m ρ1 h1 = .nx (env (step b a) o') (H (step b a))) →
    P k b → ∃ o', sFor g m (l.map toD) (env b o) (H b) = .nx (env (l.foldl step b) o') (H (l.foldl step b)) ∧ P (k + l.length) (l.foldl step b)
  | [], k, b, o, _, hp => ⟨o, rfl, hp⟩
  | a :: l, k, b, o, hs, hp => by
    obtain ⟨p1, ρ1, h1, o1, e1, e2⟩ := hs 0 a b o rfl hp
    obtain ⟨o', e3, p3⟩ := for_ix toD env H step P l (k + 1) (step b a) o1 (fun i a' b' o' hi hp' => by
      have q := hs (i + 1) a' b' o' (by simpa using hi) (by rw [show k + (i + 1) = k + 1 + i from by omega]; exact hp')
      rw [show k + (i + 1) + 1 = k + 1 + i + 1 from by omega] at q
      exact q) p1
    refine ⟨o', for_cons e1 e2 e3, ?_⟩
    rw [List.length_cons, show k + (l.length + 1) = k + 1 + l.length from by omega]
    exact p3
/-- a while: f tells its end -/
theorem wh_fn (env : β → En) (H : β → LH) (c : β → Bool) (step f : β → β) (P : β → Prop) (μ : β → Nat)
    (ht : ∀ b, P b → t (env b) (H b) = .ok (c b) (H b)) (hm : ∀ b, P b → c b = true → P (step b) ∧ μ (step b) < μ b ∧ f (step b) = f b ∧ m (env b) (H b) = .nx (env (step b)) (H (step b)))
    (h0 : ∀ b, P b → c b = false → f b = b) : ∀ (F : Nat) (b : β), P b → μ b < F → sWh t m F (env b) (H b) = .nx (env (f b)) (H (f b)) ∧ P (f b)
  | 0, _, _, hf => absurd hf (Nat.not_lt_zero _)
  | F + 1, b, hp, hf => by
    by_cases hc : c b = true
    · obtain ⟨p1, l1, f1, e1⟩ := hm b hp hc
      obtain ⟨e2, p2⟩ := wh_fn env H c step f P μ ht hm h0 F (step b) p1 (by omega)
      rw [f1] at e2 p2
      exact ⟨wh_yes (by rw [ht b hp, hc]) e1 e2, p2⟩
    · have hc : c b = false := by simpa using hc
      rw [h0 b hp hc]
      exact ⟨wh_no (by rw [ht b hp, hc]), hp⟩
theorem lc_map (toD : α → D) (f : α → D) : ∀ (l : List α) (acc : List D), (∀ a ∈ l, ∃ ρ2, g (toD a) (wipeD ρ vs) h = some (ρ2, h) ∧ me ρ2 h = .ok (f a) h) → acc.length + l.length ≤ 16777216 →
    lcGo vs g bYes me ρ (l.map toD) acc h = .ok (.lst (acc ++ l.map f)) h
  | [], acc, _, _ => by rw [List.map_nil, List.map_nil, List.append_nil]; rfl
  | a :: l, acc, hs, hl => by
    obtain ⟨ρ2, e1, e2⟩ := hs a (List.mem_cons_self ..)
    rw [List.length_cons] at hl
    have ih := lc_map toD f l (acc ++ [f a]) (fun b hb => hs b (List.mem_cons_of_mem _ hb)) (by rw [List.length_append, List.length_singleton]; omega)
    rw [List.map_cons, List.map_cons]
    refine lc_cons e1 rfl e2 (fits_le (by omega)) ?_
    rw [ih, List.append_assoc]; rfl
theorem lc_filter (toD : α → D) (c : α → Bool) (f : α → D) : ∀ (l : List α) (acc : List D), (∀ a ∈ l, ∃ ρ2, g (toD a) (wipeD ρ vs) h = some (ρ2, h) ∧ mt ρ2 h = .ok (c a) h ∧ (c a = true → me ρ2 h = .ok (f a) h)) → acc.length + l.length ≤ 16777216 →
    lcGo vs g mt me ρ (l.map toD) acc h = .ok (.lst (acc ++ (l.filter c).map f)) h
  | [], acc, _, _ => by rw [List.map_nil, List.filter_nil, List.map_nil, List.append_nil]; rfl
  | a :: l, acc, hs, hl => by
    obtain ⟨ρ2, e1, e2, e3⟩ := hs a (List.mem_cons_self ..)
    rw [List.length_cons] at hl
    rw [List.map_cons]
    by_cases hc : c a = true
    · have ih := lc_filter toD c f l (acc ++ [f a]) (fun b hb => hs b (List.mem_cons_of_mem _ hb)) (by rw [List.length_append, List.length_singleton]; omega)
      rw [List.filter_cons_of_pos hc, List.map_cons]
      refine lc_cons e1 (by rw [e2, hc]) (e3 hc) (fits_le (by omega)) ?_
      rw [ih, List.append_assoc]; rfl
    · have ih := lc_filter toD c f l acc (fun b hb => hs b (List.mem_cons_of_mem _ hb)) (by omega)
      rw [List.filter_cons_of_neg hc]
      exact lc_skip e1 (by rw [e2]; simpa using hc) ih
/-- a generator expression's results -/
theorem gx_cons {d y : D} {ds : List D} {ρ2 : En} {h2 h3 h4 : LH} (hg : g d (wipeD ρ vs) h = some (ρ2, h2)) (ht : mt ρ2 h2 = .ok true h3) (he : me ρ2 h3 = .ok y h4) : gxTr vs g mt me ρ (d :: ds) h = .yld y h4 (gxTr vs g mt me ρ ds h4) := by
  show (match g d (wipeD ρ vs) h with
    | some (ρ2, h2) => (match mt ρ2 h2 with
      | .ok true h3 => (match me ρ2 h3 with
        | .ok y h4 => Tr.yld y h4 (gxTr vs g mt me ρ ds h4)
        | _ => .err)
      | .ok false h3 => gxTr vs g mt me ρ ds h3
      | _ => .err)
    | none => .err) = _
  rw [hg]; simp only; rw [ht]; simp only; rw [he]
theorem gx_skip {d : D} {ds : List D} {ρ2 : En} {h2 h3 : LH} (hg : g d (wipeD ρ vs) h = some (ρ2, h2)) (ht : mt ρ2 h2 = .ok false h3) : gxTr vs g mt me ρ (d :: ds) h = gxTr vs g mt me ρ ds h3 := by
  show (match g d (wipeD ρ vs) h with
    | some (ρ2, h2) => (match mt ρ2 h2 with
      | .ok true h3 => (match me ρ2 h3 with
        | .ok y h4 => Tr.yld y h4 (gxTr vs g mt me ρ ds h4)
        | _ => .err)
      | .ok false h3 => gxTr vs g mt me ρ ds h3
      | _ => .err)
    | none => .err) = _
  rw [hg]; simp only; rw [ht]
theorem gx_any (toD : α → D) (c : α → Bool) : ∀ (l : List α), (∀ a ∈ l, ∃ ρ2, g (toD a) (wipeD ρ vs) h = some (ρ2, h) ∧ me ρ2 h = .ok (.bl (c a)) h) →
    tAnyR (gxTr vs g bYes me ρ (l.map toD) h) = .ok (.bl (l.any c)) h
  | [], _ => rfl
  | a :: l, hs => by
    obtain ⟨ρ2, e1, e2⟩ := hs a (List.mem_cons_self ..)
    have ih := gx_any toD c l fun b hb => hs b (List.mem_cons_of_mem _ hb)
    rw [List.map_cons, gx_cons e1 rfl e2, List.any_cons]
    by_cases hc : c a = true
    · rw [hc]; rfl
    · have hc : c a = false := by simpa using hc
      rw [hc, Bool.false_or]; exact ih
theorem gx_all (toD : α → D) (c : α → Bool) : ∀ (l : List α), (∀ a ∈ l, ∃ ρ2, g (toD a) (wipeD ρ vs) h = some (ρ2, h) ∧ me ρ2 h = .ok (.bl (c a)) h) →
    tAllR (gxTr vs g bYes me ρ (l.map toD) h) = .ok (.bl (l.all c)) h
  | [], _ => rfl
  | a :: l, hs => by
    obtain ⟨ρ2, e1, e2⟩ := hs a (List.mem_cons_self ..)
    have ih := gx_all toD c l fun b hb => hs b (List.mem_cons_of_mem _ hb)
    rw [List.map_cons, gx_cons e1 rfl e2, List.all_cons]
    by_cases hc : c a = true
    · rw [hc, Bool.true_and]; exact ih
    · have hc : c a = false := by simpa using hc
      rw [hc]; rfl
theorem gx_of {f : Tr → Res D} {q : Res D} {ds : List D} {h1 : LH} (hi : mi ρ h = .ok ⟨ds, none⟩ h1) (hr : f (gxTr vs g mt me ρ ds h1) = q) : eGx f mi vs g mt me ρ h = q := by unfold eGx; rw [hi]; exact hr
end
/-! ### ends that are wanted -/
/-- goes on, with a heap as P tells -/
def Goes (P : LH → Prop) (r : SR) : Prop := ∃ ρ h, r = .nx ρ h ∧ P h
section
variable {P : LH → Prop} {m n : Sv} {ρ ρ1 : En} {h h1 : LH} {t : Bv}
theorem fin_seq (e1 : m ρ h = .nx ρ1 h1) (e2 : Goes P (n ρ1 h1)) : Goes P (sSeq m n ρ h) := by unfold sSeq; rw [e1]; exact e2
theorem fin_end (e1 : m ρ h = .nx ρ1 h1) (e2 : P h1) : Goes P (m ρ h) := ⟨_, _, e1, e2⟩
theorem fin_seqs (e1 : Goes P (m ρ h)) (e2 : ∀ ρ1 h1, P h1 → Goes P (n ρ1 h1)) : Goes P (sSeq m n ρ h) := by
  obtain ⟨ρ1, h1, e, p⟩ := e1
  exact fin_seq e (e2 _ _ p)
end
end Sh

set_option Elab.async false
set_option linter.all false
set_option maxRecDepth 100000
set_option maxHeartbeats 4000000
/-! Sh32: more mirrors evaluated. -/
namespace Sh
open PySem PySem.Spec PyProof.Rows L2
section
variable {d : D} {h h1 h2 h3 h4 : LH} {ρ ρ1 ρ2 : En} {m n : Sv} {r : SR} {me mo mk mx : Ev} {mi : Iv} {g : Gv} {t : Bv} {ds es : List D} {i j l : Nat} {ma : Av} {x y z w : D} {c : Str} {F : Nat}
theorem mt_ok {ty : String} {f : Mf} (ho : mo ρ h = .ok x h1) (hy : tyD ty x h1 = true) (ha : ma ρ h1 = .ok ds h2) (hf : f x ds h2 = some (d, h3)) : eMt ty f mo ma ρ h = .ok d h3 := by
  unfold eMt
  rw [ho, ev_b1]
  simp only [hy, if_true]
  rw [ha, ev_b1, hf]
theorem mtS0_ok {f : List Nat → Option D} {a : List Nat} (ho : mo ρ h = .ok (.str a) h1) (hf : f a = some d) : eMt "str" (mS0 f) mo aNil ρ h = .ok d h1 := mt_ok ho rfl nil_ok (by simp only [mS0, hf, Option.map_some])
theorem mtS1_ok {f : List Nat → List Nat → Option D} {a b : List Nat} (ho : mo ρ h = .ok (.str a) h1) (ha : ma ρ h1 = .ok [.str b] h2) (hf : f a b = some d) : eMt "str" (mS1 f) mo ma ρ h = .ok d h2 := mt_ok ho rfl ha (by simp only [mS1, hf, Option.map_some])
theorem inR_of {i : Int} (h1 : -1000000000000000000 ≤ i) (h2 : i ≤ 1000000000000000000) : inR i = true := by
  unfold inR
  rw [decide_eq_true (show (-4611686018427387904 : Int) ≤ i by omega), decide_eq_true (show i < (4611686018427387904 : Int) by omega)]; rfl
theorem rng1_ok {i : Int} (ha : ma ρ h = .ok [.int i] h1) (h0 : -1000000000000000000 ≤ i) (hi : i ≤ 1000000000000000000) : Sh.iRng1 ma ρ h = .ok ⟨rngD 0 i.toNat, none⟩ h1 := by
  unfold Sh.iRng1
  rw [ha, ev_b1]
  simp only
  rw [if_pos (inR_of h0 hi)]
theorem rng1N_ok {j : Nat} (ha : ma ρ h = .ok [.int (j : Int)] h1) (hi : j ≤ 1000000000000000000) : Sh.iRng1 ma ρ h = .ok ⟨rngD 0 j, none⟩ h1 := rng1_ok ha (by omega) (by omega)
theorem rng2_ok {i j : Int} (ha : ma ρ h = .ok [.int i, .int j] h1) (h0 : -1000000000000000000 ≤ i) (hi : i ≤ 1000000000000000000) (h2 : -1000000000000000000 ≤ j) (hj : j ≤ 1000000000000000000) : Sh.iRng2 ma ρ h = .ok ⟨rngD i (j - i).toNat, none⟩ h1 := by
  unfold Sh.iRng2
  rw [ha, ev_b1]
  simp only
  rw [inR_of h0 hi, inR_of h2 hj]; rfl
/-- a tuple is no text -/
theorem eqB_tup_str {α : Type} [BEq α] [Py α] {xs : List D} {x : List Nat} (a : α) (e : Py.e a = .tup xs) (ok : Py.ok a = true) (hd : Py.dep α ≤ 64) (hx : txOk x = true) : eqB (.tup xs) (.str x) = some false := by
  have h1 := Py.h1 a
  rw [e] at h1
  have s1 : SeqAt.shaped (Py.p a) = true := by
    unfold SeqAt.shaped
    rw [Py.h2 a ok, decide_eq_true (Nat.le_trans (Py.h3 a) hd)]; rfl
  have s2 : SeqAt.shaped (PyData.str (S x)) = true := by
    unfold SeqAt.shaped
    rw [show (PyData.str (S x)).canLay0 = true from Py.h2 (⟨x⟩ : Tx) hx]; rfl
  have e2 : toPy (D.str x) = some (PyData.str (S x)) := rfl
  show (match toPy (.tup xs), toPy (.str x) with
    | some p, some q => if SeqAt.shaped p && SeqAt.shaped q then some (PyData.eqv p q) else none
    | _, _ => none) = _
  rw [h1, e2]
  simp only
  rw [s1, s2]
  have h3 : toPy (.tup xs) = (toPys xs).map PyData.tuple := rfl
  rw [h3] at h1
  cases q : toPys xs with
  | none => rw [q] at h1; cases h1
  | some ps =>
    rw [q] at h1
    have h4 := Option.some.inj h1
    rw [← h4]
    simp [PyData.eqv]
theorem neTS {α : Type} [BEq α] [Py α] {xs : List D} {x : List Nat} (a : α) (e : Py.e a = .tup xs) (ok : Py.ok a = true) (hd : Py.dep α ≤ 64) (hx : txOk x = true) : dNe (.tup xs) (.str x) = some (.bl true) := by unfold dNe; rw [eqB_tup_str a e ok hd hx]; rfl
end
end Sh

set_option Elab.async false
set_option linter.all false
set_option maxRecDepth 100000
set_option maxHeartbeats 4000000
/-! Sh33: zip and enumerate over texts, lists, tuples. -/
namespace Sh
open PySem PySem.Spec PyProof.Rows L2

/-- what is walked -/
inductive Sr where
  | txt (x : Str) | lst (a : Addr) | tup (a : Addr)
def Sr.v : Sr → V
  | .txt x => .str x
  | .lst a => .ref a
  | .tup a => .ref a
def Sr.adr : Sr → List Addr
  | .txt _ => []
  | .lst a => [a]
  | .tup a => [a]
def signsV (x : Str) : List V := x.cps.toList.map fun c => V.str ⟨#[c]⟩
def Sr.here (K : PySem.W.Frag) (H : Hp) : Sr → List V → Prop
  | .txt x, vs => vs = signsV x
  | .lst a, vs => SqL K H a vs
  | .tup a, vs => SqT K H a vs
def Sr.it (it : Addr) (i : Nat) (h : Heap) : Sr → Prop
  | .txt x => ∃ t, h.IsStrIter it (strIterType x) x t i
  | .lst a => h.IsListIter it a i
  | .tup a => h.IsTupleIter it a i
theorem Sr.live {p : Sr} {it : Addr} {i : Nat} {h : Heap} (q : p.it it i h) : ∃ o, h.get? it = some o ∧ ∀ v, o.data ≠ .cell v := by
  cases p with
  | txt x => obtain ⟨t, o, e, c, d⟩ := q; exact ⟨o, e, fun v z => by rw [d] at z; cases z⟩
  | lst a => obtain ⟨o, e, c, d⟩ := q; exact ⟨o, e, fun v z => by rw [d] at z; cases z⟩
  | tup a => obtain ⟨o, e, c, d⟩ := q; exact ⟨o, e, fun v z => by rw [d] at z; cases z⟩
theorem Sr.it_keep {p : Sr} {it : Addr} {i : Nat} {h h' : Heap} (q : p.it it i h) (k : ∀ o, h.get? it = some o → h'.get? it = some o) : p.it it i h' := by
  cases p with
  | txt x => obtain ⟨t, o, e, r⟩ := q; exact ⟨t, o, k o e, r⟩
  | lst a => obtain ⟨o, e, r⟩ := q; exact ⟨o, k o e, r⟩
  | tup a => obtain ⟨o, e, r⟩ := q; exact ⟨o, k o e, r⟩
theorem Sr.inj {X : Cx} {pins : List (Addr × Obj)} {σ : L2.St} {H : Hp} {s : Shared} (I : Inv X pins σ H s) {p : Sr} {xs ys : List V} (a : p.here X.K H xs) (b : p.here X.K H ys) : xs = ys := by
  cases p with
  | txt x => exact a.trans b.symm
  | lst l => exact I.list_inj a b
  | tup l => exact I.tuple_inj a b
theorem Sr.draws {X : Cx} {pins : List (Addr × Obj)} {σ : L2.St} {H : Hp} {s : Shared} (I : Inv X pins σ H s) {p : Sr} {vs : List V} (q : p.here X.K H vs) {A : Around} (hA : A.handled = none) {it : Addr} (hne : it ∉ p.adr) {i : Nat} (hi : p.it it i s.heap) :
    ∃ P St, Draws X.prog X.w A it (it :: p.adr) vs.length P St ∧ St i s.heap ∧ (∀ i h, St i h → p.it it i h) ∧ ∀ i v, P i v → ∃ x, vs[i]? = some x ∧ RelV x v := by
  cases p with
  | txt x =>
    obtain ⟨t, hi⟩ := hi
    have q : vs = signsV x := q
    subst q
    have D := Draws.text (prog := X.prog) (w := X.w) hA it x t
    have e : (signsV x).length = x.cps.size := by simp [signsV]
    refine ⟨_, _, e ▸ D, hi, fun i h st => ⟨t, st⟩, fun i v ⟨c, u, e1, e2⟩ => ⟨.str ⟨#[c]⟩, ?_, by rw [e2]; exact ⟨u, rfl⟩⟩⟩
    unfold signsV
    rw [List.getElem?_map, Array.getElem?_toList, e1]; rfl
  | lst a =>
    obtain ⟨its, rv, p, hz⟩ := I.list q
    have hne' : a ≠ it := fun e => hne (by rw [e]; exact List.mem_singleton.mpr rfl)
    have D := Draws.list (prog := X.prog) (w := X.w) hA it a hne' its.toArray
    have e : vs.length = its.toArray.size := by rw [rv.length]; simp
    refine ⟨_, _, e ▸ D, ⟨hi, p.isList⟩, fun i h st => st.1, fun i v e1 => ?_⟩
    have e1 : its[i]? = some v := by simpa using e1
    have hl : i < vs.length := by rw [rv.length]; exact (List.getElem?_eq_some_iff.mp e1).1
    obtain ⟨u, hu, ru⟩ := rv.get (List.getElem?_eq_getElem hl)
    rw [e1] at hu; cases hu
    exact ⟨_, List.getElem?_eq_getElem hl, ru⟩
  | tup a =>
    obtain ⟨its, rv, p, hz⟩ := I.tuple q
    have hne' : a ≠ it := fun e => hne (by rw [e]; exact List.mem_singleton.mpr rfl)
    have D := Draws.tuple (prog := X.prog) (w := X.w) hA it a hne' its.toArray
    have e : vs.length = its.toArray.size := by rw [rv.length]; simp
    refine ⟨_, _, e ▸ D, ⟨hi, p⟩, fun i h st => st.1, fun i v e1 => ?_⟩
    have e1 : its[i]? = some v := by simpa using e1
    have hl : i < vs.length := by rw [rv.length]; exact (List.getElem?_eq_some_iff.mp e1).1
    obtain ⟨u, hu, ru⟩ := rv.get (List.getElem?_eq_getElem hl)
    rw [e1] at hu; cases hu
    exact ⟨_, List.getElem?_eq_getElem hl, ru⟩
/-- an iterator that hands out tuples -/
theorem turn_wt {P : Program} {w : World} {K : PySem.W.Frag} {elts : List Expr} {kk : Nat} {tpos : Pos} {J : It} {I0 : Addr} {wr fpT : List Addr} {tn : Nat → Heap → Prop} (hm : I0 ∈ fpT) (hsub : ∀ b ∈ wr, b ∈ fpT)
    (hobj : ∀ i h, tn i h → ∀ b ∈ fpT, ∃ o, h.get? b = some o ∧ ∀ v, o.data ≠ .cell v)
    (hkeep : ∀ i h h', tn i h → (∀ b ∈ fpT, ∀ o, h.get? b = some o → h'.get? b = some o) → tn i h')
    (hself : ∀ (A : Around) (i : Nat) (s : Shared) (Q E : Value → Shared → Prop), tn i s.heap → Q (.ref I0) s → wpAny (model P w) A (pyIter (.ref I0)) Q E s)
    (W : ∀ (X : Cx), X.prog = P → X.w = w → X.K = K → X.calm = true → ∀ (i : Nat) (pins : List (Addr × Obj)) (s : Shared) (σ : L2.St) (H : Hp), Inv X pins σ H s → (∀ b ∈ fpT, FpOk X pins H b) → tn i s.heap → (J.go i H ∨ J.stop i H) →
      ∃ fp n Pt St Mid, WalksT P w X.A I0 fp wr n Pt St Mid ∧ St i s.heap ∧ (J.go i H → i < n) ∧ (J.stop i H → i = n) ∧ (∀ h, i < n → St (i + 1) h → tn (i + 1) h) ∧
        ∀ vals : Array Value, i < n → Pt i vals → ∃ xs, Vals xs vals.toList ∧ xs.length ≤ sizeLine ∧ ∀ T, H T = none → J.yld i H (.ref T) (upd H T (.tup xs))) :
    Turn P w K (.Tuple elts kk tpos) J fpT I0 tn where
  mem := hm
  obj := hobj
  keep := hkeep
  item := by
    intro X hP hw hK hc i pins s σ H E I hf st hg
    obtain ⟨fp, n, Pt, St, Mid, Wt, h0, h1, h2, h3, h4⟩ := W X hP hw hK hc i pins s σ H I hf st (.inl hg)
    have hlt := h1 hg
    refine Wt.item i s _ _ hlt h0 fun T vals h' tk hPt hT htup hmid hk => ⟨_, rfl, ?_⟩
    have hTw := Wt.apart i T h' hmid
    refine Wt.go elts kk tpos i T { s with heap := h', toks := tk } _ _ hmid fun h'' hst hk' => ?_
    obtain ⟨xs, rv, hz, hy⟩ := h4 vals hlt hPt
    have hTn : H T = none := I.hok.fresh hT
    have tup2 : h''.IsTuple T vals := htup.at fun o e => hk' T o hTw e
    subst hP hw
    have new : ObjOk X.prog X.w (upd H T (.tup xs)) h'' T (.tup xs) := ⟨hz, vals.toList, rv, by rw [Array.toArray_toList]; exact tup2⟩
    have I1 : Inv X pins σ (upd H T (.tup xs)) { s with heap := h'', toks := tk } := I.turnedNew (t' := tk) (ch := wr) (fun b o hb e => hk' b o hb (hk b o hb e)) (fun b hb => hf b (hsub b hb)) hT new
    exact ⟨.ref T, _, I1, rfl, hy T hTn, h3 h'' hlt hst, fun b hb => by
      obtain ⟨o, ho, _⟩ := hobj i s.heap st b hb
      rw [upd_ne (Nat.ne_of_lt (Nat.lt_of_lt_of_le (Heap.lt_size ho) hT))]; exact (hf b hb).1⟩
  done := by
    intro X hP hw hK hc i pins s σ H E I hf st hg
    obtain ⟨fp, n, Pt, St, Mid, Wt, h0, h1, h2, h3, h4⟩ := W X hP hw hK hc i pins s σ H I hf st (.inr hg)
    have he := h2 hg
    subst he
    exact Wt.done s _ _ h0 fun h' tk hk => ⟨rfl, I.turnedL (t' := tk) (ch := wr) hk fun b hb => hf b (hsub b hb)⟩
  self := fun A i s Q E st h => hself A i s Q E st h
/-! ### enumerate -/
def ItE (K : PySem.W.Frag) (p : Sr) (N : Nat) : It :=
  ⟨fun i H => i < N ∧ ∃ vs, p.here K H vs ∧ vs.length = N, fun i H v H' => ∃ T x, v = .ref T ∧ H T = none ∧ H' = upd H T (.tup [.int (i : Nat), x]) ∧ ∀ vs, p.here K H vs → vs[i]? = some x, fun i H => N ≤ i ∧ ∃ vs, p.here K H vs ∧ vs.length = N⟩
theorem turn_enumS {P : Program} {w : World} {K : PySem.W.Frag} {elts : List Expr} {kk : Nat} {tpos : Pos} {p : Sr} {N : Nat} {e it : Addr} (hei : e ≠ it) (he : e ∉ p.adr) (hi : it ∉ p.adr) :
    Turn P w K (.Tuple elts kk tpos) (ItE K p N) [e, it] e (fun i h => (∃ old, IsEnum h e it ((i : Nat) : Int) old) ∧ p.it it i h ∧ i ≤ N) :=
  turn_wt (by simp) (fun _ h => h)
    (fun i h st b hb => by
      obtain ⟨⟨old, h1⟩, h2, _⟩ := st
      have e' : b = e ∨ b = it := by simpa using hb
      rcases e' with z | z
      · rw [z]; exact ⟨_, h1, fun v q => nomatch q⟩
      · rw [z]; exact Sr.live h2)
    (fun i h h' st k => by
      obtain ⟨⟨old, h1⟩, h2, h3⟩ := st
      exact ⟨⟨old, k e (by simp) _ h1⟩, Sr.it_keep h2 (k it (by simp)), h3⟩)
    (fun A i s Q E st h => let ⟨⟨_, h1⟩, _⟩ := st; wpAny_pyIter_enum h1 h)
    (fun X hP hw hK hc i pins s σ H I hf st hg => by
      subst hP hw hK
      obtain ⟨⟨old, h1⟩, h2, h3⟩ := st
      have q : ∃ vs, p.here X.K H vs ∧ vs.length = N := by rcases hg with g | g <;> exact g.2
      obtain ⟨vs, hv, hl⟩ := q
      have hA : X.A.in1.handled = none := I.ok.hd hc
      obtain ⟨Pd, St, D, st0, stI, hP⟩ := Sr.draws I hv hA hi h2
      rw [hl] at D
      refine ⟨_, _, _, _, _, WalksT.enumerateD D e hei (by
        intro hm
        rcases List.mem_cons.mp hm with z | z
        · exact hei z
        · exact he z) (by simp), ⟨⟨old, h1⟩, st0⟩, fun g => g.1, fun g => Nat.le_antisymm h3 g.1, fun h hlt st => ⟨st.1, stI _ _ st.2, hlt⟩, fun vals hlt hPt => ?_⟩
      obtain ⟨t, x, hx, rfl⟩ := hPt
      obtain ⟨y, ey, ry⟩ := hP i x hx
      exact ⟨[.int (i : Nat), y], .cons ⟨_, rfl⟩ (.cons ry .nil), by show 2 ≤ sizeLine; decide, fun T hT => ⟨T, y, rfl, hT, rfl, fun ws hw => by rw [Sr.inj I hw hv]; exact ey⟩⟩)
/-! ### zip -/
def ItZ (K : PySem.W.Frag) (p q : Sr) (N M : Nat) : It :=
  ⟨fun i H => (i < N ∧ i < M) ∧ ∃ vs ws, p.here K H vs ∧ q.here K H ws ∧ vs.length = N ∧ ws.length = M,
    fun i H v H' => ∃ T x y, v = .ref T ∧ H T = none ∧ H' = upd H T (.tup [x, y]) ∧ (∀ vs, p.here K H vs → vs[i]? = some x) ∧ ∀ ws, q.here K H ws → ws[i]? = some y,
    fun i H => min N M ≤ i ∧ ∃ vs ws, p.here K H vs ∧ q.here K H ws ∧ vs.length = N ∧ ws.length = M⟩
theorem turn_zipS {P : Program} {w : World} {K : PySem.W.Frag} {elts : List Expr} {kk : Nat} {tpos : Pos} {p q : Sr} {N M : Nat} {z TI TO i1 i2 : Addr} (S : ZipSep2 z TI TO i1 i2 (i1 :: p.adr) (i2 :: q.adr)) (n1 : i1 ∉ p.adr) (n2 : i2 ∉ q.adr) :
    Turn P w K (.Tuple elts kk tpos) (ItZ K p q N M) [z, TO, i1, i2, TI] z (fun i h => IsZip h z TI TO .none ∧ IsTupOf2 h TI (.ref i1) (.ref i2) ∧ (∃ a1 a2, IsTupOf2 h TO a1 a2) ∧ p.it i1 i h ∧ q.it i2 i h ∧ i ≤ min N M) := by
  refine turn_wt (wr := [z, TO, i1, i2]) (by simp) (fun b hb => by simp at hb ⊢; rcases hb with h | h | h | h <;> simp [h])
    (fun i h st b hb => by
      obtain ⟨h1, h2, ⟨a1, a2, h3⟩, h4, h5, _⟩ := st
      have e' : b = z ∨ b = TO ∨ b = i1 ∨ b = i2 ∨ b = TI := by simpa using hb
      rcases e' with e | e | e | e | e
      · rw [e]; exact ⟨_, h1, fun v q => nomatch q⟩
      · rw [e]; exact ⟨_, h3, fun v q => nomatch q⟩
      · rw [e]; exact Sr.live h4
      · rw [e]; exact Sr.live h5
      · rw [e]; exact ⟨_, h2, fun v q => nomatch q⟩)
    (fun i h h' st k => by
      obtain ⟨h1, h2, ⟨a1, a2, h3⟩, h4, h5, h6⟩ := st
      exact ⟨k z (by simp) _ h1, k TI (by simp) _ h2, ⟨a1, a2, k TO (by simp) _ h3⟩, Sr.it_keep h4 (k i1 (by simp)), Sr.it_keep h5 (k i2 (by simp)), h6⟩)
    (fun A i s Q E st h => wpAny_pyIter_zip st.1 h)
    (fun X hP hw hK hc i pins s σ H I hf st hg => by
      subst hP hw hK
      obtain ⟨h1, h2, h3, h4, h5, h6⟩ := st
      have e : ∃ vs ws, p.here X.K H vs ∧ q.here X.K H ws ∧ vs.length = N ∧ ws.length = M := by rcases hg with g | g <;> exact g.2
      obtain ⟨vs, ws, hv, hw, hl, hl2⟩ := e
      have hA : X.A.in1.handled = none := I.ok.hd hc
      obtain ⟨P1, St1, D1, st1, sI1, hP1⟩ := Sr.draws I hv hA n1 h4
      obtain ⟨P2, St2, D2, st2, sI2, hP2⟩ := Sr.draws I hw hA n2 h5
      rw [hl] at D1
      rw [hl2] at D2
      refine ⟨_, _, _, _, _, WalksT.zipD2 S D1 D2, ⟨h1, h2, h3, st1, st2⟩, fun g => by have := g.1; omega, fun g => Nat.le_antisymm h6 g.1, fun h hlt st => ⟨st.1, st.2.1, st.2.2.1, sI1 _ _ st.2.2.2.1, sI2 _ _ st.2.2.2.2, hlt⟩, fun vals hlt hPt => ?_⟩
      obtain ⟨x, y, hx, hy, rfl⟩ := hPt
      obtain ⟨u, eu, ru⟩ := hP1 i x hx
      obtain ⟨v, ev, rv⟩ := hP2 i y hy
      exact ⟨[u, v], .cons ru (.cons rv .nil), by show 2 ≤ sizeLine; decide, fun T hT => ⟨T, u, v, rfl, hT, rfl, fun ws' hw' => by rw [Sr.inj I hw' hv]; exact eu, fun ws' hw' => by rw [Sr.inj I hw' hw]; exact ev⟩⟩)
/-! ### their beginnings -/
theorem Sr.begins {X : Cx} {pins : List (Addr × Obj)} {σ : L2.St} {H : Hp} {s : Shared} (I : Inv X pins σ H s) {p : Sr} {vs : List V} (q : p.here X.K H vs) {u : Value} (r : RelV p.v u) :
    ∃ o Hb, Begins u o Hb ∧ Hb s.heap ∧ (∀ b ∈ p.adr, b < s.heap.objs.size) ∧ ∀ (it : Addr) (h : Heap), h.get? it = some o → p.it it 0 h := by
  cases p with
  | txt x =>
    obtain ⟨t, rfl⟩ := r
    exact ⟨_, _, begins_text x t, trivial, (fun b hb => nomatch hb), fun it h e => ⟨t, _, e, rfl, rfl⟩⟩
  | lst a =>
    obtain rfl : u = .ref a := r
    obtain ⟨its, rv, p, hz⟩ := I.list q
    exact ⟨_, _, begins_list a its.toArray, p.isList, (fun b hb => by rw [List.mem_singleton.mp hb]; exact p.lt), fun it h e => ⟨_, e, rfl, rfl⟩⟩
  | tup a =>
    obtain rfl : u = .ref a := r
    obtain ⟨its, rv, p, hz⟩ := I.tuple q
    exact ⟨_, _, begins_tuple a its.toArray, p, (fun b hb => by
      rw [List.mem_singleton.mp hb]
      obtain ⟨o, e, _⟩ := p
      exact Heap.lt_size e), fun it h e => ⟨_, e, rfl, rfl⟩⟩
set_option maxHeartbeats 1000000 in
theorem meets_enum1 {v : Value} {o : Obj} {H : Heap → Prop} (B : Begins v o H) :
    Meets (Builtin.«enumerate.__new__» ⟨[.type "enumerate", v], []⟩) (fun _ R s => H s.heap ∧
      R (.ok (.ret (.ref (s.heap.push o).objs.size))) { s with heap := (s.heap.push o).push { cls := .type "enumerate", data := .fields #[.none, .bool false, .ref s.heap.objs.size, rawInt 0, .none, .none] } }) :=
  .of_wp fun prog w A R s h => by
    obtain ⟨hp, g, d, tk, os⟩ := s; obtain ⟨h1, h⟩ := h
    have hsub := sub_enumerate
    have q1 : ∀ {A' : Around} {E : Value → Shared → Prop} {Q : Value → Shared → Prop}, Q (.ref hp.objs.size) ⟨hp.push o, g, d, tk, os⟩ → wpAny (model prog w) A' (pyIter v) Q E ⟨hp, g, d, tk, os⟩ :=
      fun q => B.iter prog w _ _ ⟨hp, g, d, tk, os⟩ _ h1 q
    wp_walk using q1
    refine wpAny_stack_any fun st => wpAny_pure ?_
    split
    · rename_i c _ _ _ _ _
      cases (c == Value.type "enumerate")
      · wp_walk using q1
        exact ⟨_, rfl, h⟩
      · wp_walk using q1
        exact ⟨_, rfl, h⟩
    · wp_walk using q1
      exact ⟨_, rfl, h⟩
theorem enum_begins1 {prog : Program} {w : World} {A : Around} {E : Value → Shared → Prop} {s : Shared} {v : Value} {o : Obj} {H : Heap → Prop} {Q : Value → Shared → Prop} (B : Begins v o H) (h1 : H s.heap)
    (h : ∀ h', IsEnum h' (s.heap.objs.size + 1) s.heap.objs.size 0 .none → h'.get? s.heap.objs.size = some o → h'.objs.size = s.heap.objs.size + 2 →
      (∀ b o, s.heap.get? b = some o → h'.get? b = some o) → Q (.ref (s.heap.objs.size + 1)) { s with heap := h' }) :
    wpAny (model prog w) A (call (.type "enumerate") [v]) Q E s := by
  refine callType_new F.called_enumerate (by decide) (F.typeCall_enumerate_1 _) (F.newCall_enumerate_1 _) (fun obj => F.args_object_init_2 obj _) F.entry_enumerate_new
    (meets_enum1 B) ⟨h1, ?_⟩
  have hz : (s.heap.push o).objs.size = s.heap.objs.size + 1 := Heap.size_push ..
  show _ ∧ _
  rw [hz]
  have he : IsEnum ((s.heap.push o).push { cls := .type "enumerate", data := .fields #[.none, .bool false, .ref s.heap.objs.size, rawInt 0, .none, .none] }) (s.heap.objs.size + 1) s.heap.objs.size 0 .none := by
    have := Heap.get?_push_size (s.heap.push o) (o := { cls := .type "enumerate", data := .fields #[.none, .bool false, .ref s.heap.objs.size, rawInt 0, .none, .none] }) rfl
    rw [hz] at this; exact this
  refine ⟨⟨_, he, rfl⟩, h _ he (Heap.get?_push_of_some _ (Heap.get?_push_size _ B.free)) (by rw [Heap.size_push, hz]) fun b o x => Heap.get?_push_of_some _ (Heap.get?_push_of_some _ x)⟩
def iEnumV (K : PySem.W.Frag) (ta : TA) : TI := fun σ H R => ta σ H fun vs H1 => ∃ (p : Sr) (xs : List V), vs = [p.v] ∧ p.here K H1 xs ∧ R (ItE K p xs.length) H1
theorem pi_enumV {X : Cx} {e : Expr} {ta : TA} {p pos tpos : Pos} {elts : List Expr} {kk : Nat} (hg : Gl X "enumerate") (hm : X.mg "enumerate" = none) (ha : PA X [e] ta) (hs : starEach [e] X.env = [(false, eval e X.env)] := by rfl) :
    PI X (.Tuple elts kk tpos) (.Call (.Name "enumerate" p) [e] [] pos) (iEnumV X.K ta) := by
  refine ⟨fun pins s σ H R I h => ?_⟩
  refine Call_ (ld_blt I hg hm boot_enumerate (PyProof.Rows.callWith_type1 (thn (ha.run pos pins s σ H _ I h) fun us s1 ⟨vs, H1, I1, r1, q1⟩ => ?_) hs rfl))
  obtain ⟨p, xs, ex, hq, q⟩ := q1
  subst ex
  cases r1 with
  | cons r rr =>
    cases rr
    obtain ⟨o, Hb, B, hb, hlt, hit⟩ := Sr.begins I1 hq r
    refine enum_begins1 B hb fun h' he ho hsz hk => wpAny_pyIter_enum he ?_
    have I2 : Inv X pins σ H1 { s1 with heap := h' } := I1.kept (t' := s1.toks) hk
    refine ⟨s1.heap.objs.size + 1, [s1.heap.objs.size + 1, s1.heap.objs.size], _, _, H1, rfl, I2, turn_enumS (p := p) (N := xs.length) (e := s1.heap.objs.size + 1) (it := s1.heap.objs.size) (Nat.succ_ne_self _) (fun hm => absurd (hlt _ hm) (Nat.not_lt.mpr (Nat.le_add_right _ _))) (fun hm => absurd (hlt _ hm) (Nat.lt_irrefl _)), ⟨⟨.none, he⟩, hit _ _ ho, Nat.zero_le _⟩, fun b hb => ?_, q⟩
    have e' : b = s1.heap.objs.size + 1 ∨ b = s1.heap.objs.size := by simpa using hb
    have hle : s1.heap.objs.size ≤ b := by
      rcases e' with z | z
      · rw [z]; exact Nat.le_add_right _ _
      · rw [z]; exact Nat.le_refl _
    exact I1.fpOk hle (I1.hok.fresh hle)
def iZipV (K : PySem.W.Frag) (ta : TA) : TI := fun σ H R => ta σ H fun vs H1 => ∃ (p q : Sr) (xs ys : List V), vs = [p.v, q.v] ∧ p.here K H1 xs ∧ q.here K H1 ys ∧ R (ItZ K p q xs.length ys.length) H1
theorem pi_zipV {X : Cx} {e e2 : Expr} {ta : TA} {p pos tpos : Pos} {elts : List Expr} {kk : Nat} (hg : Gl X "zip") (hm : X.mg "zip" = none) (ha : PA X [e, e2] ta)
    (hs : starEach [e, e2] X.env = (false, eval e X.env) :: starEach [e2] X.env := by rfl) (hpl : (backTo pos (starEach [e2] X.env)).any (·.1) = false := by rfl) :
    PI X (.Tuple elts kk tpos) (.Call (.Name "zip" p) [e, e2] [] pos) (iZipV X.K ta) := by
  refine ⟨fun pins s σ H R I h => ?_⟩
  refine Call_ (ld_blt I hg hm PyProof.Rows.boot_zip (PyProof.Rows.callWith_type1 (thn (ha.run pos pins s σ H _ I h) fun us s1 ⟨vs, H1, I1, r1, q1⟩ => ?_) hs hpl))
  obtain ⟨p, q, xs, ys, ex, hp, hq, R0⟩ := q1
  subst ex
  cases r1 with
  | cons r rr =>
    cases rr with
    | cons r' rr =>
      cases rr
      obtain ⟨o1, H1', B1, hb1, lt1, it1⟩ := Sr.begins I1 hp r
      obtain ⟨o2, H2', B2, hb2, lt2, it2⟩ := Sr.begins I1 hq r'
      refine zip_begins2 B1 B2 hb1 hb2 fun h' hz hTI hTO g1 g2 hsz hk => wpAny_pyIter_zip hz ?_
      have I2 : Inv X pins σ H1 { s1 with heap := h' } := I1.kept (t' := s1.toks) hk
      have n1 : ∀ k, s1.heap.objs.size + k ∉ p.adr := fun k hm => absurd (lt1 _ hm) (Nat.not_lt.mpr (Nat.le_add_right _ _))
      have n2 : ∀ k, s1.heap.objs.size + k ∉ q.adr := fun k hm => absurd (lt2 _ hm) (Nat.not_lt.mpr (Nat.le_add_right _ _))
      have nc : ∀ {j i : Nat} {l : List Addr}, j ≠ i → s1.heap.objs.size + j ∉ l → s1.heap.objs.size + j ∉ (s1.heap.objs.size + i) :: l := fun hj hl hm => by
        rcases List.mem_cons.mp hm with z | z
        · exact hj (Nat.add_left_cancel z)
        · exact hl z
      have na : ∀ {j i : Nat}, j ≠ i → s1.heap.objs.size + j ≠ s1.heap.objs.size + i := fun h z => h (Nat.add_left_cancel z)
      have S : ZipSep2 (s1.heap.objs.size + 4) (s1.heap.objs.size + 2) (s1.heap.objs.size + 3) (s1.heap.objs.size + 0) (s1.heap.objs.size + 1) ((s1.heap.objs.size + 0) :: p.adr) ((s1.heap.objs.size + 1) :: q.adr) :=
        { TIz := na (by decide), TOz := na (by decide), TITO := na (by decide), TIi1 := na (by decide), mem1 := List.mem_cons_self .., zf1 := nc (by decide) (n1 4), Tf1 := nc (by decide) (n1 3), TIi2 := na (by decide), mem2 := List.mem_cons_self .., zf2 := nc (by decide) (n2 4), Tf2 := nc (by decide) (n2 3), sep1_2 := nc (by decide) (n2 0), sep2_1 := nc (by decide) (n1 1) }
      refine ⟨s1.heap.objs.size + 4, _, _, _, H1, rfl, I2, turn_zipS (p := p) (q := q) (N := xs.length) (M := ys.length) S (n1 0) (n2 1), ⟨hz, hTI, ⟨_, _, hTO⟩, it1 _ _ g1, it2 _ _ g2, Nat.zero_le _⟩, fun c hcm => ?_, R0⟩
      have e' : c = s1.heap.objs.size + 4 ∨ c = s1.heap.objs.size + 3 ∨ c = s1.heap.objs.size + 0 ∨ c = s1.heap.objs.size + 1 ∨ c = s1.heap.objs.size + 2 := by simpa using hcm
      have hle : s1.heap.objs.size ≤ c := by rcases e' with z | z | z | z | z <;> (rw [z]; exact Nat.le_add_right _ _)
      exact I1.fpOk hle (I1.hok.fresh hle)
/-! ### .. of data -/
def srcD : D → Option (List D)
  | .str x => some (x.map fun c => .str [c])
  | .lst ds => some ds
  | .fls ds => some ds
  | .tup ds => some ds
  | _ => none
def iEnumS (ma : Av) : Iv := fun ρ h => (ma ρ h).bind fun ds h1 => match ds with
  | [x] => (match srcD x with
    | some xs => .ok ⟨enumD xs, none⟩ h1
    | none => .err)
  | _ => .err
def iZipS (ma : Av) : Iv := fun ρ h => (ma ρ h).bind fun ds h1 => match ds with
  | [x, y] => (match srcD x, srcD y with
    | some xs, some ys => .ok ⟨List.zipWith pairD xs ys, none⟩ h1
    | _, _ => .err)
  | _ => .err
section
variable {X : Cx} {T : Tb} {W : WX} {e e2 : Expr} {ma : Av} {p pos tpos : Pos} {elts elt2 : List Expr} {kk : Nat}
theorem rds_signs {K : PySem.W.Frag} {G : Gh} : ∀ x : List Nat, RDs K G (x.map fun c => D.str [c]) (x.map fun c => V.str ⟨#[c]⟩)
  | [] => .nil
  | c :: r => .cons (.str [c]) (rds_signs r)
theorem src_of {K : PySem.W.Frag} {G : Gh} {d : D} {v : V} {xs : List D} (r : RD K G d v) (e : srcD d = some xs) : ∃ p vs, v = Sr.v p ∧ RDs K G xs vs ∧ ∀ G2 h H, G.lw G2 → RH K T G2 h H → p.here K H vs := by
  cases r with
  | str x => cases e; exact ⟨.txt (S x), _, rfl, rds_signs x, fun _ _ _ _ _ => by show _ = signsV _; unfold signsV; rw [S_toList]⟩
  | @lst _ vs a q r => cases e; exact ⟨.lst a, vs, rfl, r, fun G2 h H l rh => SqL.of (rh.F _ _ (l.F _ _ q))⟩
  | @fls _ vs a q r => cases e; exact ⟨.lst a, vs, rfl, r, fun G2 h H l rh => SqL.mono (SqL.mono q l.F) rh.F⟩
  | @tup _ vs a q r => cases e; exact ⟨.tup a, vs, rfl, r, fun G2 h H l rh => SqT.mono (SqT.mono q l.F) rh.F⟩
  | _ => cases e
theorem di_enumS (hg : Gl X "enumerate") (hm : X.mg "enumerate" = none) (ha : DA X T W [e] ma) (hs : starEach [e] X.env = [(false, eval e X.env)] := by rfl) : DI X T W (.Tuple elts kk tpos) (.Call (.Name "enumerate" p) [e] [] pos) (iEnumS ma) := ⟨PI.imp (pi_enumV hg hm ha.p hs) fun σ H R ⟨G, ρ, h, re, rh, p⟩ => by
  refine ⟨G, ρ, h, re, rh, ?_⟩
  unfold iEnumS at p
  cases e1 : ma ρ h with
  | exc c h1 => rw [e1] at p; exact p
  | err => rw [e1] at p; exact p
  | ok ds h1 =>
    rw [e1] at p
    intro G1 H1 vs l1 rh1 rd1
    simp only [Res.bind] at p
    split at p
    · rename_i x
      cases rd1 with
      | cons r1 r2 =>
        cases r2
        split at p
        · rename_i xs ex
          obtain ⟨q, va, rfl, ra, qa⟩ := src_of (T := T) r1 ex
          refine ⟨q, va, rfl, qa G1 h1 H1 (.refl _) rh1, p G1 H1 _ l1 rh1 ?_⟩
          intro G h H l rh _ i
          have sa := qa G h H l rh
          have hl := ra.length
          refine ⟨fun d e => ?_, fun hle => ⟨?_, va, sa, rfl⟩⟩
          · have e : (enumD xs)[i]? = some d := e
            unfold enumD at e
            rw [List.getElem?_mapIdx] at e
            cases ei : xs[i]? with
            | none => rw [ei] at e; cases e
            | some y =>
              rw [ei] at e
              cases e
              obtain ⟨vy, g1, g2⟩ := ra.get ei
              have hi : i < va.length := (List.getElem?_eq_some_iff.mp g1).1
              refine ⟨⟨hi, va, sa, rfl⟩, fun v H' ⟨TT, x, ev, hT, eH, yx⟩ => ?_⟩
              have e3 := yx va sa
              rw [g1] at e3
              cases e3
              subst ev eH
              have lp := Gh.put_le (o := .tup [.int (i : Nat), vy]) (rh.notF hT)
              exact ⟨G.put TT (.tup [.int (i : Nat), vy]), lp, rh.new hT _, .tup (SqT.of (by show upd G.F _ _ _ = _; rw [upd_same])) (.cons (.int _) (.cons (g2.monow (l.trans lp.w)) .nil))⟩
          · have hle : (enumD xs).length ≤ i := hle
            unfold enumD at hle
            rw [List.length_mapIdx] at hle
            omega
        · exact p.elim
    · exact p.elim⟩
theorem di_zipS (hg : Gl X "zip") (hm : X.mg "zip" = none) (ha : DA X T W [e, e2] ma) (hs : starEach [e, e2] X.env = (false, eval e X.env) :: starEach [e2] X.env := by rfl) (hpl : (backTo pos (starEach [e2] X.env)).any (·.1) = false := by rfl) :
    DI X T W (.Tuple elt2 kk tpos) (.Call (.Name "zip" p) [e, e2] [] pos) (iZipS ma) := ⟨PI.imp (pi_zipV hg hm ha.p hs hpl) fun σ H R ⟨G, ρ, h, re, rh, p⟩ => by
  refine ⟨G, ρ, h, re, rh, ?_⟩
  unfold iZipS at p
  cases e1 : ma ρ h with
  | exc c h1 => rw [e1] at p; exact p
  | err => rw [e1] at p; exact p
  | ok ds h1 =>
    rw [e1] at p
    intro G1 H1 vs l1 rh1 rd1
    simp only [Res.bind] at p
    split at p
    · rename_i x y
      cases rd1 with
      | cons r1 r2 =>
        cases r2 with
        | cons r3 r4 =>
          cases r4
          split at p
          · rename_i xs ys ex ey
            obtain ⟨q1, va, rfl, ra, qa⟩ := src_of (T := T) r1 ex
            obtain ⟨q2, vb, rfl, rb, qb⟩ := src_of (T := T) r3 ey
            refine ⟨q1, q2, va, vb, rfl, qa G1 h1 H1 (.refl _) rh1, qb G1 h1 H1 (.refl _) rh1, p G1 H1 _ l1 rh1 ?_⟩
            intro G h H l rh _ i
            have sa := qa G h H l rh
            have sb := qb G h H l rh
            have hl := ra.length
            have hl2 := rb.length
            refine ⟨fun d e => ?_, fun hle => ⟨?_, va, vb, sa, sb, rfl, rfl⟩⟩
            · obtain ⟨dx, dy, ix, iy, rfl⟩ := zip_get e
              obtain ⟨vx, f1, f2⟩ := ra.get ix
              obtain ⟨vy, g1, g2⟩ := rb.get iy
              refine ⟨⟨⟨(List.getElem?_eq_some_iff.mp f1).1, (List.getElem?_eq_some_iff.mp g1).1⟩, va, vb, sa, sb, rfl, rfl⟩, fun v H' ⟨TT, x, y, ev, hT, eH, yx, yy⟩ => ?_⟩
              have e3 := yx va sa
              have e4 := yy vb sb
              rw [f1] at e3; rw [g1] at e4
              cases e3; cases e4
              subst ev eH
              have lp := Gh.put_le (o := .tup [vx, vy]) (rh.notF hT)
              exact ⟨G.put TT (.tup [vx, vy]), lp, rh.new hT _, .tup (SqT.of (by show upd G.F _ _ _ = _; rw [upd_same])) (.cons (f2.monow (l.trans lp.w)) (.cons (g2.monow (l.trans lp.w)) .nil))⟩
            · have hle : (List.zipWith pairD xs ys).length ≤ i := hle
              rw [List.length_zipWith] at hle
              omega
          · exact p.elim
    · exact p.elim⟩
end
end Sh

set_option Elab.async false
set_option linter.all false
set_option maxRecDepth 100000
set_option maxHeartbeats 4000000
/-! Sh34: sum. -/
namespace Sh
open PySem PySem.Spec PyProof.Rows L2 GenW

def tSum : Int → Tr → Res Int
  | a, .done h => .ok a h
  | a, .yld (.int i) _ r => tSum (a + i) r
  | _, _ => .err
def tSumR (t : Tr) : Res D := (tSum 0 t).bind fun i h => .ok (.int i) h
abbrev HiL (S : Addr) : List Value → Heap → Prop := fun _ h => ∃ v c, h.get? S = some (lstObj #[v] c)
theorem hiL (S : Addr) : HiOk [S] (HiL S) := by
  refine ⟨fun us h h' k ⟨v, c, e⟩ => ⟨v, c, k S (by simp) _ e⟩, fun us v s hb ho hi => ⟨s, ⟨rfl, hb, fun _ _ _ e => e, ho⟩, hi⟩⟩
section
variable {X : Cx} {pins : List (Addr × Obj)} {σ : L2.St} {T : Tb} {A : Around} {a S : Addr} {G0 : Gh} {all : List D} {R : Result → Shared → Prop}
theorem sum_loop (hA : A.in1.handled = none) (hroom : A.in1.depth < recursionLimit) : ∀ (tr : Tr) (h : LH) (s : Shared) (acc : Int) (tA : Tok) (c : Nat) (st i : Int) (h' : LH), (st = 0 ∨ st = 2) → GxAt X pins σ T A.in1 a [S] (HiL S) G0 all h tr s → s.heap.get? S = some (lstObj #[.int acc tA] c) → tSum acc tr = .ok i h' →
    (∀ s' G t', G0.le G → GxFin X pins σ T G h' s' → R (.ok (.ret (.int i t'))) s') → codeAny (model X.prog X.w) A (.builtin "sum.loop" ⟨[.ref a, .ref S, rawInt st, rawInt 0], []⟩) R s := by
  intro tr
  induction tr with
  | err => intro h s acc tA c st i h' hst q hS e; cases e
  | done h0 =>
    intro h s acc tA c st i h' hst q hS e hR
    cases e
    refine codeAny_builtin F.entry_sum_loop ?_
    rw [Around.under_plainId F.plain_sum_loop _]
    show wpAny _ A.in1 (seqItems? (.ref S) >>= _) _ _ s
    refine wpAny_bind (wpAny_seqItems hS rfl ?_)
    show wpAny _ A.in1 (tryCatch (pyNext (.ref a)) _ >>= _) _ _ s
    refine wpAny_bind (wpAny_tryCatch (q.done (hiL S) rfl hA hroom fun s1 G us2 xs l f k hu2 hv hrd _ => ?_))
    exact wpAny_pure (hR s1 G tA l f)
  | yld d h0 r ih =>
    intro h s acc tA c st i h' hst q hS e hR
    cases d with
    | int z =>
      have e : tSum (acc + z) r = .ok i h' := e
      refine codeAny_builtin F.entry_sum_loop ?_
      rw [Around.under_plainId F.plain_sum_loop _]
      show wpAny _ A.in1 (seqItems? (.ref S) >>= _) _ _ s
      refine wpAny_bind (wpAny_seqItems hS rfl ?_)
      show wpAny _ A.in1 (tryCatch (pyNext (.ref a)) _ >>= _) _ _ s
      refine wpAny_bind (wpAny_tryCatch (q.yield rfl hA hroom fun v x s' G us2 l rv rd k f hu2 hb nx => ?_))
      cases rd
      obtain ⟨t, rfl⟩ := rv
      have hS' := k S (by simp) _ hS
      have own : ∀ {u : Value} {tk : Nat}, Own [S] s' { s' with heap := s'.heap.update S (Obj.mapSeq fun _ => #[u]), toks := tk } ∧ (s'.heap.update S (Obj.mapSeq fun _ => #[u])).get? S = some (lstObj #[u] c) := fun {u tk} => by
        have e3 : (s'.heap.update S (Obj.mapSeq fun _ => #[u])).get? S = some (lstObj #[u] c) := Heap.get?_update_self _ hS' rfl
        refine ⟨⟨rfl, rfl, fun b o hn e => (Heap.get?_update_other _ _ (fun z => hn (by rw [z]; simp))).trans e, fun b hb => ?_⟩, e3⟩
        rw [List.mem_singleton.mp hb]
        exact ⟨_, e3, lst_ncell⟩
      rcases hst with rfl | rfl
      · show wpAny _ A.in1 (if (_ : Bool) = true then (mkInt (acc + z) >>= _) else _) _ _ _
        split
        · refine wpAny_bind (wpAny_mkInt ?_)
          show wpAny _ A.in1 (updateSeq S (fun _ => #[.int (acc + z) s'.toks]) >>= _) _ _ _
          refine wpAny_bind ?_
          obtain ⟨o1, o2⟩ := own (u := .int (acc + z) s'.toks) (tk := s'.toks + 1)
          exact wpAny_updateSeq hS' rfl (wpAny_pure ⟨plainId_quiet F.plain_sum_loop _, ih h0 _ (acc + z) s'.toks c 0 i h' (.inl rfl) (nx _ o1 ⟨_, _, o2⟩) o2 e hR⟩)
        · refine wpAny_bind (wpAny_rule ?_)
          refine wpAny_bind (wpAny_attempt (wpAny_holding (wpAny_add_int ?_)))
          show wpAny _ A.in1 (updateSeq S (fun _ => #[.int (acc + z) s'.toks]) >>= _) _ _ _
          refine wpAny_bind (wpAny_updateSeq hS' rfl ?_)
          have hS₂ := Heap.get?_update_self (Obj.mapSeq fun _ => #[Value.int (acc + z) s'.toks]) hS' rfl
          refine wpAny_bind (wpAny_letGo ?_)
          have e3 : ((s'.heap.update S (Obj.mapSeq fun _ => #[Value.int (acc + z) s'.toks])).update S (Obj.mapSeq fun _ => #[Value.int (acc + z) s'.toks])).get? S = some (lstObj #[.int (acc + z) s'.toks] c) := Heap.get?_update_self _ hS₂ rfl
          refine wpAny_bind (wpAny_updateSeq hS₂ rfl (wpAny_pure ⟨plainId_quiet F.plain_sum_loop _, ih h0 _ (acc + z) s'.toks c 2 i h' (.inr rfl) (nx _ ⟨rfl, rfl, fun b o hn e => ?_, fun b hb => ?_⟩ ⟨_, _, e3⟩) e3 e hR⟩))
          · exact (Heap.get?_update_other _ _ (fun z => hn (by rw [z]; simp))).trans ((Heap.get?_update_other _ _ (fun z => hn (by rw [z]; simp))).trans e)
          · rw [List.mem_singleton.mp hb]
            exact ⟨_, e3, lst_ncell⟩
      · show wpAny _ A.in1 ((holding [Value.int z t] (binaryOp .Add (.int acc tA) (.int z t))).attempt >>= _) _ _ _
        refine wpAny_bind (wpAny_attempt (wpAny_holding (wpAny_add_int ?_)))
        show wpAny _ A.in1 (updateSeq S (fun _ => #[.int (acc + z) s'.toks]) >>= _) _ _ _
        refine wpAny_bind (wpAny_updateSeq hS' rfl ?_)
        have hS₂ := Heap.get?_update_self (Obj.mapSeq fun _ => #[Value.int (acc + z) s'.toks]) hS' rfl
        refine wpAny_bind (wpAny_letGo ?_)
        have e3 : ((s'.heap.update S (Obj.mapSeq fun _ => #[Value.int (acc + z) s'.toks])).update S (Obj.mapSeq fun _ => #[Value.int (acc + z) s'.toks])).get? S = some (lstObj #[.int (acc + z) s'.toks] c) := Heap.get?_update_self _ hS₂ rfl
        refine wpAny_bind (wpAny_updateSeq hS₂ rfl (wpAny_pure ⟨plainId_quiet F.plain_sum_loop _, ih h0 _ (acc + z) s'.toks c 2 i h' (.inr rfl) (nx _ ⟨rfl, rfl, fun b o hn e => ?_, fun b hb => ?_⟩ ⟨_, _, e3⟩) e3 e hR⟩))
        · exact (Heap.get?_update_other _ _ (fun z => hn (by rw [z]; simp))).trans ((Heap.get?_update_other _ _ (fun z => hn (by rw [z]; simp))).trans e)
        · rw [List.mem_singleton.mp hb]
          exact ⟨_, e3, lst_ncell⟩
    | _ => cases e
end
theorem tSum_exc : ∀ a t c h, tSum a t ≠ .exc c h
  | _, .done _, _, _, e => by cases e
  | _, .err, _, _, e => by cases e
  | a, .yld d h r, c, h', e => by
    cases d with
    | int k => exact tSum_exc (a + k) r c h' e
    | _ => cases e
theorem tSumR_exc : ∀ t c h, tSumR t ≠ .exc c h := fun t c h e => by
  unfold tSumR at e
  cases q : tSum 0 t with
  | ok b h1 => rw [q] at e; cases e
  | exc c h1 => exact tSum_exc _ _ _ _ q
  | err => rw [q] at e; cases e
section
variable {X : Cx} {T : Tb} {W : WX} {j : Nat} {c P : Addr} {elt tg iter : Expr} {ifs : List Expr} {scope : Scope} {own : List (Str × Nat)} {p gpos pos : Pos} {mi : Iv} {g : Gv} {mt : Bv} {me : Ev} {x : Str}
theorem cons_sum (hr : Room (j + 4) X.A) (pins : List (Addr × Obj)) (σ : L2.St) (s5 : Shared) (G1 : Gh) (h1 : LH) (tr : Tr) (a : Addr) (d : D) (h' : LH) (Q : Value → Shared → Prop) (q : GxNew X pins σ T j a G1 h1 tr s5) (e : tSumR tr = .ok d h')
    (hQ : ∀ v s', (∃ G2 x, G1.le G2 ∧ GxFin X pins σ T G2 h' s' ∧ RD X.K G2 d x ∧ RelV x v) → Q v s') : wpAny (model X.prog X.w) X.A (call (.builtin "sum") [.ref a]) Q X.xe s5 := by
  unfold tSumR at e
  cases es : tSum 0 tr with
  | exc c h1 => exact absurd es (tSum_exc _ _ _ _)
  | err => rw [es] at e; cases e
  | ok i h2 =>
    rw [es] at e
    cases e
    obtain ⟨g, isg⟩ := q.isg
    obtain ⟨H5, rh5, I5⟩ := q.fin
    refine call_function_tree F.kind_sum F.plain_sum F.entry_sum (F.args_sum1 _) ?_
    unfold Builtin.«sum»
    simp only [List.length_cons, List.length_nil]
    rw [if_neg (by decide)]
    refine wpAny_bind (wpAny_of_eq (show Builtin.Builtins.bindParams "sum" ["start"] 0 { } = pure [none] from rfl) ?_)
    refine wpAny_bind (wpAny_pyIter_gen isg ?_)
    have hr1 : Room (j + 2) X.A.in1 := (hr.mono (by omega : j + 3 ≤ j + 4)).in1
    refine wpAny_bind (wpAny_mkInt ?_)
    refine wpAny_bind (wpAny_pure ?_)
    simp only [List.forIn_cons, List.forIn_nil]
    refine wpAny_bind (wpAny_bind (wpAny_bind (wpAny_isInstance (T := "int") (b := false) (typeIs_int _ _ _) PySem.sub_int_str ?_)))
    simp only [Bool.false_eq_true, if_false]
    refine wpAny_pure (wpAny_bind (wpAny_bind (wpAny_isInstance (T := "int") (b := false) (typeIs_int _ _ _) sub_int_bytes ?_)))
    simp only [Bool.false_eq_true, if_false]
    refine wpAny_pure (wpAny_bind (wpAny_bind (wpAny_isInstance (T := "int") (b := false) (typeIs_int _ _ _) sub_int_bytearray ?_)))
    simp only [Bool.false_eq_true, if_false]
    refine wpAny_pure (wpAny_pure ?_)
    refine wpAny_bind (wpAny_newObj_type ?_)
    have hS : (s5.heap.push { cls := .type "list", data := .seq ([Value.int 0 s5.toks] : List Value).toArray }).get? s5.heap.objs.size = some (lstObj #[.int 0 s5.toks] 0) := Heap.get?_push_size _ rfl
    have q6 := q.at_ X.A.in1 [s5.heap.objs.size] (HiL s5.heap.objs.size) { s5 with heap := s5.heap.push { cls := .type "list", data := .seq ([Value.int 0 s5.toks] : List Value).toArray }, toks := s5.toks + 1 } hr1 I5.ok.frames (fun b hb => Nat.le_of_eq (List.mem_singleton.mp hb).symm) rfl rfl (fun b o e => Heap.get?_push_of_some _ e) (fun b hb => by
      rw [List.mem_singleton.mp hb]
      exact ⟨_, hS, fun v q => by cases q⟩) ⟨_, _, hS⟩
    exact wpAny_pure ⟨plainId_quiet F.plain_sum_loop _, sum_loop hr1.hd (by have := hr1.dp; omega) tr h1 _ 0 s5.toks 0 0 i _ (.inl rfl) q6 hS es fun s' G t' l f => hQ _ _ ⟨G, .int i, l, f, .int i, ⟨t', rfl⟩⟩⟩
/-- sum(elt for tg in iter if ..) -/
theorem de_sumGx (hr : Room (j + 4) X.A) (TB : GxR.TabB X.base X.mg c P) (hPT : (P, X.env.qual ++ "<genexpr>") ∈ T) (hTu : ∀ p ∈ T, p.1 = P → p.2 = X.env.qual ++ "<genexpr>") (hcode : X.env.code = .ref c) (hg : Gl X "sum") (hm : X.mg "sum" = none) (ok : GxOk X.N X.env.scope scope own) (hN : X.N.Nodup) (hi : DI X T W tg iter mi) (b : GxB X T scope (own.map (·.2)) tg ifs elt g mt me j)
    (hfo : ∀ v, genFold iter X.env v = pure v := by intro _; rfl) (he : starEach [.GeneratorExp elt [⟨tg, iter, ifs, 0⟩] scope gpos] X.env = (false, eval (.GeneratorExp elt [⟨tg, iter, ifs, 0⟩] scope gpos) X.env) :: starEach [] X.env := by rfl) :
    DE X T W (.Call (.Name "sum" p) [.GeneratorExp elt [⟨tg, iter, ifs, 0⟩] scope gpos] [] pos) (eGx tSumR mi (own.map (·.2)) g mt me) :=
  de_gx tSumR_exc hr TB hPT hTu hcode ok hN hi b hfo (cons_sum hr) (hcall_b hg hm (by rfl) (by decide) (by decide) he)
end
/-! ### sum of a list of ints -/
def intsOf : List D → Option (List Int)
  | [] => some []
  | .int i :: r => (intsOf r).map fun l => i :: l
  | _ => none
def bSum : List D → LH → Option (D × LH) := fun ds h => match ds with
  | [d] => (match seqH h d with
    | some (false, xs) => (intsOf xs).map fun l => (.int l.sum, h)
    | _ => none)
  | _ => none
theorem intsOf_rd {K : PySem.W.Frag} {G : Gh} : ∀ {xs : List D} {vs : List V} {l : List Int}, RDs K G xs vs → intsOf xs = some l → vs = l.map V.int
  | _, _, _, .nil, e => by cases e; rfl
  | x :: xs, _, l, .cons r t, e => by
    cases x with
    | int i =>
      cases r
      unfold intsOf at e
      cases q : intsOf xs with
      | none => rw [q] at e; cases e
      | some m => rw [q] at e; cases e; rw [intsOf_rd t q]; rfl
    | _ => cases e
theorem cd_sum {X : Cx} {T : Tb} (hc : X.calm = true) : CallD X T (.builtin "sum") bSum := by
  intro pins s σ H xs us Q I r ⟨G, h, ds, d, h', rh, rd, e, k⟩
  unfold bSum at e
  split at e
  · split at e
    · rename_i d0 xs0 es
      cases q : intsOf xs0 with
      | none => rw [q] at e; cases e
      | some l =>
        rw [q] at e
        cases e
        cases rd with
        | cons r1 r2 =>
          cases r2
          obtain ⟨a, vs, rfl, rr, hs⟩ := seqH_l rh r1 es
          have ev := intsOf_rd rr q
          subst ev
          exact cr_sum hc pins s σ H _ us Q I r ⟨a, l, rfl, hs, k G H _ (.refl G) rh (.int _)⟩
    · cases e
  · cases e
end Sh

set_option Elab.async false
set_option linter.all false
set_option maxRecDepth 100000
set_option maxHeartbeats 4000000
/-! Sh35: xs[::-1] of texts too; the module's tuples; append; == by the heap. -/
namespace Sh
open PySem PySem.Spec PyProof.Rows L2

theorem str_picked (l : List Nat) (t : Tok) : sliceMade (S l) t none none (some (-1, t)) = .str (S l.reverse) := by
  unfold sliceMade
  have e : slicePicked (S l) none none (some (-1, t)) = (List.range l.length).map fun k => l.length - 1 - k := by
    unfold slicePicked
    show Builtin.Str.strSliceIndices none none (-1) (S l).length = _
    rw [S_len]
    exact PySem.W.krv_sliceRange l.length
  rw [e]
  show (if ((-1 : Int) == 1 && _) = true then _ else _) = _
  rw [show ((-1 : Int) == 1) = false by decide, Bool.false_and, if_neg Bool.false_ne_true]
  congr 1
  apply S_ext
  show (List.filterMap ((S l).cps[·]?) ((List.range l.length).map fun k => l.length - 1 - k)).toArray.toList = _
  rw [List.toList_toArray]
  have e2 : ((List.range l.length).map fun k => l.length - 1 - k) = (List.range l.length).reverse := by
    apply List.ext_getElem
    · simp
    · intro i h1 h2
      simp
  rw [e2, List.filterMap_reverse]
  congr 1
  have e3 : ∀ n ≤ l.length, List.filterMap ((S l).cps[·]?) (List.range n) = l.take n := by
    intro n hn
    induction n with
    | zero => simp
    | succ n ih =>
      rw [List.range_succ, List.filterMap_append, ih (by omega)]
      have hl : n < l.length := by omega
      have e4 : (S l).cps[n]? = some l[n] := by simp [S, hl]
      rw [List.filterMap_cons, e4, List.filterMap_nil, List.take_succ, List.getElem?_eq_getElem hl]; rfl
  rw [e3 l.length (Nat.le_refl _), List.take_length]
section
variable {X : Cx} {T : Tb} {W : WX} {pos : Pos} {e : Expr} {me : Ev}
/-- xs[::-1] -/
def revD (h : LH) (x : D) : Option D := match x with
  | .str a => if fits a.length then some (.str a.reverse) else none
  | x => (match seqH h x with
    | some (false, xs) => some (.lst xs.reverse)
    | some (true, xs) => some (.tup xs.reverse)
    | _ => none)
def eRevX (m : Ev) : Ev := fun ρ h => (m ρ h).bind fun x h1 => liftO h1 (revD h1 x)
theorem de_revX {k : Nat} {p1 p2 p3 : Pos} (he : DE X T W e me) : DE X T W (.Subscript e (.Slice none none (some (.UnaryOp .USub (.Constant (.int 1) k p1) p2)) p3) pos) (eRevX me) := ⟨⟨fun pins s σ H Q I ⟨G, ρ, h, re, rh, p⟩ => by
  unfold eRevX at p
  refine Subscript_ (thn (he.p.run pins s σ H (fun v H1 => ∃ G1 x h1, G.le G1 ∧ RH X.K T G1 h1 H1 ∧ RD X.K G1 x v ∧ Post X.K T W σ G (liftO h1 (revD h1 x)) Q) I ⟨G, ρ, h, re, rh, ?_⟩) fun v s1 ⟨x, H1, I1, r1, G1, dx, h1, l1, rh1, rd1, p⟩ => ?_)
  · cases e1 : me ρ h with
    | exc c h1 => rw [e1] at p; exact p
    | err => rw [e1] at p; exact p.elim
    | ok x h1 => rw [e1] at p; exact fun G1 H1 v l1 rh1 rd1 => ⟨G1, x, h1, l1, rh1, rd1, p⟩
  · have hst : PO X (some (.UnaryOp .USub (.Constant (.int 1) k p1) p2)) (tPart (tUn (rU fun i => .int (-i)) (tC (.int 1)))) := po_some (pe_un un_neg pe_int)
    refine wpAny_Slice (thn (po_none.run pins s1 σ H1 (fun o H2 => o = none ∧ H2 = H1) I1 ⟨rfl, rfl⟩) fun vl s2 ⟨l, H2, I2, pl, el, e2⟩ => ?_)
    subst el e2
    refine thn (po_none.run pins s2 σ H2 (fun o H3 => o = none ∧ H3 = H2) I2 ⟨rfl, rfl⟩) fun vu s3 ⟨u, H3, I3, pu, eu, e3⟩ => ?_
    subst eu e3
    refine thn (hst.run pins s3 σ H3 (fun o H4 => o = some (-1) ∧ H4 = H3) I3 ⟨1, rfl, -1, rfl, rfl, rfl⟩) fun vs s4 ⟨o, H4, I4, ps, eo, e4⟩ => ?_
    subst eo e4
    have I5 : Inv X pins σ H4 { s4 with heap := s4.heap.push { cls := .type "slice", data := .fields #[vl, vu, vs] } } := I4.kept (t' := s4.toks) fun b ob q => Heap.get?_push_of_some _ q
    show wpAny (model X.prog X.w) X.A (subscriptTail e (.Slice none none (some (.UnaryOp .USub (.Constant (.int 1) k p1) p2)) p3) v (.ref s4.heap.objs.size)) (EP X pins σ Q) X.xe { s4 with heap := s4.heap.push { cls := .type "slice", data := .fields #[vl, vu, vs] } }
    unfold revD at p
    split at p
    · rename_i x
      split at p
      · rename_i hf
        cases rd1
        obtain ⟨t, rfl⟩ := r1
        refine tail_any (ops := [.ref s4.heap.objs.size]) (typeIs_str _ _ _) F.slot_str_getitem.lookup ?_ (by with_unfolding_all rfl)
        obtain ⟨l, rfl, e1⟩ := IsPart.raw pl
        obtain ⟨u, rfl, e2⟩ := IsPart.raw pu
        obtain ⟨w, rfl, e3⟩ := IsPart.raw ps
        cases l with
        | some _ => cases e1
        | none =>
          cases u with
          | some _ => cases e2
          | none =>
            cases w with
            | none => cases e3
            | some q =>
              obtain ⟨i, tk⟩ := q
              have e3 : i = -1 := Option.some.inj e3
              subst e3
              refine wpAny_getItem_str_slice (l := none) (u := none) (st := some (-1, tk)) ⟨_, Heap.get?_push_size _ rfl, rfl, rfl⟩ rfl ?_
              have em : sliceMade (S x) t none none (some (-1, tk)) = .str (S x.reverse) := str_picked x tk
              rw [em]
              exact ⟨by rw [S_len, List.length_reverse]; exact fits_ok hf, .str (S x.reverse), H4, I5.tok _, ⟨_, rfl⟩, p G1 H4 _ l1 rh1 (.str _)⟩
      · exact p.elim
    · split at p
      · rename_i xs es
        obtain ⟨a, ws, rfl, r, q⟩ := seqH_l rh1 rd1 es
        cases r1
        obtain ⟨its, rv, ht, hz⟩ := I5.list q
        have hlen := rv.length
        refine tail_any (ops := [.ref a, .ref s4.heap.objs.size]) ht.isList.typeIs (PySem.slot_list_getitem.lookup) ?_ (by with_unfolding_all rfl)
        refine wpAny_getItem_list_slice ht.isList (Heap.IsSliceOf.new _ vl vu vs) pl pu ps (by decide) ?_ (by rw [List.size_toArray]; omega)
        rw [PySem.W.krv_pick]
        refine ⟨.ref _, _, I5.laid (t' := s4.toks) (o := .lst ws.reverse) (fun b ob q => Heap.get?_push_of_some _ q) (Nat.le_refl _) ?_, rfl, fin_lst (fun G' H' z l rh rd => p G' H' z (l1.trans l) rh rd) rh1 r.reverse _ (I5.hok.fresh (Nat.le_refl _))⟩
        exact ⟨by rw [List.length_reverse]; exact hz, _, 0, rv.reverse, Heap.get?_push_size _ rfl⟩
      · rename_i xs es
        obtain ⟨a, ws, rfl, r, q⟩ := seqH_t rh1 rd1 es
        cases r1
        obtain ⟨its, rv, ht, hz⟩ := I5.tuple q
        have hlen := rv.length
        refine tail_any (ops := [.ref a, .ref s4.heap.objs.size]) ht.typeIs (PyProof.Rows.slot_tuple_getitem.lookup) ?_ (by with_unfolding_all rfl)
        refine tup_rev ht (Heap.IsSliceOf.new _ vl vu vs) pl pu ps ?_ (by rw [List.size_toArray]; omega)
        refine ⟨.ref _, _, I5.laid (t' := s4.toks) (o := .tup ws.reverse) (fun b ob q => Heap.get?_push_of_some _ q) (Nat.le_refl _) ?_, rfl, fin_tup (fun G' H' z l rh rd => p G' H' z (l1.trans l) rh rd) rh1 r.reverse _ (I5.hok.fresh (Nat.le_refl _))⟩
        exact ⟨by rw [List.length_reverse]; exact hz, its.reverse, rv.reverse, ⟨_, Heap.get?_push_size _ rfl, rfl, _, rfl⟩⟩
      · exact p.elim⟩⟩
/-! ### a constant of the module -/
def GCon (K : PySem.W.Frag) (mg : Str → Option Value) (x : Str) (d : D) : Prop := ∃ a, mg x = some (.ref a) ∧ frB K 6 d (.ref a) = true
theorem de_gcon {x : Str} {d : D} (hg : Gl X x) (hm : GCon X.K X.mg x d) (hd : (x == ("__debug__" : Str)) = false := by decide) : DE X T W (.Name x pos) (eC d) := by
  obtain ⟨a, hm, hf⟩ := hm
  obtain ⟨v, rv, q⟩ := frB_ok 6 d _ hf
  exact ⟨PE.imp (pe_glob (v := v) hg hm rv hd) fun σ H Q ⟨G, ρ, h, re, rh, p⟩ => p G H _ (.refl G) rh (q G)⟩
end
/-! ### append -/
def mAppend : Mf := fun x ds h => match x, ds with
  | .obj n, [d] => (match h[n]? with
    | some (.lst xs) => if fits (xs.length + 1) then some (.non, h.set n (.lst (xs ++ [d]))) else none
    | _ => none)
  | _, _ => none
theorem md_append {X : Cx} {T : Tb} : MtD X T "list.append" mAppend := by
  intro pins s σ H x xs v us Q I rx rxs ⟨G, h, dx, ds, d, h', rh, rd, rds, e, k⟩
  unfold mAppend at e
  split at e
  · split at e
    · rename_i n y xs0 eo
      split at e
      · rename_i hf
        cases e
        cases rd with
        | @obj _ a ea =>
          obtain ⟨u, q1, q2⟩ := rh.at eo ea (fun z => by cases z)
          cases q2 with
          | @lst _ vs r =>
            cases rds with
            | cons r1 r2 =>
              cases r2
              exact mt_append pins s σ H _ _ v us Q I rx rxs ⟨a, vs, _, rfl, rfl, q1, by rw [← r.length]; exact fits_one hf, k G _ .non (.refl G) (rh.set eo ea (fun z => by cases z) (.lst (r.append (.cons r1 .nil)))) .non⟩
      · cases e
    · cases e
  · cases e
/-! ### t.index(x), t a tuple of texts of the module -/
def strsD : List D → Option (List (List Nat))
  | [] => some []
  | .str x :: r => (strsD r).map fun l => x :: l
  | _ => none
theorem strsD_rd {K : PySem.W.Frag} {G : Gh} : ∀ {xs : List D} {vs : List V} {l : List (List Nat)}, RDs K G xs vs → strsD xs = some l → vs = (l.map S).map V.str
  | _, _, _, .nil, e => by cases e; rfl
  | x :: xs, _, l, .cons r t, e => by
    cases x with
    | str i =>
      cases r
      unfold strsD at e
      cases q : strsD xs with
      | none => rw [q] at e; cases e
      | some m => rw [q] at e; cases e; rw [strsD_rd t q]; rfl
    | _ => cases e
def idxN (z : List Nat) : List (List Nat) → Nat → Option Nat
  | [], _ => none
  | y :: r, k => if y = z then some k else idxN z r (k + 1)
theorem idxN_ok {z : List Nat} : ∀ {l : List (List Nat)} {k j : Nat}, idxN z l k = some j → k ≤ j ∧ l[j - k]? = some z ∧ ∀ m, m < j - k → l[m]? ≠ some z
  | y :: r, k, j, e => by
    unfold idxN at e
    split at e
    · rename_i h
      cases e
      subst h
      exact ⟨Nat.le_refl _, by simp, fun m hm => by omega⟩
    · rename_i h
      obtain ⟨h1, h2, h3⟩ := idxN_ok e
      have e1 : j - k = (j - (k + 1)) + 1 := by omega
      refine ⟨by omega, by rw [e1, List.getElem?_cons_succ]; exact h2, fun m hm => ?_⟩
      cases m with
      | zero => intro q; rw [List.getElem?_cons_zero] at q; exact h (Option.some.inj q)
      | succ m => rw [List.getElem?_cons_succ]; exact h3 m (by omega)
def mIdx : Mf := fun x ds h => match x, ds with
  | .tup ys, [.str z] => (strsD ys).bind fun l => (idxN z l 0).map fun j => (.int (j : Nat), h)
  | _, _ => none
theorem md_tidx {X : Cx} {T : Tb} : MtD X T "tuple.index" mIdx := by
  intro pins s σ H x xs v us Q I rx rxs ⟨G, h, dx, ds, d, h', rh, rd, rds, e, k⟩
  unfold mIdx at e
  split at e
  · rename_i ys z
    cases e1 : strsD ys with
    | none => rw [e1] at e; cases e
    | some l =>
      rw [e1] at e
      have e : (idxN z l 0).map (fun j => (D.int (j : Nat), h)) = some (d, h') := e
      cases e2 : idxN z l 0 with
      | none => rw [e2] at e; cases e
      | some j =>
        rw [e2] at e
        cases e
        cases rd with
        | @tup _ vs a hq r =>
          have ev := strsD_rd r e1
          subst ev
          cases rds with
          | cons r1 r2 =>
            cases r1; cases r2
            obtain ⟨_, h2, h3⟩ := idxN_ok e2
            rw [Nat.sub_zero] at h2 h3
            exact mt_tup_index pins s σ H _ _ v us Q I rx rxs ⟨a, l.map S, S z, j, rfl, rfl, SqT.mono hq rh.F, by rw [List.getElem?_map, h2]; rfl, fun m hm q => (h3 m hm) (by
              rw [List.getElem?_map] at q
              cases q2 : l[m]? with
              | none => rw [q2] at q; cases q
              | some y => rw [q2] at q; rw [S_inj (Option.some.inj q)]), k G H _ (.refl G) rh (.int _)⟩
  · cases e
/-- c.index(e), c a tuple of texts of the module -/
def eTIdx (ds : List D) (me : Ev) : Ev := fun ρ h => (me ρ h).bind fun d h1 => match mIdx (.tup ds) [d] h1 with
  | some (x, h2) => .ok x h2
  | none => .err
section
variable {X : Cx} {T : Tb} {W : WX} {e : Expr} {me : Ev} {x : Str} {p apos cpos : Pos}
theorem de_tidx {ds : List D} (hg : Gl X x) (hm : ∃ a o, X.mg x = some (.ref a) ∧ frB X.K 6 (.tup ds) (.ref a) = true ∧ X.K.lookup a = some o ∧ o.cls = .type "tuple" ∧ o.dict = none) (he : DE X T W e me) (hd : (x == ("__debug__" : Str)) = false := by decide)
    (hbase : attributeBase (.Name x p) "index" X.env (eval (.Name x p) X.env) = eval (.Name x p) X.env := by rfl)
    (hfew : ((backTo cpos (starEach [e] X.env)).all (fun x => !x.1) && (backToKw cpos (keywordEach [] X.env)).all (fun x => x.1.isSome)
      && decide ([e].length + ([] : List Keyword).length + (if ([] : List Keyword).isEmpty then 0 else 1) < 30)) = true := by rfl)
    (hline : (apos.endLine == cpos.line) = true := by rfl) (hs : starEach [e] X.env = (false, eval e X.env) :: starEach [] X.env := by rfl) (hplain : (backTo cpos (starEach [] X.env)).any (·.1) = false := by rfl) :
    DE X T W (.Call (.Attribute (.Name x p) "index" apos) [e] [] cpos) (eTIdx ds me) := by
  obtain ⟨a, o, hm, hf, hl, hc, hdn⟩ := hm
  obtain ⟨v, rv, q⟩ := frB_ok 6 _ _ hf
  have hv : v = .ref a := by
    have r := q ⟨fun _ => none, [], fun _ => none⟩
    cases r
    cases rv
    rfl
  subst hv
  refine ⟨PE.imp (pe_bm PySem.F.plainAttrs_tuple PySem.F.slot_tuple_index PySem.F.type_tuple_index (md_tidx (T := T)) (pe_glob (v := .ref a) hg hm rv hd) (pa_cons he.p pa_nil hs) hbase hfew hline hs hplain) fun σ H Q ⟨G, ρ, h, re, rh, p⟩ => ?_⟩
  refine ⟨.inr (.inl ⟨rfl, o, hl, hc, hdn⟩), G, ρ, h, re, rh, ?_⟩
  unfold eTIdx at p
  cases e1 : me ρ h with
  | exc c h1 => rw [e1] at p; exact p
  | err => rw [e1] at p; exact p.elim
  | ok y h1 =>
    rw [e1] at p
    intro G1 H1 v1 l1 rh1 rd1
    have p : Post X.K T W σ G (match mIdx (.tup ds) [y] h1 with
      | some (x, h2) => .ok x h2
      | none => .err) Q := p
    cases e2 : mIdx (.tup ds) [y] h1 with
    | none => rw [e2] at p; exact p.elim
    | some z => rw [e2] at p; exact ⟨G1, h1, .tup ds, [y], z.1, z.2, rh1, q G1, .cons rd1 .nil, e2, fun G' H' z l r d => p G' H' z (l1.trans l) r d⟩
end
end Sh

set_option Elab.async false
set_option linter.all false
set_option maxRecDepth 100000
set_option maxHeartbeats 4000000
/-! Sh36: sorted of texts, any number; of a dict with texts as keys; of ints. -/
namespace Sh
open PySem PySem.Spec PyProof.Rows L2 SrtO Srt

/-! ### by insertion -/
section
variable {α : Type} (le : α → α → Bool)
def insG (x : α) : List α → List α
  | [] => [x]
  | y :: r => if le x y then x :: y :: r else y :: insG x r
def sortG : List α → List α
  | [] => []
  | x :: r => insG le x (sortG r)
theorem ins_perm (x : α) : ∀ l : List α, (insG le x l).Perm (x :: l)
  | [] => .refl _
  | y :: r => by
    unfold insG
    split
    · exact .refl _
    · exact ((ins_perm x r).cons y).trans (.swap x y r)
theorem sort_perm : ∀ l : List α, (sortG le l).Perm l
  | [] => .refl _
  | x :: r => (ins_perm le x (sortG le r)).trans ((sort_perm r).cons x)
variable {le} (tot : ∀ x y, le x y = true ∨ le y x = true) (tr : ∀ x y z, le x y = true → le y z = true → le x z = true)
include tot tr in
theorem ins_pw (x : α) : ∀ l : List α, l.Pairwise (fun a b => le a b = true) → (insG le x l).Pairwise (fun a b => le a b = true)
  | [], _ => List.pairwise_singleton _ _
  | y :: r, h => by
    rw [List.pairwise_cons] at h
    unfold insG
    split
    · rename_i hxy
      refine List.pairwise_cons.mpr ⟨fun z hz => ?_, List.pairwise_cons.mpr h⟩
      rcases List.mem_cons.mp hz with rfl | hz
      · exact hxy
      · exact tr _ _ _ hxy (h.1 z hz)
    · rename_i hxy
      refine List.pairwise_cons.mpr ⟨fun z hz => ?_, ins_pw x r h.2⟩
      rcases List.mem_cons.mp ((ins_perm le x r).mem_iff.mp hz) with rfl | hz
      · rcases tot z y with h1 | h1
        · exact absurd h1 hxy
        · exact h1
      · exact h.1 z hz
include tot tr in
theorem sort_pw : ∀ l : List α, (sortG le l).Pairwise (fun a b => le a b = true)
  | [] => .nil
  | x :: r => ins_pw tot tr x _ (sort_pw r)
theorem sorted_uniq (anti : ∀ x y, le x y = true → le y x = true → x = y) : ∀ {a b : List α}, a.Perm b → a.Pairwise (fun x y => le x y = true) → b.Pairwise (fun x y => le x y = true) → a = b
  | [], b, p, _, _ => by rw [p.nil_eq]
  | x :: a, b, p, ha, hb => by
    cases b with
    | nil => exact absurd p.symm.nil_eq (by simp)
    | cons y b =>
      rw [List.pairwise_cons] at ha hb
      have e : x = y := by
        have hx : x ∈ y :: b := p.mem_iff.mp (List.mem_cons_self ..)
        have hy : y ∈ x :: a := p.mem_iff.mpr (List.mem_cons_self ..)
        rcases List.mem_cons.mp hx with h | h
        · exact h
        · rcases List.mem_cons.mp hy with h2 | h2
          · exact h2.symm
          · exact anti _ _ (ha.1 y h2) (hb.1 x h)
      subst e
      rw [sorted_uniq anti (List.perm_cons _ |>.mp p) ha.2 hb.2]
end
def leN (a b : List Nat) : Bool := !decide (b < a)
theorem leN_tot (a b : List Nat) : leN a b = true ∨ leN b a = true := by
  unfold leN
  by_cases h : b < a
  · right
    have := List.lt_asymm h
    simp [this]
  · left; simp [h]
theorem leN_tr (a b c : List Nat) (h1 : leN a b = true) (h2 : leN b c = true) : leN a c = true := by
  unfold leN at *
  simp only [Bool.not_eq_true', decide_eq_false_iff_not, List.not_lt] at *
  exact List.le_trans h1 h2
theorem leN_anti (a b : List Nat) (h1 : leN a b = true) (h2 : leN b a = true) : a = b := by
  unfold leN at *
  simp only [Bool.not_eq_true', decide_eq_false_iff_not, List.not_lt] at *
  exact List.le_antisymm h1 h2
def sortN : List (List Nat) → List (List Nat) := sortG leN
def leI (a b : Int) : Bool := decide (a ≤ b)
def sortI : List Int → List Int := sortG leI
theorem leI_tot (a b : Int) : leI a b = true ∨ leI b a = true := by unfold leI; simp only [decide_eq_true_eq]; omega
theorem leI_tr (a b c : Int) (h1 : leI a b = true) (h2 : leI b c = true) : leI a c = true := by unfold leI at *; simp only [decide_eq_true_eq] at *; omega
theorem leI_anti (a b : Int) (h1 : leI a b = true) (h2 : leI b a = true) : a = b := by unfold leI at *; simp only [decide_eq_true_eq] at *; omega
/-! ### the machine's sort -/
section
variable {prog : Program} {w : World} {A : Around} {E : Value → Shared → Prop} {s : Shared}
def sv : Value → List Nat
  | .str x _ => x.cps.toList
  | _ => []
def ltSv (v u : Value) : Bool := decide (sv v < sv u)
theorem swo_str : Swo ltSv := by
  refine ⟨fun x y h => ?_, fun x y z h1 h2 => ?_⟩
  · have a := of_decide_eq_true (p := sv x < sv y) h
    exact decide_eq_false (p := sv y < sv x) (List.lt_asymm a)
  · have a := of_decide_eq_false (p := sv y < sv x) h1
    have b := of_decide_eq_false (p := sv z < sv y) h2
    refine decide_eq_false (p := sv z < sv x) ?_
    rw [List.not_lt] at *
    exact List.le_trans a b
theorem strs_mem : ∀ {vs : List Value} {ns : List Str}, StrsAre vs ns → ∀ v ∈ vs, ∃ i t, v = Value.str i t
  | _, _, .nil, v, h => absurd h (by simp)
  | _, _, .cons n t r, v, h => by
    rcases List.mem_cons.mp h with e | h
    · exact ⟨n, t, e⟩
    · exact strs_mem r v h
theorem strs_sv : ∀ {vs : List Value}, (∀ v ∈ vs, ∃ i t, v = Value.str i t) → StrsAre vs (vs.map fun v => S (sv v))
  | [], _ => .nil
  | v :: vs, h => by
    obtain ⟨i, t, e⟩ := h v List.mem_cons_self
    subst e
    have e2 : S (sv (.str i t)) = i := S_cps i
    rw [List.map_cons, e2]
    exact .cons i t (strs_sv fun u hu => h u (List.mem_cons_of_mem _ hu))
theorem sv_strs : ∀ {vs : List Value} {ns : List Str}, StrsAre vs ns → vs.map sv = ns.map (·.cps.toList)
  | _, _, .nil => rfl
  | _, _, .cons n t r => congrArg (n.cps.toList :: ·) (sv_strs r)
theorem str_cmp {vs : List Value} {ns : List Str} (hI : StrsAre vs ns) : Cmp prog w A s oneType' (fun p => p.1 ∈ vs) (lt2 ltSv) := by
  intro p q hm hm'
  obtain ⟨a, t, e⟩ := strs_mem hI _ hm
  obtain ⟨b, u, e'⟩ := strs_mem hI _ hm'
  show wpAny (model prog w) A (keyLt' oneType' p.1 q.1) (fun r s' => s' = s ∧ r = ltSv p.1 q.1) (fun _ _ => False) s
  rw [e, e', keyLt'_oneType]
  exact oneLt_str ⟨rfl, rfl⟩
theorem strs_sortable {a : Addr} {vs : List Value} {ns : List Str} (hI : StrsAre vs ns) (h2 : 2 ≤ vs.length) : SortableO prog w A s a vs ltSv := by
  intro h' _
  refine ⟨oneType', fun Q E hq => ?_, str_cmp hI⟩
  match vs, hI, h2 with
  | v1 :: v2 :: rest, hI, _ =>
    rw [keyKind_strs hI]
    exact wpAny_pure hq
  | [], _, h => exact absurd h (by decide)
  | [v], _, h => exact absurd h (by simp)
theorem strs_out {vs out : List Value} {ns : List Str} (hI : StrsAre vs ns) (hs : Srtd ltSv out) (hb : Stb ltSv out vs) : StrsAre out (out.map fun v => S (sv v)) ∧ out.map sv = sortN (ns.map (·.cps.toList)) := by
  refine ⟨strs_sv fun v hv => strs_mem hI v (hb.perm.mem_iff.mp hv), ?_⟩
  have q := hb.perm.map sv
  rw [sv_strs hI] at q
  refine sorted_uniq leN_anti (q.trans (sort_perm leN _).symm) ?_ (sort_pw leN_tot leN_tr _)
  refine List.pairwise_map.mpr (hs.imp fun {x y} h => ?_)
  have h : decide (sv y < sv x) = false := h
  show (!decide (sv y < sv x)) = true
  rw [h]; rfl
end
section
variable {X : Cx} {T : Tb}
theorem strs_rds {K : PySem.W.Frag} {G : Gh} : ∀ (l : List (List Nat)), RDs K G (l.map D.str) ((l.map S).map V.str)
  | [] => .nil
  | x :: r => .cons (.str x) (strs_rds r)
theorem ints_rds {K : PySem.W.Frag} {G : Gh} : ∀ (l : List Int), RDs K G (l.map D.int) (l.map V.int)
  | [] => .nil
  | x :: r => .cons (.int x) (ints_rds r)
theorem sort_len {α : Type} {le : α → α → Bool} (l : List α) : (sortG le l).length = l.length := (sort_perm le l).length_eq
/-- sorted(xs), texts -/
theorem cr_sortedN : CallR X (.builtin "sorted") (fun vs H Q => ∃ (a : Addr) (l : List (List Nat)), vs = [V.ref a] ∧ SqL X.K H a ((l.map S).map V.str) ∧ ∀ p, H p = none → Q (.ref p) (upd H p (.lst (((sortN l).map S).map V.str)))) := by
  intro pins s σ H vs us Q I r h
  obtain ⟨a, l, rfl, hs, q⟩ := h
  obtain ⟨its, rv, hl, hz⟩ := I.list hs
  rw [Vals.ref1 r]
  have hi := rv.strs
  refine SrtO.sorted_ord swo_str hl.isList (by rw [← rv.length]; exact hz) (fun h2 h₁ a' _ _ => strs_sortable hi h2) fun out h1 h2 => ?_
  obtain ⟨k1, k2⟩ := strs_out hi h1 h2
  obtain ⟨ep, he'⟩ := PyProof.Rows.sortedAll_at s.heap its out.toArray
  have e1 : (l.map S).map (·.cps.toList) = l := by rw [List.map_map]; exact (List.map_congr_left fun y _ => S_toList y).trans (List.map_id _)
  rw [e1] at k2
  have e2 : out.map (fun v => S (sv v)) = (sortN l).map S := by rw [← k2, List.map_map]; rfl
  rw [e2] at k1
  have hlen : (((sortN l).map S).map V.str).length ≤ sizeLine := by
    rw [List.length_map, List.length_map, show (sortN l).length = l.length from sort_len l]
    rw [List.length_map, List.length_map] at hz
    exact hz
  exact ⟨.ref _, upd H (s.heap.objs.size + 1) (.lst (((sortN l).map S).map V.str)), I.laid (t' := s.toks) (fun _ _ => PyProof.Rows.sortedAll_old) (Nat.le_succ _) ⟨hlen, out, ep, vals_of_strs k1, he'⟩, rfl, q _ (I.hok.fresh (Nat.le_succ _))⟩
/-- sorted(d), d with texts as keys -/
theorem cr_sortedDN (hcalm : X.calm = true) : CallR X (.builtin "sorted") (fun xs H Q => ∃ (a : Addr) (kvs : List (Key × V)) (l : List (List Nat)), xs = [.ref a] ∧ Rd H a (.dK kvs) ∧ kvs.map (·.1) = (l.map S).map Sum.inr ∧
    ∀ p, H p = none → Q (.ref p) (upd H p (.lst (((sortN l).map S).map V.str)))) := by
  intro pins s σ H xs us Q I r q
  obtain ⟨a, kvs, l, ex, hd, hks, q⟩ := q
  subst ex
  obtain ⟨u, eu, rx⟩ := vals1 r
  subst eu
  cases rx
  obtain ⟨z, lo, vs, rel, dd⟩ := dk_rd I.hok hd
  obtain ⟨ep, hat⟩ := dd.dictAt
  have hkeys : vs.map (·.1) = (l.map S).map Sum.inr := rel.keys.symm.trans hks
  have hl : vs.length = (l.map S).length := by
    have e := congrArg List.length hkeys
    rw [List.length_map, List.length_map] at e
    exact e
  have hz : vs.length ≤ sizeLine := by rw [← rel.length]; exact z
  refine Calls.call_function_entry PyProof.Rows.kind_sorted PyProof.Rows.plain_sorted PyProof.Rows.entry_sorted (PyProof.Rows.args_sorted1 _) ?_
  unfold Builtin.«sorted»
  refine wpAny_bind (m := checkCount "sorted" 1 1 _) (wpAny_pure ?_)
  refine wpAny_bind (PySem.W.kdu_collect (A := X.A.in1) (PySem.W.kdl_dict (knd := mixKind X.prog X.w) (kvs := vs) (ep := ep) lo) (I.ok.hd hcalm) hat hz fun h' tk acc hk hacc => ?_)
  have hal : acc.toList.length = (l.map S).length := by rw [Array.length_toList, hacc.1, hl]
  have hS : StrsAre acc.toList (l.map S) := strs_at hal fun j v e => by
    obtain ⟨k, x, e1, e2⟩ := hacc.2 j v (by rw [← Array.getElem?_toList]; exact e)
    have e3 : (vs.map (·.1))[j]? = some k := by rw [List.getElem?_map, e1]; all_goals rfl
    rw [hkeys, List.getElem?_map] at e3
    cases e4 : (l.map S)[j]? with
    | none => rw [e4] at e3; cases e3
    | some y =>
      rw [e4] at e3
      have e5 : Sum.inr y = k := Option.some.inj e3
      subst e5
      obtain ⟨t, ev⟩ := Value.isStrOf_shape (x := y) (v := v) e2
      exact ⟨y, t, rfl, ev⟩
  have I1 : Inv X pins σ H { s with heap := h', toks := tk } := I.kept hk
  refine wpAny_bind (wpAny_newList ?_ (by rw [hal, ← hl]; exact hz))
  have hoL : (h'.push (seqObj "list" acc.toList.toArray 0)).get? h'.objs.size = some (seqObj "list" acc.toList.toArray 0) := Heap.get?_push_size _ rfl
  show wpAny _ _ _ _ _ { s with heap := h'.push (seqObj "list" acc.toList.toArray 0), toks := tk }
  refine wpAny_bind (wpAny_holding (wpAny_call_entry PyProof.Rows.slot_list_sort ⟨_, hoL, rfl⟩ PyProof.Rows.entry_list_sort
    (SrtO.list_sort_ord swo_str (s := { s with heap := h'.push (seqObj "list" acc.toList.toArray 0), toks := tk }) hoL (by rw [hal, ← hl]; exact hz) (fun h2 => strs_sortable hS h2) fun out h1 h2 => ⟨.none, rfl, ?_⟩) (PyProof.Rows.args_list_sort _)))
  obtain ⟨k1, k2⟩ := strs_out hS h1 h2
  have e1 : (l.map S).map (·.cps.toList) = l := by rw [List.map_map]; exact (List.map_congr_left fun y _ => S_toList y).trans (List.map_id _)
  rw [e1] at k2
  have e2 : out.map (fun v => S (sv v)) = (sortN l).map S := by rw [← k2, List.map_map]; rfl
  rw [e2] at k1
  obtain ⟨e', he'⟩ := PyProof.Rows.sortedHeap_at (vs := acc.toList) (out := out.toArray) hoL
  have hlen : (((sortN l).map S).map V.str).length ≤ sizeLine := by
    rw [List.length_map, List.length_map, show (sortN l).length = l.length from sort_len l]
    rw [hl, List.length_map] at hz
    exact hz
  refine wpAny_pure ⟨_, rfl, .ref h'.objs.size, upd H h'.objs.size (.lst (((sortN l).map S).map V.str)), I1.laid (t' := tk) (fun b u e => ?_) (Nat.le_refl _)
    (show ObjOk X.prog X.w _ _ _ (.lst _) from ⟨hlen, out, e', vals_of_strs k1, he'⟩), rfl, q _ (I1.hok.fresh (Nat.le_refl _))⟩
  have hb : b < h'.objs.size := Heap.lt_size e
  rw [PyProof.Rows.sortedHeap_old (Nat.ne_of_lt hb) (by rw [size_push']; exact Nat.lt_succ_of_lt hb)]
  exact Heap.get?_push_of_some _ e
/-- the keys, all texts -/
def keysN : List (Key × D) → Option (List (List Nat))
  | [] => some []
  | (.inr x, _) :: r => (keysN r).map fun l => x.cps.toList :: l
  | _ => none
theorem keysN_rd {K : PySem.W.Frag} {G : Gh} : ∀ {kvs : List (Key × D)} {vs : List (Key × V)} {l : List (List Nat)}, RKs K G kvs vs → keysN kvs = some l → vs.map (·.1) = (l.map S).map Sum.inr
  | _, _, _, .nil, e => by cases e; rfl
  | (k, x) :: xs, _, l, .cons r t, e => by
    cases k with
    | inl i => cases e
    | inr z =>
      have e : (keysN xs).map (fun l => z.cps.toList :: l) = some l := e
      cases q : keysN xs with
      | none => rw [q] at e; cases e
      | some m => rw [q] at e; cases e; rw [List.map_cons, keysN_rd t q, List.map_cons, List.map_cons, S_cps]
def bSorted : List D → LH → Option (D × LH) := fun ds h => match ds with
  | [x] => (match seqH h x with
    | some (false, xs) => (match strsD xs with
      | some l => some (.lst ((sortN l).map .str), h)
      | none => (intsOf xs).map fun l => (.lst ((sortI l).map .int), h))
    | _ => (match x with
      | .obj n => (match h[n]? with
        | some (.dic kvs) => (keysN kvs).map fun l => (.lst ((sortN l).map .str), h)
        | _ => none)
      | .dic kvs => (keysN kvs).map fun l => (.lst ((sortN l).map .str), h)
      | _ => none))
  | _ => none
theorem ints_sorted (l ns : List Int) (p : ns.Perm l) (q : ns.Pairwise (· ≤ ·)) : ns = sortI l :=
  sorted_uniq leI_anti (p.trans (sort_perm leI l).symm) (q.imp fun {x y} h => by show decide (x ≤ y) = true; exact decide_eq_true h) (sort_pw leI_tot leI_tr l)
theorem cd_sorted (hc : X.calm = true) : CallD X T (.builtin "sorted") bSorted := by
  intro pins s σ H xs us Q I r ⟨G, h, ds, d, h', rh, rd, e, k⟩
  unfold bSorted at e
  split at e
  · rename_i x
    cases rd with
    | cons r1 r2 =>
      cases r2
      split at e
      · rename_i ys es
        obtain ⟨a, vs, rfl, rr, hs⟩ := seqH_l rh r1 es
        split at e
        · rename_i l el
          cases e
          have ev := strsD_rd rr el
          subst ev
          exact cr_sortedN pins s σ H _ us Q I r ⟨a, l, rfl, hs, fin_lst (fun G' H' z l rh rd => k G' H' z l rh rd) rh (strs_rds _)⟩
        · cases q : intsOf ys with
          | none => rw [q] at e; cases e
          | some l =>
            rw [q] at e
            cases e
            have ev := intsOf_rd rr q
            subst ev
            exact cr_sortedI pins s σ H _ us Q I r ⟨a, l, rfl, hs, fun ns p hp1 hp2 hp => by
              rw [ints_sorted l ns hp1 hp2]
              exact fin_lst (fun G' H' z l rh rd => k G' H' z l rh rd) rh (ints_rds _) p hp⟩
      · split at e
        · rename_i n _ 
          split at e
          · rename_i kvs eo
            cases q : keysN kvs with
            | none => rw [q] at e; cases e
            | some l =>
              rw [q] at e
              cases e
              cases r1 with
              | @obj _ a ea =>
                obtain ⟨u, q1, q2⟩ := rh.at eo ea (fun z => by cases z)
                cases q2 with
                | @dic _ vs rr =>
                  exact cr_sortedDN hc pins s σ H _ us Q I r ⟨a, vs, l, rfl, .inl q1, keysN_rd rr q, fin_lst (fun G' H' z l rh rd => k G' H' z l rh rd) rh (strs_rds _)⟩
          · cases e
        · rename_i kvs _
          cases q : keysN kvs with
          | none => rw [q] at e; cases e
          | some l =>
            rw [q] at e
            cases e
            cases r1 with
            | @dic _ vs a hf rr =>
              exact cr_sortedDN hc pins s σ H _ us Q I r ⟨a, vs, l, rfl, .inl (rh.F _ _ hf), keysN_rd rr q, fin_lst (fun G' H' z l rh rd => k G' H' z l rh rd) rh (strs_rds _)⟩
        · cases e
  · cases e
end
end Sh

set_option Elab.async false
set_option linter.all false
set_option maxRecDepth 100000
set_option maxHeartbeats 4000000
/-! Sh37: dicts of the module: in, not in, walked, .items(); rstrip; lists given back; new dicts and update. -/
namespace Sh
open PySem PySem.Spec PyProof.Rows L2

structure KTab2 (K : PySem.W.Frag) (w : World) (a : Addr) (vs : List (Key × Value)) (es : Array DictEntry) (n : Nat) : Prop where
  raw : ∀ h : Heap, K.In h → h.get? a = some ⟨.type "dict", none, .dict es n, #[]⟩
  sz : es.size = vs.length
  at_ : ∀ (P : Program) (h : Heap), K.In h → h.DictAt (mixKind P w) a vs n
def GTab2 (X : Cx) (x : Str) (kvs : List (List Nat × D)) : Prop := ∃ a vs, X.mg x = some (.ref a) ∧ KTab X.K X.w a kvs vs ∧ ∃ es n, KTab2 X.K X.w a vs es n
theorem GTab2.g {X : Cx} {x : Str} {kvs : List (List Nat × D)} (h : GTab2 X x kvs) : GTab X x kvs := let ⟨a, vs, h1, h2, _⟩ := h; ⟨a, vs, h1, h2⟩
theorem ents_len {K : PySem.W.Frag} : ∀ (kvs : List (List Nat × D)) (es : List DictEntry), entsB K kvs es = true → es.length = kvs.length
  | [], [], _ => rfl
  | p :: ps, e :: es, h => by
    obtain ⟨_, h2⟩ := and2 h
    rw [List.length_cons, List.length_cons, ents_len ps es h2]
  | [], _ :: _, h => by cases h
  | _ :: _, [], h => by cases h
theorem ktab2_of {K : PySem.W.Frag} {w : World} {a : Addr} {es : Array DictEntry} {n : Nat} {kvs : List (List Nat × D)} (Dk : KDict K w a es n) (h : dcB K a kvs = true) (hl : decide (kvs.length ≤ 1000) = true) (hn : decide ((kvs.map (·.1)).Nodup) = true) : ∃ vs, KTab K w a kvs vs ∧ ∃ es n, KTab2 K w a vs es n := by
  unfold dcB at h
  rw [Dk.at_] at h
  obtain ⟨vs, a1, a2, a3⟩ := ents_ok (w := w) kvs es.toList h
  have nd : (vs.map (·.1)).Nodup := by
    rw [a2, show (kvs.map fun p => (.inr (S p.1) : Key)) = (kvs.map (·.1)).map fun l => (.inr (S l) : Key) from by rw [List.map_map]; rfl]
    exact List.Pairwise.map _ (fun x y hne z => hne (S_inj (Sum.inr.inj z))) (of_decide_eq_true hn)
  have dat : ∀ (P : Program) (hh : Heap), K.In hh → hh.DictAt (mixKind P w) a vs n := fun P hh X => by
    refine ⟨_, es, X _ _ Dk.at_, ⟨rfl, rfl, rfl⟩, rfl, fun e he => ?_, a1 P, nd⟩
    obtain ⟨x, t, ek, eh⟩ := Dk.lit.all e (by simpa using he)
    exact ⟨.inr x, (show keyIs (.inr x) e.key = true from by rw [ek]; exact keyIs_str x t), eh⟩
  refine ⟨vs, ⟨fun P hh X => ?_, Dk.low, a3, of_decide_eq_true hl⟩, es, n, fun hh X => X _ _ Dk.at_, ?_, dat⟩
  · obtain ⟨o, es', r⟩ := dat P hh X
    exact ⟨o, es', n, r⟩
  · rw [← Paired.length a3, ← ents_len kvs es.toList h, Array.length_toList]
section
variable {X : Cx} {T : Tb} {W : WX} {pos p : Pos} {e : Expr} {me : Ev} {x : Str} {kvs : List (List Nat × D)}
/-! ### e in x, e not in x -/
def eKin (neg : Bool) (kvs : List (List Nat × D)) (b : Ev) : Ev := fun ρ h => (b ρ h).bind fun k h1 => match k with
  | .str z => .ok (.bl (neg != (lookN kvs z).isSome)) h1
  | _ => .err
theorem look_some {a : Addr} {vs : List (Key × Value)} (tb : KTab X.K X.w a kvs vs) (z : List Nat) : (valueAt vs (.inr (S z) : Key)).isSome = (lookN kvs z).isSome := by
  obtain ⟨h1, h2⟩ := lookN_rel (z := z) tb.rel
  cases q : lookN kvs z with
  | none => rw [h2 q]; rfl
  | some d => obtain ⟨u, v, e, _⟩ := h1 d q; rw [e]; rfl
theorem op_kin {a : Addr} {vs : List (Key × Value)} (tb : KTab X.K X.w a kvs vs) : OpR X (compareOp .In) (fun x y H Q => ∃ z, x = .str (S z) ∧ y = .ref a ∧ Q (.bl (lookN kvs z).isSome) H) := by
  intro pins s σ H x y v u Q I rx ry ⟨z, ex, ey, q⟩
  subst ex ey
  obtain ⟨t, rfl⟩ := rx
  cases ry
  have dd := tb.at_ X.prog s.heap I.kIn
  refine wpAny_in_of (str_is (P := X.prog) (w := X.w)) tb.low dd.mapOf ?_
  rw [look_some tb z]
  exact ⟨.bl _, H, I.tok _, rfl, q⟩
theorem op_knin {a : Addr} {vs : List (Key × Value)} (tb : KTab X.K X.w a kvs vs) : OpR X (compareOp .NotIn) (fun x y H Q => ∃ z, x = .str (S z) ∧ y = .ref a ∧ Q (.bl (!(lookN kvs z).isSome)) H) := by
  intro pins s σ H x y v u Q I rx ry ⟨z, ex, ey, q⟩
  subst ex ey
  obtain ⟨t, rfl⟩ := rx
  cases ry
  have dd := tb.at_ X.prog s.heap I.kIn
  refine wpAny_notIn_of (str_is (P := X.prog) (w := X.w)) tb.low dd.mapOf ?_
  rw [look_some tb z]
  exact ⟨.bl _, H, I.tok _, rfl, q⟩
theorem kin_red {neg : Bool} {a : Addr} {σ : L2.St} {H : Hp} {Q : VK} (k : tE X.K T W (eKin neg kvs me) σ H Q) : tOp (fun x y H Q => ∃ z, x = .str (S z) ∧ y = .ref a ∧ Q (.bl (neg != (lookN kvs z).isSome)) H) (tE X.K T W me) (tC (.ref a)) σ H Q := by
  obtain ⟨G, ρ, h, re, rh, p⟩ := k
  refine ⟨G, ρ, h, re, rh, ?_⟩
  unfold eKin at p
  cases e1 : me ρ h with
  | exc c h1 => rw [e1] at p; exact p
  | err => rw [e1] at p; exact p.elim
  | ok y h1 =>
    rw [e1] at p
    intro G1 H1 v1 l1 rh1 rd1
    cases rd1 with
    | str z => exact ⟨z, rfl, rfl, p G1 H1 _ l1 rh1 (.bl _)⟩
    | _ => exact p.elim
theorem bne_ff {b : Bool} : (false != b) = b := by cases b <;> rfl
theorem bne_tt {b : Bool} : (true != b) = !b := by cases b <;> rfl
theorem de_kin (hg : Gl X x) (ht : GTab X x kvs) (he : DE X T W e me) (hd : (x == ("__debug__" : Str)) = false := by decide) (hm : behindInMarks .In (.Name x p) = false := by first | exact nomark _ | rfl) : DE X T W (.Compare e [.In] [.Name x p] pos) (eKin false kvs me) := by
  obtain ⟨a, vs, h1, tb⟩ := ht
  refine ⟨PE.imp (pe_cmpR (op_kin tb) he.p (pe_glob (v := .ref a) hg h1 rfl hd) hm) fun σ H Q k => ?_⟩
  have q := kin_red (a := a) k
  simp only [bne_ff] at q
  exact q
theorem dt_kin (hg : Gl X x) (ht : GTab X x kvs) (he : DE X T W e me) (hd : (x == ("__debug__" : Str)) = false := by decide) (hm : behindInMarks .In (.Name x p) = false := by first | exact nomark _ | rfl) : DT X T W (.Compare e [.In] [.Name x p] pos) (bTest (eKin false kvs me)) := by
  obtain ⟨a, vs, h1, tb⟩ := ht
  refine ⟨PT.imp (pt_cmpR (op_kin tb) he.p (pe_glob (v := .ref a) hg h1 rfl hd) hm) fun σ H Q k => ?_⟩
  obtain ⟨G, ρ, h, re, rh, p⟩ := test_red k
  have q := kin_red (a := a) (T := T) (W := W) ⟨G, ρ, h, re, rh, p⟩
  simp only [bne_ff] at q
  exact q
theorem de_knin (hg : Gl X x) (ht : GTab X x kvs) (he : DE X T W e me) (hd : (x == ("__debug__" : Str)) = false := by decide) (hm : behindInMarks .NotIn (.Name x p) = false := by first | exact nomark _ | rfl) : DE X T W (.Compare e [.NotIn] [.Name x p] pos) (eKin true kvs me) := by
  obtain ⟨a, vs, h1, tb⟩ := ht
  refine ⟨PE.imp (pe_cmpR (op_knin tb) he.p (pe_glob (v := .ref a) hg h1 rfl hd) hm) fun σ H Q k => ?_⟩
  have q := kin_red (a := a) k
  simp only [bne_tt] at q
  exact q
theorem dt_knin (hg : Gl X x) (ht : GTab X x kvs) (he : DE X T W e me) (hd : (x == ("__debug__" : Str)) = false := by decide) (hm : behindInMarks .NotIn (.Name x p) = false := by first | exact nomark _ | rfl) : DT X T W (.Compare e [.NotIn] [.Name x p] pos) (bTest (eKin true kvs me)) := by
  obtain ⟨a, vs, h1, tb⟩ := ht
  refine ⟨PT.imp (pt_cmpR (op_knin tb) he.p (pe_glob (v := .ref a) hg h1 rfl hd) hm) fun σ H Q k => ?_⟩
  obtain ⟨G, ρ, h, re, rh, p⟩ := test_red k
  have q := kin_red (a := a) (T := T) (W := W) ⟨G, ρ, h, re, rh, p⟩
  simp only [bne_tt] at q
  exact q
end
/-! ### for k in x, for k, v in x.items() -/
def Itkk (vs : List (Key × Value)) : It := ⟨fun i _ => i < vs.length, fun i H x H' => H' = H ∧ ∃ k u, vs[i]? = some (k, u) ∧ x = kV k, fun i _ => vs.length ≤ i⟩
def Itki (vs : List (Key × Value)) : It := ⟨fun i _ => i < vs.length, fun i H x H' => ∃ T k u v, vs[i]? = some (k, u) ∧ RelV v u ∧ x = .ref T ∧ H T = none ∧ H' = upd H T (.tup [kV k, v]), fun i _ => vs.length ≤ i⟩
theorem turn_kk {P : Program} {w : World} {K : PySem.W.Frag} {tg : Expr} {d : Addr} {vs : List (Key × Value)} {es : Array DictEntry} {n : Nat} (tb : KTab2 K w d vs es n) (it : Addr) : Turn P w K tg (Itkk vs) [it] it (fun i h => h.IsKeyIter it d i vs.length n) where
  mem := by simp
  obj := fun i h st b hb => by
    have e : b = it := by simpa using hb
    subst e
    obtain ⟨oi, e, c, dd⟩ := st
    exact ⟨oi, e, fun v z => by rw [dd] at z; cases z⟩
  keep := fun i h h' st k => st.at fun oi e => k it (by simp) oi e
  item := by
    intro X hP hw hK hc i pins s σ H E I hf st hg
    subst hP hw hK
    obtain ⟨f0, f1, f2, f3, f4, f5⟩ := hf it (by simp)
    have hm := tb.at_ X.prog s.heap I.kIn
    obtain ⟨⟨k, u⟩, hu⟩ : ∃ p, vs[i]? = some p := ⟨vs[i], List.getElem?_eq_getElem hg⟩
    refine wpAny_pyNext_dict_item st hm hu fun key h' hkey st' sb => ?_
    have I1 : Inv X pins σ H { s with heap := h' } := I.turned (t' := s.toks) (fun b ob hb e => (sb.2 b hb).trans e) f0 f1 f3 f4 f5
    obtain ⟨oi, e, c, dd⟩ := id st'
    exact ⟨key, rfl, go_of (s := { s with heap := h' }) e c dd (by decide) ⟨kV k, H, I1, relV_key (show keyIs k key = true from hkey), ⟨rfl, k, u, hu, rfl⟩, st', fun b hb => (hf b hb).1⟩⟩
  done := by
    intro X hP hw hK hc i pins s σ H E I hf st hg
    subst hP hw hK
    obtain ⟨f0, f1, f2, f3, f4, f5⟩ := hf it (by simp)
    exact next_key_end (I.ok.hd hc) st (tb.raw s.heap I.kIn) rfl tb.sz hg fun h' eb => ⟨rfl, I.turned (t' := s.toks) (fun b ob hb e => eb b ob hb e) f0 f1 f3 f4 f5⟩
  self := fun A i s Q E st h => wpAny_pyIter_keyiter st h
theorem turn_ki {P : Program} {w : World} {K : PySem.W.Frag} {elts : List Expr} {kk : Nat} {tpos : Pos} {d : Addr} {vs : List (Key × Value)} {es : Array DictEntry} {n : Nat} (tb : KTab2 K w d vs es n) (hv : ∀ p ∈ vs, ∃ v, RelV v p.2) (it : Addr) :
    Turn P w K (.Tuple elts kk tpos) (Itki vs) [it] it (fun i h => ∃ ok ov, IsItemIter h it d i vs.length n ok ov) where
  mem := by simp
  obj := fun i h st b hb => by
    have e : b = it := by simpa using hb
    subst e
    obtain ⟨ok, ov, e⟩ := st
    exact ⟨_, e, fun v z => nomatch z⟩
  keep := fun i h h' st k => let ⟨ok, ov, e⟩ := st; ⟨ok, ov, k it (by simp) _ e⟩
  item := by
    intro X hP hw hK hc i pins s σ H E I hf st hg
    subst hP hw hK
    have hm := tb.at_ X.prog s.heap I.kIn
    obtain ⟨⟨k, u⟩, hu⟩ : ∃ p, vs[i]? = some p := ⟨vs[i], List.getElem?_eq_getElem hg⟩
    obtain ⟨v, ru⟩ := hv _ (List.mem_of_getElem? hu)
    obtain ⟨ok, ov, he⟩ := st
    have hlt : it < s.heap.objs.size := Heap.lt_size he
    refine wpAny_pyNext_items_item he hm hu fun key h' hkey ho hT hz hk => ?_
    refine ⟨_, rfl, wpAny_letOwnedTupleGo_items (s := { s with heap := h' }) ho fun h'' he' sb => ?_⟩
    have hT2 : h''.get? s.heap.objs.size = some { cls := .type "tuple", data := .seq #[key, u] } := (sb.2 _ (Nat.ne_of_gt hlt)).trans hT
    have new : ObjOk X.prog X.w (upd H s.heap.objs.size (.tup [kV k, v])) h'' s.heap.objs.size (.tup [kV k, v]) :=
      ⟨by show 2 ≤ sizeLine; decide, [key, u], .cons (relV_key (show keyIs k key = true from hkey)) (.cons ru .nil), ⟨_, hT2, rfl, _, rfl⟩⟩
    have I1 : Inv X pins σ (upd H s.heap.objs.size (.tup [kV k, v])) { s with heap := h'' } :=
      I.turnedNew (t' := s.toks) (ch := [it]) (fun b ob hb e => (sb.2 b (by simpa using hb)).trans (hk b ob (by simpa using hb) e)) hf (Nat.le_refl _) new
    refine ⟨.ref s.heap.objs.size, _, I1, rfl, ⟨_, k, u, v, hu, ru, rfl, I.hok.fresh (Nat.le_refl _), rfl⟩, ⟨key, u, he'⟩, fun b hb => ?_⟩
    have e : b = it := by simpa using hb
    rw [e, upd_ne (Nat.ne_of_lt hlt)]
    exact (hf it (by simp)).1
  done := by
    intro X hP hw hK hc i pins s σ H E I hf st hg
    subst hP hw hK
    obtain ⟨f0, f1, f2, f3, f4, f5⟩ := hf it (by simp)
    have hm := tb.at_ X.prog s.heap I.kIn
    obtain ⟨ok, ov, he⟩ := st
    exact wpAny_pyNext_items_end (I.ok.hd hc) he hm (List.getElem?_eq_none hg) fun h' eb => ⟨rfl, I.turned (t' := s.toks) (fun b ob hb e => eb b ob hb e) f0 f1 f3 f4 f5⟩
  self := fun A i s Q E st h => let ⟨_, _, e⟩ := st; PySem.W.kcp_self e h
theorem paired_mem {α β : Type} {R : α → β → Prop} : ∀ {l : List α} {m : List β}, Paired R l m → ∀ q ∈ m, ∃ p, R p q
  | _, _, .nil, q, h => absurd h (by simp)
  | _, _, .cons r t, q, h => by
    rcases List.mem_cons.mp h with e | h
    · exact ⟨_, e ▸ r⟩
    · exact paired_mem t q h
section
variable {X : Cx} {T : Tb} {W : WX} {tg : Expr} {pos p apos : Pos} {x : Str} {kvs : List (List Nat × D)}
def iKk (kvs : List (List Nat × D)) : Iv := fun _ h => .ok ⟨kvs.map fun q => .str q.1, none⟩ h
theorem di_kk (hg : Gl X x) (ht : GTab2 X x kvs) (hd : (x == ("__debug__" : Str)) = false := by decide) : DI X T W tg (.Name x p) (iKk kvs) := by
  obtain ⟨a, vs, hm, tb, es, n, t2⟩ := ht
  have hp : PI X tg (.Name x p) (fun σ H R => R (Itkk vs) H) := ⟨fun pins s σ H R I q => by
    refine thn ((pe_glob (v := .ref a) hg hm rfl hd).run pins s σ H (fun v H' => v = .ref a ∧ R (Itkk vs) H') I ⟨rfl, q⟩) fun u s1 ⟨y, H1, I1, ry, ey, q⟩ => ?_
    subst ey
    obtain rfl : u = Value.ref a := ry
    refine iter_keys tb.low (t2.raw s1.heap I1.kIn) ⟨rfl, rfl, rfl⟩ rfl (pi_one (tk := s1.toks) I1 _ (turn_kk t2 _) ⟨_, Heap.get?_push_size _ rfl, rfl, ?_⟩ q)
    rw [t2.sz] <;> rfl⟩
  refine ⟨PI.imp hp fun σ H R ⟨G, ρ, h, re, rh, p⟩ => p G H _ (.refl G) rh ?_⟩
  intro G1 h1 H1 l1 r1 _ i
  have hl : kvs.length = vs.length := Paired.length tb.rel
  refine ⟨fun d e => ?_, fun hle => ?_⟩
  · have e : (kvs.map fun q => D.str q.1)[i]? = some d := e
    rw [List.getElem?_map] at e
    cases e1 : kvs[i]? with
    | none => rw [e1] at e; cases e
    | some q =>
      rw [e1] at e
      cases e
      obtain ⟨b, hb, er, _⟩ := paired_get tb.rel e1
      refine ⟨(List.getElem?_eq_some_iff.mp hb).1, fun v H' ⟨eH, k, u, e2, ev⟩ => ?_⟩
      rw [hb] at e2
      subst eH ev
      have e3 : b = (k, u) := Option.some.inj e2
      rw [e3] at er
      have er : k = .inr (S q.1) := er
      subst er
      exact ⟨G1, .refl _, r1, .str _⟩
  · have hle : (kvs.map fun q => D.str q.1).length ≤ i := hle
    rw [List.length_map, hl] at hle
    exact hle
def iKki (kvs : List (List Nat × D)) : Iv := fun _ h => .ok ⟨kvs.map fun q => .tup [.str q.1, q.2], none⟩ h
theorem di_kki {elts : List Expr} {kk : Nat} {tpos : Pos} (hg : Gl X x) (ht : GTab2 X x kvs) (hd : (x == ("__debug__" : Str)) = false := by decide) (hbase : attributeBase (.Name x p) "items" X.env (eval (.Name x p) X.env) = eval (.Name x p) X.env := by rfl) (hline : (apos.endLine == pos.line) = true := by rfl) :
    DI X T W (.Tuple elts kk tpos) (.Call (.Attribute (.Name x p) "items" apos) [] [] pos) (iKki kvs) := by
  obtain ⟨a, vs, hm, tb, es, n, t2⟩ := ht
  have hv : ∀ q ∈ vs, ∃ v, RelV v q.2 := fun q hq => by
    obtain ⟨_, _, v, r, _⟩ := paired_mem tb.rel q hq
    exact ⟨v, r⟩
  have hp : PI X (.Tuple elts kk tpos) (.Call (.Attribute (.Name x p) "items" apos) [] [] pos) (fun σ H R => R (Itki vs) H) := ⟨fun pins s σ H R I q => by
    refine wpAny_Call_method (T := "dict") (id := "dict.items") hbase rfl hline F.plainAttrs_dict F.slot_dict_items F.type_dict_items (thn ((pe_glob (v := .ref a) hg hm rfl hd).run pins s σ H (fun v H' => v = .ref a ∧ R (Itki vs) H') I ⟨rfl, q⟩) fun u s1 ⟨y, H1, I1, ry, ey, q⟩ => ?_)
    subst ey
    obtain rfl : u = Value.ref a := ry
    have hA := t2.at_ X.prog s1.heap I1.kIn
    have hO := tb.at_ X.prog s1.heap I1.kIn
    refine ⟨hO.typeIs, hO.mapOf.noDict, ?_⟩
    have I2 : Inv X pins σ H1 { s1 with heap := s1.heap.push { cls := .type "dict_items", data := .fields #[.ref a] } } := I1.kept (t' := s1.toks) fun b ob q => Heap.get?_push_of_some _ q
    have fin : wpAny (model X.prog X.w) X.A (pyIter (.ref s1.heap.objs.size)) (PIE X pins σ (.Tuple elts kk tpos) R) X.xe { s1 with heap := s1.heap.push { cls := .type "dict_items", data := .fields #[.ref a] } } := by
      refine wpAny_pyIter_items (d := a) (knd := mixKind X.prog X.w) ⟨_, Heap.get?_push_size _ rfl, rfl, rfl⟩ (hA.push _) (pi_one (tk := s1.toks) I2 _ (turn_ki t2 hv _) ⟨.none, .none, ?_⟩ q)
      exact Heap.get?_push_size _ rfl
    show wpAny _ _ (callWith pos (.builtin "dict.items") [.ref a] [] []) _ X.xe s1
    exact method_meetsIn F.slot_dict_items F.entry_dict_items rfl (PySem.evalArgs_none ⟨rfl, hO.typeIs, F.args_dict_items_1 _, _, meets_dict_items (mixKind X.prog X.w) a tb.low, ⟨vs, hO⟩, fin⟩)⟩
  refine ⟨PI.imp hp fun σ H R ⟨G, ρ, h, re, rh, p⟩ => p G H _ (.refl G) rh ?_⟩
  intro G1 h1 H1 l1 r1 _ i
  have hl : kvs.length = vs.length := Paired.length tb.rel
  refine ⟨fun d e => ?_, fun hle => ?_⟩
  · have e : (kvs.map fun q => D.tup [D.str q.1, q.2])[i]? = some d := e
    rw [List.getElem?_map] at e
    cases e1 : kvs[i]? with
    | none => rw [e1] at e; cases e
    | some q =>
      rw [e1] at e
      cases e
      obtain ⟨b, hb, er, v0, rv0, rd0⟩ := paired_get tb.rel e1
      refine ⟨(List.getElem?_eq_some_iff.mp hb).1, fun v H' ⟨TT, k, u, w, e2, rw2, ev, hT, eH⟩ => ?_⟩
      rw [hb] at e2
      subst eH ev
      have e3 : b = (k, u) := Option.some.inj e2
      rw [e3] at er rv0
      have er : k = .inr (S q.1) := er
      subst er
      have ew : w = v0 := RelV.inj rw2 rv0
      subst ew
      have lp := Gh.put_le (o := .tup [kV (.inr (S q.1)), w]) (r1.notF hT)
      exact ⟨G1.put TT (.tup [kV (.inr (S q.1)), w]), lp, r1.new hT _, .tup (SqT.of (by show upd G1.F _ _ _ = _; rw [upd_same]; rfl)) (.cons (.str _) (.cons (rd0 _) .nil))⟩
  · have hle : (kvs.map fun q => D.tup [D.str q.1, q.2]).length ≤ i := hle
    rw [List.length_map, hl] at hle
    exact hle
end
end Sh

set_option Elab.async false
set_option linter.all false
set_option maxRecDepth 100000
set_option maxHeartbeats 4000000
/-! Sh38: rstrip of signs; a list given back; new dicts and update; == of lists that may be changed. -/
namespace Sh
open PySem PySem.Spec PyProof.Rows L2

section
variable {X : Cx} {T : Tb} {W : WX} {pos p apos : Pos} {e a b : Expr} {me ma mb : Ev}
def gRstripC (a b : List Nat) : Option D := if fits a.length then some (.str (cp (Txt.rstripChars (S a) (S b)))) else none
theorem md_rstripC : MtD X T "str.rstrip" (mS1 gRstripC) := md_s1 mt_rstripChars fun a b d H Q e k => by
  unfold gRstripC at e
  split at e
  · rename_i hl
    cases e
    exact ⟨_, _, rfl, rfl, by rw [S_len]; exact fits_ok hl, k _ fun G => rd_cp _⟩
  · cases e
/-! ### return, a list (a dict) that is changed no more -/
def frzD (d : D) (h : LH) : Option (D × LH) := match d with
  | .obj n => (match h[n]? with
    | some (.lst xs) => some (.lst xs, h.set n .gone)
    | some (.dic xs) => some (.dic xs, h.set n .gone)
    | _ => none)
  | _ => none
theorem frz_red {K : PySem.W.Frag} {G : Gh} {h h' : LH} {H : Hp} {d d' : D} {v : V} (rh : RH K T G h H) (r : RD K G d v) (e : frzD d h = some (d', h')) : ∃ G', G.le G' ∧ RH K T G' h' H ∧ RD K G' d' v := by
  unfold frzD at e
  split at e
  · rename_i n
    cases r with
    | @obj _ a ea =>
      split at e
      · rename_i xs eo
        cases e
        obtain ⟨u, q1, q2⟩ := rh.at eo ea (fun z => by cases z)
        cases q2 with
        | @lst _ vs r =>
          obtain ⟨l, r2⟩ := rh.freeze eo ea (fun z => by cases z) q1
          exact ⟨_, l, r2, .lst (by show upd G.F a _ a = _; rw [upd_same]) (r.mono l)⟩
      · rename_i xs eo
        cases e
        obtain ⟨u, q1, q2⟩ := rh.at eo ea (fun z => by cases z)
        cases q2 with
        | @dic _ vs r =>
          obtain ⟨l, r2⟩ := rh.freeze eo ea (fun z => by cases z) q1
          exact ⟨_, l, r2, .dic (by show upd G.F a _ a = _; rw [upd_same]) (r.mono l)⟩
      · cases e
  · cases e
def sRetF (me : Ev) : Sv := fun ρ h => (me ρ h).st ρ fun d h1 => match frzD d h1 with
  | some (d', h2) => .rt d' h2
  | none => .er
theorem ds_retF (he : DE X T W e me) : DS X T W (.Return (some e) pos) (sRetF me) := ⟨PS.imp (ps_ret he.p) fun E σ H ⟨G, ρ, h, re, rh, p⟩ =>
  e_red re rh p fun d h1 G1 H1 v l1 r1 d1 q => by
    cases q1 : frzD d h1 with
    | none => simp only [q1] at q; exact q.elim
    | some z =>
      obtain ⟨d', h2⟩ := z
      simp only [q1] at q
      obtain ⟨G2, l2, r2, rd2⟩ := frz_red r1 d1 q1
      exact q G2 H1 v l2 r2 rd2⟩
/-! ### new dicts -/
def eNewD : Ev := fun _ h => .ok (.obj h.length) (h ++ [.dic []])
theorem de_newD : DE X T W (.Dict [] [] pos) eNewD := ⟨PE.imp pe_dnewK fun σ H Q ⟨G, ρ, h, re, rh, p⟩ q hq =>
  fin_new (fun G' H' z l r d => p G' H' z l r d) rh q hq (.dic .nil)⟩
/-- .. that is never changed -/
theorem de_dic0 : DE X T W (.Dict [] [] pos) (eC (.dic [])) := ⟨PE.imp pe_dnewK fun σ H Q ⟨G, ρ, h, re, rh, p⟩ q hq => by
  have l := Gh.put_le (o := .dK []) (rh.notF hq)
  exact p (G.put q (.dK [])) _ _ l (rh.new hq _) (.dic (by show upd G.F q _ q = _; rw [upd_same]) .nil)⟩
/-! ### d.update(more) -/
def mUpdate : Mf := fun x ds h => match x, ds with
  | .obj n, [.dic more] => (match h[n]? with
    | some (.dic kvs) => if fits (kvs.length + more.length) then some (.non, h.set n (.dic (mergeD kvs more))) else none
    | _ => none)
  | _, _ => none
theorem md_update : MtD X T "dict.update" mUpdate := by
  intro pins s σ H x xs v us Q I rx rxs ⟨G, h, dx, ds, d, h', rh, rd, rds, e, k⟩
  unfold mUpdate at e
  split at e
  · rename_i n more
    split at e
    · rename_i kvs eo
      split at e
      · rename_i hf
        cases e
        cases rd with
        | @obj _ a ea =>
          obtain ⟨u, q1, q2⟩ := rh.at eo ea (fun z => by cases z)
          cases q2 with
          | @dic _ vs r =>
            cases rds with
            | cons r1 r2 =>
              cases r2
              cases r1 with
              | @dic _ ws b hb rm =>
                have hbH := rh.F _ _ hb
                have hab : a ≠ b := fun z => by
                  have := rh.nF eo ea (fun z => by cases z)
                  rw [z, hb] at this; cases this
                cases rx
                obtain ⟨u1, eu, ru⟩ := rxs.one
                subst eu
                cases ru
                obtain ⟨z1, hd1, va, rel1, dd1⟩ := dk_of I.hok q1
                obtain ⟨z2, hd2, vb, rel2, dd2⟩ := dk_of I.hok hbH
                have hz : kvs.length + more.length ≤ sizeLine := fits_ok hf
                have e1 : va.length = kvs.length := by rw [r.length]; exact (Paired.length rel1).symm
                have e2 : vb.length = more.length := by rw [rm.length]; exact (Paired.length rel2).symm
                refine call_meetsIn PySem.F.slot_dict_update dd1.typeIs PySem.F.entry_dict_update (PySem.F.args_dict_update_2 _ _) (meets_dict_update (mixKind X.prog X.w) a b hab hd2)
                  ⟨va, vb, dd1, dd2, by omega, fun h' hm _ hs => ?_⟩
                have he : ∃ q, h'.get? a = some q := let ⟨q, _, _, hq, _⟩ := hm; ⟨q, hq⟩
                have hlen : (mergeK vs ws).length ≤ sizeLine := by
                  have := length_mergeK ws vs
                  rw [← r.length, ← rm.length] at this
                  omega
                refine ⟨.non, _, d_write I (t' := s.toks) (by rw [q1]; exact True.intro) hs he (dk_new hlen hd1 (KV.merge rel2 rel1) hm), rfl, ?_⟩
                exact k G _ .non (.refl G) (rh.set eo ea (fun z => by cases z) (.dic (rm.merge r))) .non
      · cases e
    · cases e
  · cases e
end
end Sh

set_option Elab.async false
set_option linter.all false
set_option maxRecDepth 100000
set_option maxHeartbeats 4000000
/-! Sh39: == and != of lists that may be changed. -/
namespace Sh
open PySem PySem.Spec PyProof.Rows L2

/-- what stands in a list that may be changed, now -/
def topL (h : LH) (d : D) : D := match d with
  | .obj n => (match h[n]? with
    | some (.lst xs) => .lst xs
    | _ => d)
  | _ => d
theorem topL_dp {K : PySem.W.Frag} {T : Tb} {G : Gh} {h : LH} {H : Hp} {d : D} {v : V} {p : PyData} (rh : RH K T G h H) (r : RD K G d v) (e : toPy (topL h d) = some p) : Dp K H v p := by
  unfold topL at e
  split at e
  · rename_i n
    split at e
    · rename_i xs eo
      cases r with
      | @obj _ a ea =>
        obtain ⟨u, q1, q2⟩ := rh.at eo ea (fun z => by cases z)
        cases q2 with
        | @lst _ vs r =>
          unfold toPy at e
          cases e1 : toPys xs with
          | none => rw [e1] at e; cases e
          | some ps => rw [e1] at e; cases e; exact .lst (SqL.of q1) (dps_of rh.F r e1)
    · cases e
  · exact dp_of rh.F r e
theorem topL_id {h : LH} {d : D} (hn : ∀ n, d ≠ .obj n) : topL h d = d := by
  unfold topL
  split
  · exact absurd rfl (hn _)
  · rfl
theorem topL_int {h : LH} {d : D} {i : Int} (e : topL h d = .int i) : d = .int i := by
  unfold topL at e
  split at e
  · split at e <;> cases e
  · exact e
theorem topL_str {h : LH} {d : D} {i : List Nat} (e : topL h d = .str i) : d = .str i := by
  unfold topL at e
  split at e
  · split at e <;> cases e
  · exact e
theorem topL_bl {h : LH} {d : D} {i : Bool} (e : topL h d = .bl i) : d = .bl i := by
  unfold topL at e
  split at e
  · split at e <;> cases e
  · exact e
def rOpH (K : PySem.W.Frag) (T : Tb) (f : D → D → Option D) : R2 := fun x y H Q => ∃ G h dx dy d, RH K T G h H ∧ RD K G dx x ∧ RD K G dy y ∧ f (topL h dx) (topL h dy) = some d ∧ ∀ G' H' z, G.le G' → RH K T G' h H' → RD K G' d z → Q z H'
abbrev OpH (X : Cx) (T : Tb) (fv : Value → Value → Sem Value) (f : D → D → Option D) : Prop := OpR X fv (rOpH X.K T f)
section
variable {X : Cx} {T : Tb} {W : WX} {pos : Pos} {a b : Expr} {ma mb : Ev} {f : D → D → Option D}
theorem eqH_red {G : Gh} {h : LH} {H : Hp} {dx dy : D} {x y : V} {k : Bool} (rh : RH X.K T G h H) (r1 : RD X.K G dx x) (r2 : RD X.K G dy y) (e : eqB (topL h dx) (topL h dy) = some k) :
    (scal x y = true ∧ decide (x = y) = k) ∨ ∃ p q, Dp X.K H x p ∧ Dp X.K H y q ∧ SeqAt.shaped p = true ∧ SeqAt.shaped q = true ∧ PyData.eqv p q = k := by
  unfold eqB at e
  split at e
  · rename_i e1 e2
    have e1 := topL_int e1
    have e2 := topL_int e2
    subst e1 e2
    cases e; cases r1; cases r2
    exact .inl ⟨rfl, dec_int⟩
  · rename_i e1 e2
    have e1 := topL_str e1
    have e2 := topL_str e2
    subst e1 e2
    cases e; cases r1; cases r2
    exact .inl ⟨rfl, by rw [dec_str, S_beq]⟩
  · rename_i e1 e2
    have e1 := topL_bl e1
    have e2 := topL_bl e2
    subst e1 e2
    cases e; cases r1; cases r2
    exact .inl ⟨rfl, dec_bl⟩
  · split at e
    · rename_i p q e1 e2
      split at e
      · rename_i hs
        cases e
        simp only [Bool.and_eq_true] at hs
        exact .inr ⟨p, q, topL_dp rh r1 e1, topL_dp rh r2 e2, hs.1, hs.2, rfl⟩
      · cases e
    · cases e
theorem oh_eq (hu : X.A.units + 64 < cLine) : OpH X T (compareOp .Eq) dEq := by
  intro pins s σ H x y v u Q I rx ry ⟨G, h, dx, dy, d, rh, r1, r2, e, k⟩
  unfold dEq at e
  cases e1 : eqB (topL h dx) (topL h dy) with
  | none => rw [e1] at e; cases e
  | some b =>
    rw [e1] at e; cases e
    rcases eqH_red rh r1 r2 e1 with ⟨q1, q2⟩ | ⟨p, q, q1, q2, q3, q4, q5⟩
    · exact op_eq pins s σ H x y v u Q I rx ry ⟨q1, by rw [q2]; exact fin_at k rh (.bl _)⟩
    · exact op_eqD hu pins s σ H x y v u Q I rx ry ⟨p, q, q1, q2, q3, q4, by rw [q5]; exact fin_at k rh (.bl _)⟩
theorem oh_ne (hu : X.A.units + 64 < cLine) : OpH X T (compareOp .NotEq) dNe := by
  intro pins s σ H x y v u Q I rx ry ⟨G, h, dx, dy, d, rh, r1, r2, e, k⟩
  unfold dNe at e
  cases e1 : eqB (topL h dx) (topL h dy) with
  | none => rw [e1] at e; cases e
  | some b =>
    rw [e1] at e; cases e
    rcases eqH_red rh r1 r2 e1 with ⟨q1, q2⟩ | ⟨p, q, q1, q2, q3, q4, q5⟩
    · exact op_ne pins s σ H x y v u Q I rx ry ⟨q1, by rw [q2]; exact fin_at k rh (.bl _)⟩
    · exact op_neD hu pins s σ H x y v u Q I rx ry ⟨p, q, q1, q2, q3, q4, by rw [q5]; exact fin_at k rh (.bl _)⟩
def eBinH (f : D → D → Option D) (a b : Ev) : Ev := fun ρ h => (a ρ h).bind fun x h1 => (b ρ h1).bind fun y h2 => liftO h2 (f (topL h2 x) (topL h2 y))
theorem binH_red {σ : L2.St} {H : Hp} {Q : VK} (k : tE X.K T W (eBinH f ma mb) σ H Q) : tOp (rOpH X.K T f) (tE X.K T W ma) (tE X.K T W mb) σ H Q := by
  obtain ⟨G, ρ, h, re, rh, p⟩ := k
  refine ⟨G, ρ, h, re, rh, ?_⟩
  unfold eBinH at p
  cases e1 : ma ρ h with
  | ok x h1 =>
    rw [e1] at p
    intro G1 H1 v1 l1 rh1 rd1
    refine ⟨G1, ρ, h1, re.mono l1, rh1, ?_⟩
    simp only [Res.bind] at p
    cases e2 : mb ρ h1 with
    | ok y h2 =>
      rw [e2] at p
      simp only [Res.bind] at p
      intro G2 H2 v2 l2 rh2 rd2
      cases e3 : f (topL h2 x) (topL h2 y) with
      | some d =>
        rw [e3] at p
        exact ⟨G2, h2, x, y, d, rh2, rd1.mono l2, rd2, e3, fun G3 H3 z l3 r3 q3 => p G3 H3 z ((l1.trans l2).trans l3) r3 q3⟩
      | none => rw [e3] at p; exact p.elim
    | exc c h2 => rw [e2] at p; exact fun G2 H2 l2 rh2 => p G2 H2 (l1.trans l2) rh2
    | err => rw [e2] at p; exact p.elim
  | exc c h1 => rw [e1] at p; exact p
  | err => rw [e1] at p; exact p.elim
theorem de_cmpH {op : CmpOp} (ho : OpH X T (compareOp op) f) (ha : DE X T W a ma) (hb : DE X T W b mb) (hm : behindInMarks op b = false := by first | exact nomark _ | rfl) : DE X T W (.Compare a [op] [b] pos) (eBinH f ma mb) := ⟨PE.imp (pe_cmpR ho ha.p hb.p hm) fun σ H Q k => binH_red k⟩
theorem dt_cmpH {op : CmpOp} (ho : OpH X T (compareOp op) f) (ha : DE X T W a ma) (hb : DE X T W b mb) (hm : behindInMarks op b = false := by first | exact nomark _ | rfl) : DT X T W (.Compare a [op] [b] pos) (bTest (eBinH f ma mb)) :=
  ⟨PT.imp (pt_cmpR ho ha.p hb.p hm) fun σ H Q k => by
    obtain ⟨G, ρ, h, re, rh, p⟩ := test_red k
    exact binH_red ⟨G, ρ, h, re, rh, p⟩⟩
theorem binH_ok {ρ : En} {h h1 h2 : LH} {x y z : D} (ha : ma ρ h = .ok x h1) (hb : mb ρ h1 = .ok y h2) (hf : f (topL h2 x) (topL h2 y) = some z) : eBinH f ma mb ρ h = .ok z h2 := by unfold eBinH; rw [ha, ev_b1, hb, ev_b1, hf]; rfl
end
end Sh

set_option Elab.async false
set_option linter.all false
set_option maxRecDepth 100000
set_option maxHeartbeats 4000000
/-! Sh40: sorted of tuples of texts; tuples of the module with index. -/
namespace Sh
open PySem PySem.Spec PyProof.Rows L2

section
variable {X : Cx} {T : Tb}
theorem cr_sortedTN : CallR X (.builtin "sorted") (fun vs H Q => ∃ (a : Addr) (l : List (List Nat)), vs = [V.ref a] ∧ SqT X.K H a ((l.map S).map V.str) ∧ ∀ p, H p = none → Q (.ref p) (upd H p (.lst (((sortN l).map S).map V.str)))) := by
  intro pins s σ H vs us Q I r h
  obtain ⟨a, l, rfl, hs, q⟩ := h
  obtain ⟨its, rv, hl, hz⟩ := I.tuple hs
  rw [Vals.ref1 r]
  have hi := rv.strs
  obtain ⟨o, ho, hc, n, hd⟩ := hl
  have el : its.length = (l.map S).length := by rw [← rv.length, List.length_map]
  have hz' : its.length ≤ sizeLine := by rw [el]; rw [List.length_map] at hz; exact hz
  refine Calls.call_function_entry PyProof.Rows.kind_sorted PyProof.Rows.plain_sorted PyProof.Rows.entry_sorted (PyProof.Rows.args_sorted1 _) ?_
  unfold Builtin.«sorted»
  refine wpAny_bind (m := checkCount "sorted" 1 1 _) (wpAny_pure ?_)
  refine wpAny_bind (wpAny_collect_seq a (.inr rfl) ho hc hd (fun h' hk => ?_) (by simpa using hz'))
  have hS : StrsAre its.toArray.toList (l.map S) := by simpa using hi
  have I1 : Inv X pins σ H { s with heap := h' } := I.kept (t' := s.toks) hk
  have ez : its.toArray.toList.length ≤ sizeLine := by simpa using hz'
  refine wpAny_bind (wpAny_newList ?_ ez)
  have hoL : (h'.push (seqObj "list" its.toArray.toList.toArray 0)).get? h'.objs.size = some (seqObj "list" its.toArray.toList.toArray 0) := Heap.get?_push_size _ rfl
  show wpAny _ _ _ _ _ { s with heap := h'.push (seqObj "list" its.toArray.toList.toArray 0) }
  refine wpAny_bind (wpAny_holding (wpAny_call_entry PyProof.Rows.slot_list_sort ⟨_, hoL, rfl⟩ PyProof.Rows.entry_list_sort
    (SrtO.list_sort_ord swo_str (s := { s with heap := h'.push (seqObj "list" its.toArray.toList.toArray 0) }) hoL ez (fun h2 => strs_sortable hS h2) fun out h1 h2 => ⟨.none, rfl, ?_⟩) (PyProof.Rows.args_list_sort _)))
  obtain ⟨k1, k2⟩ := strs_out hS h1 h2
  have e1 : (l.map S).map (·.cps.toList) = l := by rw [List.map_map]; exact (List.map_congr_left fun y _ => S_toList y).trans (List.map_id _)
  rw [e1] at k2
  have e2 : out.map (fun v => S (sv v)) = (sortN l).map S := by rw [← k2, List.map_map]; rfl
  rw [e2] at k1
  obtain ⟨e', he'⟩ := PyProof.Rows.sortedHeap_at (vs := its.toArray.toList) (out := out.toArray) hoL
  have hlen : (((sortN l).map S).map V.str).length ≤ sizeLine := by
    rw [List.length_map, List.length_map, show (sortN l).length = l.length from sort_len l]
    rw [List.length_map, List.length_map] at hz
    exact hz
  refine wpAny_pure ⟨_, rfl, .ref h'.objs.size, upd H h'.objs.size (.lst (((sortN l).map S).map V.str)), I1.laid (t' := s.toks) (fun b u e => ?_) (Nat.le_refl _)
    (show ObjOk X.prog X.w _ _ _ (.lst _) from ⟨hlen, out, e', vals_of_strs k1, he'⟩), rfl, q _ (I1.hok.fresh (Nat.le_refl _))⟩
  have hb : b < h'.objs.size := Heap.lt_size e
  rw [PyProof.Rows.sortedHeap_old (Nat.ne_of_lt hb) (by rw [size_push']; exact Nat.lt_succ_of_lt hb)]
  exact Heap.get?_push_of_some _ e
def bSortedT : List D → LH → Option (D × LH) := fun ds h => match ds with
  | [.tup xs] => (strsD xs).map fun l => (.lst ((sortN l).map .str), h)
  | ds => bSorted ds h
theorem cd_sortedT (hc : X.calm = true) : CallD X T (.builtin "sorted") bSortedT := by
  intro pins s σ H xs us Q I r ⟨G, h, ds, d, h', rh, rd, e, k⟩
  unfold bSortedT at e
  split at e
  · rename_i ys
    cases rd with
    | cons r1 r2 =>
      cases r2
      cases q : strsD ys with
      | none => rw [q] at e; cases e
      | some l =>
        rw [q] at e
        cases e
        cases r1 with
        | @tup _ vs a hq rr =>
          have ev := strsD_rd rr q
          subst ev
          exact cr_sortedTN pins s σ H _ us Q I r ⟨a, l, rfl, SqT.mono hq rh.F, fin_lst (fun G' H' z l rh rd => k G' H' z l rh rd) rh (strs_rds _)⟩
  · exact cd_sorted hc pins s σ H xs us Q I r ⟨G, h, ds, d, h', rh, rd, e, k⟩
end
/-! ### tuples of the module, with index -/
def tupB (K : PySem.W.Frag) (a : Addr) (d : D) : Bool := frB K 6 d (.ref a) && match K.lookup a with
  | some ⟨.type n, none, _, _⟩ => decide (n = "tuple")
  | _ => false
def TCon (K : PySem.W.Frag) (mg : Str → Option Value) (x : Str) (d : D) : Prop := ∃ a, mg x = some (.ref a) ∧ tupB K a d = true
theorem TCon.g {K : PySem.W.Frag} {mg : Str → Option Value} {x : Str} {d : D} (h : TCon K mg x d) : GCon K mg x d := let ⟨a, h1, h2⟩ := h; ⟨a, h1, (and2 h2).1⟩
theorem TCon.t {K : PySem.W.Frag} {mg : Str → Option Value} {x : Str} {d : D} (h : TCon K mg x d) : ∃ a o, mg x = some (.ref a) ∧ frB K 6 d (.ref a) = true ∧ K.lookup a = some o ∧ o.cls = .type "tuple" ∧ o.dict = none := by
  obtain ⟨a, h1, h2⟩ := h
  obtain ⟨h2, h3⟩ := and2 h2
  split at h3
  · rename_i n dd sl e
    have e2 := of_decide_eq_true h3
    subst e2
    exact ⟨a, _, h1, h2, e, rfl, rfl⟩
  · cases h3
end Sh

set_option Elab.async false
set_option linter.all false
set_option maxRecDepth 100000
set_option maxHeartbeats 4000000
/-! Sh41: mirrors evaluated by rules that a tactic may apply. -/
namespace Sh
open PySem PySem.Spec PyProof.Rows L2

section
variable {α : Type} {d d' : D} {h h1 h2 h3 h4 : LH} {ρ ρ1 ρ2 : En} {m n : Sv} {r : SR} {me mo mk mx a b c : Ev} {mi : Iv} {g : Gv} {t t2 : Bv} {ds es : List D} {i j : Int} {k l : Bool} {ma mb : Av} {x y z w : D} {s u : List Nat} {F N M : Nat} {ol ou : Ov} {lo hi : Option Int}
theorem c_ok : eC d ρ h = .ok d h := rfl
theorem test_of (ha : me ρ h = .ok (.bl k) h1) (hk : k = l) : bTest me ρ h = .ok l h1 := by rw [← hk]; exact test_ok ha
theorem or_nn (ha : t ρ h = .ok false h1) (hb : t2 ρ h1 = .ok k h2) : bOr t t2 ρ h = .ok k h2 := or_no ha hb
theorem not_of (ha : t ρ h = .ok k h1) (hk : (!k) = l) : bNot t ρ h = .ok l h1 := by rw [← hk]; exact not_ok ha
theorem oyes_ok (ha : me ρ h = .ok (.int i) h1) : oYes me ρ h = .ok (some i) h1 := by unfold oYes; rw [ha]; rfl
theorem ono_ok : oNo ρ h = .ok none h := rfl
theorem sl_ok (ha : me ρ h = .ok x h1) (hl : ol ρ h1 = .ok lo h2) (hu : ou ρ h2 = .ok hi h3) (hf : dSl h3 x lo hi = some d) : eSl me ol ou ρ h = .ok d h3 := by
  unfold eSl; rw [ha, ev_b1, hl, ev_b1, hu, ev_b1, hf]; rfl
theorem revX_ok (ha : me ρ h = .ok x h1) (hf : revD h1 x = some d) : eRevX me ρ h = .ok d h1 := by unfold eRevX; rw [ha, ev_b1, hf]; rfl
theorem un_ok {f : D → Option D} (ha : me ρ h = .ok x h1) (hf : f x = some d) : eUn f me ρ h = .ok d h1 := by unfold eUn; rw [ha, ev_b1, hf]; rfl
theorem new_ok' (ha : ma ρ h = .ok ds h1) (hf : fits ds.length = true) : eNew ma ρ h = .ok (.obj h1.length) (h1 ++ [.lst ds]) := by unfold eNew; rw [ha, ev_b1, if_pos hf]
theorem eand_t (ha : a ρ h = .ok (.bl true) h1) (hb : b ρ h1 = .ok d h2) : eAnd a b ρ h = .ok d h2 := by unfold eAnd; rw [ha]; exact hb
theorem eand_f (ha : a ρ h = .ok (.bl false) h1) : eAnd a b ρ h = .ok (.bl false) h1 := by unfold eAnd; rw [ha]; rfl
theorem eor_f (ha : a ρ h = .ok (.bl false) h1) (hb : b ρ h1 = .ok d h2) : eOr a b ρ h = .ok d h2 := by unfold eOr; rw [ha]; exact hb
theorem eor_t (ha : a ρ h = .ok (.bl true) h1) : eOr a b ρ h = .ok (.bl true) h1 := by unfold eOr; rw [ha]; rfl
theorem enot_ok (ha : a ρ h = .ok (.bl k) h1) : eNot a ρ h = .ok (.bl (!k)) h1 := by unfold eNot; rw [ha]; rfl
theorem kin_ok {kvs : List (List Nat × D)} (ha : me ρ h = .ok (.str s) h1) : eKin k kvs me ρ h = .ok (.bl (k != (lookN kvs s).isSome)) h1 := by unfold eKin; rw [ha]; rfl
theorem kix_of {kvs : List (List Nat × D)} (ha : me ρ h = .ok (.str s) h1) (hf : lookN kvs s = some d) : eKix kvs me ρ h = .ok d h1 := by unfold eKix; rw [ha, ev_b1]; simp only; rw [hf]; rfl
theorem tidx_ok {ds : List D} {l : List (List Nat)} (ha : me ρ h = .ok (.str s) h1) (hl : strsD ds = some l) (hf : idxN s l 0 = some N) : eTIdx ds me ρ h = .ok (.int (N : Int)) h1 := by
  unfold eTIdx; rw [ha, ev_b1]
  have e : mIdx (.tup ds) [.str s] h1 = some (.int (N : Nat), h1) := by unfold mIdx; simp only [hl, hf, Option.bind_some, Option.map_some]
  rw [e]
theorem join_ok {ys : List (List Nat)} {bb : Bool} (ho : mo ρ h = .ok (.str s) h1) (ha : ma ρ h1 = .ok [x] h2) (hq : seqH h2 x = some (bb, ds)) (hs : strsOf ds = some ys) (hz : (ys.map List.length).sum + ys.length * s.length ≤ 16777216) : eMt "str" mJoin mo ma ρ h = .ok (.str (joinN s ys)) h2 :=
  mt_ok ho rfl ha (by unfold mJoin; simp only [hq, hs]; rw [if_pos (by exact decide_eq_true hz)])
theorem append_ok (ho : mo ρ h = .ok (.obj N) h1) (ha : ma ρ h1 = .ok [d] h2) (h0 : ∃ ys, h1[N]? = some (.lst ys)) (hq : h2[N]? = some (.lst ds)) (hf : fits (ds.length + 1) = true) : eMt "list" mAppend mo ma ρ h = .ok .non (h2.set N (.lst (ds ++ [d]))) := by
  obtain ⟨ys, h0⟩ := h0
  refine mt_ok ho ?_ ha ?_
  · show (match h1[N]? with
      | some (.lst _) => decide ("list" = "list")
      | some (.dic _) => decide ("list" = "dict")
      | some (.dt _) => decide ("list" = "dict")
      | _ => false) = true
    rw [h0]; rfl
  · unfold mAppend; simp only [hq, hf, if_true]
theorem expr_ok (ha : me ρ h = .ok d h1) : sExpr me ρ h = .nx ρ h1 := by unfold sExpr; rw [ha]; rfl
theorem raise_ok {C : Str} : sRaise C ρ h = .ex C ρ h := rfl
theorem retF_ok (ha : me ρ h = .ok d h1) (hf : frzD d h1 = some (d', h2)) : sRetF me ρ h = .rt d' h2 := by unfold sRetF; rw [ha]; simp only [Res.st, hf]
theorem told_ok {cat : List Str} {ret : List Nat} (ha : me ρ h = .ok d h1) : eTold cat ret me ρ h = .ok d h1 := by unfold eTold; rw [ha]
theorem told_ex {cat : List Str} {ret : List Nat} {C : Str} (ha : me ρ h = .exc C h1) (hc : decide (C ∈ cat) = true) : eTold cat ret me ρ h = .ok (.str ret) h1 := by
  unfold eTold; rw [ha]; simp only; rw [if_pos (by simpa using hc)]
theorem call_ex {f : List D → LH → Res D} {C : Str} (ha : ma ρ h = .ok ds h1) (hf : f ds h1 = .exc C h2) : eCall f ma ρ h = .exc C h2 := by unfold eCall; rw [ha]; exact hf
theorem fn_nx {k w : Nat} (hl : ds.length = k) (e : m (ds.map some ++ List.replicate (w - ds.length) none) h = .nx ρ h1) : cAll k (fn w m) ds h = .ok .non h1 := by
  unfold cAll fn
  rw [if_pos hl, e]
/-! ### slices of texts -/
theorem cut_nn (l : List α) (i j : Nat) : cutD l (some (i : Int)) (some (j : Int)) = (l.take j).drop i := by
  unfold cutD
  rw [HT.sIx_nat, HT.sIx_nat]
  apply List.ext_getElem?
  intro n
  simp only [List.getElem?_take, List.getElem?_drop]
  by_cases h1 : n < min j l.length - min i l.length
  · rw [if_pos h1, if_pos (by omega), Nat.min_eq_left (by omega)]
  · rw [if_neg h1]
    by_cases h2 : i + n < j
    · rw [if_pos h2, List.getElem?_eq_none (by omega)]
    · rw [if_neg h2]
theorem cut_0n (l : List α) (j : Nat) : cutD l none (some (j : Int)) = l.take j := by
  have := cut_nn l 0 j
  rw [List.drop_zero] at this
  rw [← this]
  unfold cutD
  rw [show HT.sIx l.length 0 none = 0 from rfl, show HT.sIx l.length 0 (some ((0 : Nat) : Int)) = min 0 l.length from HT.sIx_nat _ _ 0, Nat.zero_min]
theorem cut_n0 (l : List α) (i : Nat) : cutD l (some (i : Int)) none = l.drop i := by
  unfold cutD
  rw [HT.sIx_nat, show HT.sIx l.length l.length none = l.length from rfl]
  by_cases h : i ≤ l.length
  · rw [Nat.min_eq_left h, List.take_of_length_le (by rw [List.length_drop]; exact Nat.le_refl _)]
  · rw [Nat.min_eq_right (by omega), Nat.sub_self, List.take_zero, List.drop_eq_nil_of_le (by omega)]
theorem sIx_m1 (n d : Nat) : HT.sIx n d (some (-1)) = n - 1 := by
  show (if (-1 : Int) < 0 then ((-1 : Int) + (n : Int)).toNat else min (-1 : Int).toNat n) = n - 1
  rw [if_pos (by omega)]; omega
theorem cut_0m (l : List α) : cutD l none (some (-1)) = l.dropLast := by
  unfold cutD
  rw [sIx_m1, show HT.sIx l.length 0 none = 0 from rfl, List.drop_zero, Nat.sub_zero, List.dropLast_eq_take]
theorem cut_nm (l : List α) (i : Nat) : cutD l (some (i : Int)) (some (-1)) = l.dropLast.drop i := by
  unfold cutD
  rw [sIx_m1, HT.sIx_nat, List.dropLast_eq_take]
  apply List.ext_getElem?
  intro n
  simp only [List.getElem?_take, List.getElem?_drop]
  by_cases h1 : n < l.length - 1 - min i l.length
  · rw [if_pos h1, if_pos (by omega), Nat.min_eq_left (by omega)]
  · rw [if_neg h1]
    by_cases h2 : i + n < l.length - 1
    · omega
    · rw [if_neg h2]
theorem slS (hf : s.length ≤ 16777216) : dSl h (.str s) lo hi = some (.str (cutD s lo hi)) := by
  show (if fits s.length then _ else none) = _
  rw [if_pos (fits_le hf)]
theorem slL : dSl h (.lst ds) lo hi = some (.lst (cutD ds lo hi)) := rfl
theorem revS (hf : s.length ≤ 16777216) : revD h (.str s) = some (.str s.reverse) := by
  show (if fits s.length then _ else none) = _
  rw [if_pos (fits_le hf)]
theorem addS (hf : s.length + u.length ≤ 16777216) : dAdd (.str s) (.str u) = some (.str (s ++ u)) := by rw [ev_addS, if_pos (fits_le hf)]
theorem iaddS (hf : s.length + u.length ≤ 16777216) : dIAdd (.str s) (.str u) = some (.str (s ++ u)) := by
  show (if fits _ then _ else _) = _
  rw [if_pos (fits_le hf)]
theorem addL (hf : ds.length + es.length ≤ 16777216) : dAdd (.lst ds) (.lst es) = some (.lst (ds ++ es)) := by rw [ev_addL, if_pos (fits_le hf)]
theorem lenS (hf : s.length ≤ 16777216) : bLen [.str s] h = some (.int s.length, h) := by rw [ev_len, if_pos (fits_le hf)]
theorem at_m1 (l : List α) (hl : l ≠ []) : atI l (-1) = some (l.getLast hl) := by
  have h0 : 0 < l.length := List.length_pos_iff.mpr hl
  unfold atI ixN
  rw [if_neg (by omega), if_pos (by omega)]
  show l[((-1 : Int) + l.length).toNat]? = _
  rw [show ((-1 : Int) + l.length).toNat = l.length - 1 by omega, List.getLast_eq_getElem, List.getElem?_eq_getElem (by omega)]
theorem ixS_of {c : Nat} (hf : s.length ≤ 16777216) (e : atI s i = some c) : dIx h (.str s) (.int i) = some (.str [c]) := by
  show (if fits s.length then (atI s i).map fun c => D.str [c] else none) = _
  rw [if_pos (fits_le hf), e]; rfl
theorem strs_map (l : List (List Nat)) : strsOf (l.map .str) = some l := by
  induction l with
  | nil => rfl
  | cons a r ih => rw [List.map_cons]; unfold strsOf; rw [ih]; rfl
theorem strsD_map (l : List (List Nat)) : strsD (l.map .str) = some l := by
  induction l with
  | nil => rfl
  | cons a r ih => rw [List.map_cons]; unfold strsD; rw [ih]; rfl
theorem join_nil (ys : List (List Nat)) : joinN [] ys = ys.flatten := by
  induction ys with
  | nil => rfl
  | cons p r ih =>
    cases r with
    | nil => show p = [p].flatten; simp
    | cons q r =>
      show p ++ ([] ++ joinN [] (q :: r)) = _
      rw [ih, List.nil_append]; rfl
/-! ### sums of generator expressions -/
theorem gx_sum {vs : List Nat} (toD : α → D) (f : α → Int) : ∀ (l : List α) (i0 : Int), (∀ q ∈ l, ∃ ρ2, g (toD q) (wipeD ρ vs) h = some (ρ2, h) ∧ me ρ2 h = .ok (.int (f q)) h) →
    tSum i0 (gxTr vs g bYes me ρ (l.map toD) h) = .ok (i0 + (l.map f).sum) h
  | [], i0, _ => by show Res.ok i0 h = _; rw [List.map_nil, List.sum_nil, Int.add_zero]
  | q :: l, i0, hs => by
    obtain ⟨ρ2, e1, e2⟩ := hs q (List.mem_cons_self ..)
    have ih := gx_sum toD f l (i0 + f q) fun b hb => hs b (List.mem_cons_of_mem _ hb)
    rw [List.map_cons, gx_cons e1 rfl e2, List.map_cons, List.sum_cons, ← Int.add_assoc, ← ih]
    rfl
theorem gx_sumR {vs : List Nat} (toD : α → D) (f : α → Int) (l : List α) (hs : ∀ q ∈ l, ∃ ρ2, g (toD q) (wipeD ρ vs) h = some (ρ2, h) ∧ me ρ2 h = .ok (.int (f q)) h) :
    tSumR (gxTr vs g bYes me ρ (l.map toD) h) = .ok (.int (l.map f).sum) h := by
  unfold tSumR
  rw [gx_sum toD f l 0 hs, Int.zero_add]; rfl
/-- enumerate of a text -/
theorem enumS (s : List Nat) : enumD (s.map fun c => .str [c]) = s.zipIdx.map fun p => pairD (.int (p.2 : Nat)) (.str [p.1]) := by
  unfold enumD
  apply List.ext_getElem?
  intro n
  rw [List.getElem?_mapIdx, List.getElem?_map, List.getElem?_map, List.getElem?_zipIdx]
  cases s[n]? with
  | none => rfl
  | some c => simp
theorem enumS_ok (ha : ma ρ h = .ok [.str s] h1) : iEnumS ma ρ h = .ok ⟨s.zipIdx.map fun p => pairD (.int (p.2 : Nat)) (.str [p.1]), none⟩ h1 := by
  unfold iEnumS
  rw [ha, ev_b1]
  show Res.ok (⟨enumD (s.map fun c => D.str [c]), none⟩ : Itm) h1 = _
  rw [enumS]
theorem seq_ofS (ha : me ρ h = .ok (.str s) h1) : iSeq me ρ h = .ok ⟨s.map fun c => .str [c], none⟩ h1 := by unfold iSeq; rw [ha]; rfl
/-! ### a for that may return -/
theorem for_rt {α : Type} (toD : α → D) : ∀ (l : List α) (P : En → Prop) (f : α → Option D)
    (hs : ∀ q ∈ l, ∀ ρ, P ρ → ∃ ρ1, g (toD q) ρ h = some (ρ1, h) ∧ match f q with
      | some d => m ρ1 h = .rt d h
      | none => ∃ ρ2, m ρ1 h = .nx ρ2 h ∧ P ρ2) (ρ : En), P ρ → (match l.findSome? f with
      | some d => sFor g m (l.map toD) ρ h = .rt d h
      | none => ∃ ρ2, sFor g m (l.map toD) ρ h = .nx ρ2 h ∧ P ρ2)
  | [], P, f, _, ρ, hp => ⟨ρ, rfl, hp⟩
  | q :: l, P, f, hs, ρ, hp => by
    obtain ⟨ρ1, e1, e2⟩ := hs q (List.mem_cons_self ..) ρ hp
    rw [List.findSome?_cons]
    cases ef : f q with
    | some d =>
      rw [ef] at e2
      show sFor g m (toD q :: l.map toD) ρ h = .rt d h
      unfold sFor
      rw [e1]
      simp only
      rw [show m ρ1 h = .rt d h from e2]
    | none =>
      rw [ef] at e2
      obtain ⟨ρ2, e3, hp2⟩ := e2
      have ih := for_rt toD l P f (fun q hq => hs q (List.mem_cons_of_mem _ hq)) ρ2 hp2
      cases el : l.findSome? f with
      | some d =>
        rw [el] at ih
        exact for_cons e1 e3 ih
      | none =>
        rw [el] at ih
        obtain ⟨ρ3, e4, hp3⟩ := ih
        exact ⟨ρ3, for_cons e1 e3 e4, hp3⟩
end
end Sh

set_option Elab.async false
set_option linter.all false
set_option maxRecDepth 100000
set_option maxHeartbeats 4000000
/-! Sh42: range(0, n, c). -/
namespace Sh
open PySem PySem.Spec PyProof.Rows L2
theorem fitsL {x : Int} (h0 : 0 ≤ x) (h1 : x ≤ 4000000000) : Builtin.Range.rangeFitsLong x = true := by
  unfold Builtin.Range.rangeFitsLong
  simp
  omega
theorem rng3_ok {ma : Av} {ρ : En} {h h1 : LH} {n c : Nat} (ha : ma ρ h = .ok [.int 0, .int (n : Int), .int (c : Int)] h1) (hc : 1 ≤ c) (hc2 : c ≤ 1000000) (hn : n ≤ 1000000) : Sh.iRng3 ma ρ h = .ok ⟨(List.range ((n + c - 1) / c)).map fun i => D.int ((c * i : Nat) : Int), none⟩ h1 := by
  unfold Sh.iRng3
  rw [ha, ev_b1]
  simp only
  have e1 : Builtin.Range.rangeSize 0 (n : Int) (c : Int) = (((n + c - 1) / c : Nat) : Int) := by
    unfold Builtin.Range.rangeSize
    rw [if_pos (by omega)]
    by_cases h0 : n = 0
    · subst h0
      rw [if_neg (by omega), Nat.zero_add, Nat.div_eq_of_lt (by omega)]; rfl
    · rw [if_pos (by omega)]
      have e : n + c - 1 = (n - 1) + c := by omega
      rw [e, Nat.add_div_right _ (by omega)]
      have e2 : (n : Int) - 0 - 1 = ((n - 1 : Nat) : Int) := by omega
      rw [e2]
      push_cast
      rfl
  have hle : (n + c - 1) / c ≤ n + c := Nat.le_trans (Nat.div_le_self _ _) (by omega)
  obtain ⟨m, hm⟩ : ∃ m, m = (n + c - 1) / c := ⟨_, rfl⟩
  rw [← hm] at e1 hle ⊢
  have e2 : Builtin.Range.small 0 (n : Int) (c : Int) = true := by
    unfold Builtin.Range.small
    rw [e1, fitsL (by omega) (by omega), fitsL (by omega) (by omega), fitsL (by omega) (by omega), fitsL (by omega) (by omega)]
    rw [if_pos (by omega), fitsL (by omega) (by omega)]
    simp
  rw [e1, e2]
  have e3 : decide ((c : Int) ≠ 0) = true := decide_eq_true (by omega)
  have e4 : decide ((c : Int).natAbs < 1073741824) = true := decide_eq_true (by omega)
  have e5 : decide (0 ≤ ((m : Nat) : Int)) = true := decide_eq_true (by omega)
  rw [e3, e4, e5]
  have e6 : rngC 0 (c : Int) ((m : Int).toNat) = (List.range m).map fun i => D.int ((c * i : Nat) : Int) := by
    unfold rngC
    rw [Int.toNat_natCast]
    refine List.map_congr_left fun i _ => ?_
    rw [Int.zero_add, Int.mul_comm, ← Int.natCast_mul]
  rw [e6]
  simp only [Bool.and_self, if_true]
end Sh

set_option Elab.async false
set_option linter.all false
set_option maxRecDepth 100000
set_option maxHeartbeats 0
namespace K19
open PySem PySem.Spec PyProof.Rows L2 Sh
abbrev fuel : Nat := 3000000
def top (i : Nat) : Stmt := PySem.Challenge.pw_idstack_k19_stripes_of_codes.main.body.getD i (.Pass ⟨0, 0, 0, 0⟩)
def con_HEADSl : List D := [.str [76, 76, 76, 76, 76, 76], .str [76, 76, 71, 76, 71, 71], .str [76, 76, 71, 71, 76, 71], .str [76, 76, 71, 71, 71, 76], .str [76, 71, 76, 76, 71, 71], .str [76, 71, 71, 76, 76, 71], .str [76, 71, 71, 71, 76, 76], .str [76, 71, 76, 71, 76, 71], .str [76, 71, 76, 71, 71, 76], .str [76, 71, 71, 76, 71, 76]]
abbrev con_HEADS : D := .tup con_HEADSl
def con_LEFTl : List D := [.str [48, 48, 48, 49, 49, 48, 49], .str [48, 48, 49, 49, 48, 48, 49], .str [48, 48, 49, 48, 48, 49, 49], .str [48, 49, 49, 49, 49, 48, 49], .str [48, 49, 48, 48, 48, 49, 49], .str [48, 49, 49, 48, 48, 48, 49], .str [48, 49, 48, 49, 49, 49, 49], .str [48, 49, 49, 49, 48, 49, 49], .str [48, 49, 49, 48, 49, 49, 49], .str [48, 48, 48, 49, 48, 49, 49]]
abbrev con_LEFT : D := .tup con_LEFTl
def tab_NINES : List (List Nat × D) := [([48], .str [48, 48, 48, 49, 49, 48, 49, 48, 48]), ([49], .str [49, 48, 48, 49, 48, 48, 48, 48, 49]), ([50], .str [48, 48, 49, 49, 48, 48, 48, 48, 49]), ([51], .str [49, 48, 49, 49, 48, 48, 48, 48, 48]), ([52], .str [48, 48, 48, 49, 49, 48, 48, 48, 49]), ([53], .str [49, 48, 48, 49, 49, 48, 48, 48, 48]), ([54], .str [48, 48, 49, 49, 49, 48, 48, 48, 48]), ([55], .str [48, 48, 48, 49, 48, 48, 49, 48, 49]), ([56], .str [49, 48, 48, 49, 48, 48, 49, 48, 48]), ([57], .str [48, 48, 49, 49, 48, 48, 49, 48, 48]), ([65], .str [49, 48, 48, 48, 48, 49, 48, 48, 49]), ([66], .str [48, 48, 49, 48, 48, 49, 48, 48, 49]), ([67], .str [49, 48, 49, 48, 48, 49, 48, 48, 48]), ([68], .str [48, 48, 48, 48, 49, 49, 48, 48, 49]), ([69], .str [49, 48, 48, 48, 49, 49, 48, 48, 48]), ([70], .str [48, 48, 49, 48, 49, 49, 48, 48, 48]), ([45], .str [48, 49, 48, 48, 48, 48, 49, 48, 49]), ([42], .str [48, 49, 48, 48, 49, 48, 49, 48, 48])]
abbrev toldCat : List Str := ["StripeError"]
abbrev toldRet : List Nat := [83, 116, 114, 105, 112, 101, 69, 114, 114, 111, 114]
theorem de_err {X : Cx} {T : Tb} {W : WX} {e : Expr} : DE X T W e (fun _ _ => .err) := ⟨⟨fun pins s σ H Q I ⟨G, ρ, h, re, rh, p⟩ => p.elim⟩⟩
structure Fx (P : Program) (w : World) (K : PySem.W.Frag) (mg : Str → Option Value) (base : Heap) (T : Tb) : Prop where
  d_good_sign : ∃ fd, FunD K "good_sign" "good_sign" (defArgs (top 5)) (defBody (top 5)) (defScope (top 5)) [] [] (He.ga K "good_sign") fd
  g_good_sign : mg "good_sign" = some (.ref (He.ga K "good_sign"))
  d_figure_stripes : ∃ fd, FunD K "figure_stripes" "figure_stripes" (defArgs (top 10)) (defBody (top 10)) (defScope (top 10)) [] [] (He.ga K "figure_stripes") fd
  g_figure_stripes : mg "figure_stripes" = some (.ref (He.ga K "figure_stripes"))
  d_good_stripes : ∃ fd, FunD K "good_stripes" "good_stripes" (defArgs (top 11)) (defBody (top 11)) (defScope (top 11)) [] [] (He.ga K "good_stripes") fd
  g_good_stripes : mg "good_stripes" = some (.ref (He.ga K "good_stripes"))
  d_figure_in : ∃ fd, FunD K "figure_in" "figure_in" (defArgs (top 14)) (defBody (top 14)) (defScope (top 14)) [] [] (He.ga K "figure_in") fd
  g_figure_in : mg "figure_in" = some (.ref (He.ga K "figure_in"))
  d_read_one_way : ∃ fd, FunD K "read_one_way" "read_one_way" (defArgs (top 13)) (defBody (top 13)) (defScope (top 13)) [] [] (He.ga K "read_one_way") fd
  g_read_one_way : mg "read_one_way" = some (.ref (He.ga K "read_one_way"))
  d_read_good : ∃ fd, FunD K "read_good" "read_good" (defArgs (top 12)) (defBody (top 12)) (defScope (top 12)) [] [] (He.ga K "read_good") fd
  g_read_good : mg "read_good" = some (.ref (He.ga K "read_good"))
  d_nine_stripes : ∃ fd, FunD K "nine_stripes" "nine_stripes" (defArgs (top 15)) (defBody (top 15)) (defScope (top 15)) [] [] (He.ga K "nine_stripes") fd
  g_nine_stripes : mg "nine_stripes" = some (.ref (He.ga K "nine_stripes"))
  d_runs_in_stripes : ∃ fd, FunD K "runs_in_stripes" "runs_in_stripes" (defArgs (top 18)) (defBody (top 18)) (defScope (top 18)) [] [] (He.ga K "runs_in_stripes") fd
  g_runs_in_stripes : mg "runs_in_stripes" = some (.ref (He.ga K "runs_in_stripes"))
  d_nines_one_way : ∃ fd, FunD K "nines_one_way" "nines_one_way" (defArgs (top 17)) (defBody (top 17)) (defScope (top 17)) [] [] (He.ga K "nines_one_way") fd
  g_nines_one_way : mg "nines_one_way" = some (.ref (He.ga K "nines_one_way"))
  d_read_nines : ∃ fd, FunD K "read_nines" "read_nines" (defArgs (top 16)) (defBody (top 16)) (defScope (top 16)) [] [] (He.ga K "read_nines") fd
  g_read_nines : mg "read_nines" = some (.ref (He.ga K "read_nines"))
  d_drawn_stripes : ∃ fd, FunD K "drawn_stripes" "drawn_stripes" (defArgs (top 19)) (defBody (top 19)) (defScope (top 19)) [] [] (He.ga K "drawn_stripes") fd
  g_drawn_stripes : mg "drawn_stripes" = some (.ref (He.ga K "drawn_stripes"))
  d_read_drawn : ∃ fd, FunD K "read_drawn" "read_drawn" (defArgs (top 20)) (defBody (top 20)) (defScope (top 20)) [] [] (He.ga K "read_drawn") fd
  g_read_drawn : mg "read_drawn" = some (.ref (He.ga K "read_drawn"))
  d_dark_share : ∃ fd, FunD K "dark_share" "dark_share" (defArgs (top 21)) (defBody (top 21)) (defScope (top 21)) [] [] (He.ga K "dark_share") fd
  g_dark_share : mg "dark_share" = some (.ref (He.ga K "dark_share"))
  d_with_spot : ∃ fd, FunD K "with_spot" "with_spot" (defArgs (top 22)) (defBody (top 22)) (defScope (top 22)) [] [] (He.ga K "with_spot") fd
  g_with_spot : mg "with_spot" = some (.ref (He.ga K "with_spot"))
  d_mended_good : ∃ fd, FunD K "mended_good" "mended_good" (defArgs (top 23)) (defBody (top 23)) (defScope (top 23)) [] [] (He.ga K "mended_good") fd
  g_mended_good : mg "mended_good" = some (.ref (He.ga K "mended_good"))
  d_x_law_dice : ∃ fd, FunD K "_law_dice" "_law_dice" (defArgs (top 25)) (defBody (top 25)) (defScope (top 25)) [] [] (He.ga K "_law_dice") fd
  g_x_law_dice : mg "_law_dice" = some (.ref (He.ga K "_law_dice"))
  d_x_law_roll : ∃ fd, FunD K "_law_roll" "_law_roll" (defArgs (top 26)) (defBody (top 26)) (defScope (top 26)) [] [] (He.ga K "_law_roll") fd
  g_x_law_roll : mg "_law_roll" = some (.ref (He.ga K "_law_roll"))
  d_x_law_rounds : ∃ fd, FunD K "_law_rounds" "_law_rounds" (defArgs (top 27)) (defBody (top 27)) (defScope (top 27)) [] [] (He.ga K "_law_rounds") fd
  g_x_law_rounds : mg "_law_rounds" = some (.ref (He.ga K "_law_rounds"))
  d_x_law_good : ∃ fd, FunD K "_law_good" "_law_good" (defArgs (top 29)) (defBody (top 29)) (defScope (top 29)) [] [] (He.ga K "_law_good") fd
  g_x_law_good : mg "_law_good" = some (.ref (He.ga K "_law_good"))
  d_x_law_nines : ∃ fd, FunD K "_law_nines" "_law_nines" (defArgs (top 30)) (defBody (top 30)) (defScope (top 30)) [] [] (He.ga K "_law_nines") fd
  g_x_law_nines : mg "_law_nines" = some (.ref (He.ga K "_law_nines"))
  d_x_law_plain : ∃ fd, FunD K "_law_plain" "_law_plain" (defArgs (top 31)) (defBody (top 31)) (defScope (top 31)) [] [] (He.ga K "_law_plain") fd
  g_x_law_plain : mg "_law_plain" = some (.ref (He.ga K "_law_plain"))
  d_law : ∃ fd, FunD K "law" "law" (defArgs (top 32)) (defBody (top 32)) (defScope (top 32)) [] [] (He.ga K "law") fd
  g_law : mg "law" = some (.ref (He.ga K "law"))
  b_abs : mg "abs" = none
  b_any : mg "any" = none
  b_enumerate : mg "enumerate" = none
  b_int : mg "int" = none
  b_len : mg "len" = none
  b_list : mg "list" = none
  b_min : mg "min" = none
  b_range : mg "range" = none
  b_sorted : mg "sorted" = none
  b_str : mg "str" = none
  b_sum : mg "sum" = none
  b_tuple : mg "tuple" = none
  b_zip : mg "zip" = none
  x_BookError : ExnF K mg "BookError"
  x_StripeError : ExnF K mg "StripeError"
  c_HEADS : TCon K mg "HEADS" con_HEADS
  c_LEFT : TCon K mg "LEFT" con_LEFT
  c_NINES : ∃ a vs, mg "NINES" = some (.ref a) ∧ KTab K w a tab_NINES vs ∧ ∃ es n, KTab2 K w a vs es n
  t_good_sign : GxR.TabB base mg (cdA K "good_sign") (tbA K "good_sign")
  i_good_sign : (tbA K "good_sign", (("good_sign" : Str) ++ ".<locals>." ++ "<genexpr>" : Str)) ∈ T
  t_good_stripes : GxR.TabB base mg (cdA K "good_stripes") (tbA K "good_stripes")
  i_good_stripes : (tbA K "good_stripes", (("good_stripes" : Str) ++ ".<locals>." ++ "<genexpr>" : Str)) ∈ T
  t_nine_stripes : GxR.TabB base mg (cdA K "nine_stripes") (tbA K "nine_stripes")
  i_nine_stripes : (tbA K "nine_stripes", (("nine_stripes" : Str) ++ ".<locals>." ++ "<genexpr>" : Str)) ∈ T
  t_nines_one_way : GxR.TabB base mg (cdA K "nines_one_way") (tbA K "nines_one_way")
  i_nines_one_way : (tbA K "nines_one_way", (("nines_one_way" : Str) ++ ".<locals>." ++ "<genexpr>" : Str)) ∈ T
  t_drawn_stripes : GxR.TabB base mg (cdA K "drawn_stripes") (tbA K "drawn_stripes")
  i_drawn_stripes : (tbA K "drawn_stripes", (("drawn_stripes" : Str) ++ ".<locals>." ++ "<genexpr>" : Str)) ∈ T
  t_x_law_plain : LamX.TabB base mg (cdA K "_law_plain") (tbA K "_law_plain")
  i_x_law_plain : (tbA K "_law_plain", (("_law_plain" : Str) ++ ".<locals>." ++ "<lambda>" : Str)) ∈ T
  t_law : LamX.TabB base mg (cdA K "law") (tbA K "law")
  i_law : (tbA K "law", (("law" : Str) ++ ".<locals>." ++ "<lambda>" : Str)) ∈ T
  told : ToldF K mg "_law_told" "what" "StripeError" (defArgs (top 28)) (defScope (top 28)) (He.ga K "StripeError") toldRet
  tcat : ∀ c ∈ toldCat, PySem.W.exmOne K (.ref (He.ga K c)) (.ref (He.ga K "StripeError")) = some true
  tu : ∀ p ∈ T, ∀ q ∈ T, p.1 = q.1 → p.2 = q.2
theorem cDfl0 {n : Nat} {f : Fv} {ds : List D} {h : LH} : cAll n f ds h = cDfl n [] f ds h := by unfold cAll cDfl; simp
theorem Fx.u_good_sign {P : Program} {w : World} {K : PySem.W.Frag} {mg : Str → Option Value} {base : Heap} {T : Tb} (Z : Fx P w K mg base T) : ∀ p ∈ T, p.1 = tbA K "good_sign" → p.2 = (("good_sign" : Str) ++ ".<locals>." ++ "<genexpr>" : Str) := fun p hp e => Z.tu p hp _ Z.i_good_sign e
theorem Fx.u_good_stripes {P : Program} {w : World} {K : PySem.W.Frag} {mg : Str → Option Value} {base : Heap} {T : Tb} (Z : Fx P w K mg base T) : ∀ p ∈ T, p.1 = tbA K "good_stripes" → p.2 = (("good_stripes" : Str) ++ ".<locals>." ++ "<genexpr>" : Str) := fun p hp e => Z.tu p hp _ Z.i_good_stripes e
theorem Fx.u_nine_stripes {P : Program} {w : World} {K : PySem.W.Frag} {mg : Str → Option Value} {base : Heap} {T : Tb} (Z : Fx P w K mg base T) : ∀ p ∈ T, p.1 = tbA K "nine_stripes" → p.2 = (("nine_stripes" : Str) ++ ".<locals>." ++ "<genexpr>" : Str) := fun p hp e => Z.tu p hp _ Z.i_nine_stripes e
theorem Fx.u_nines_one_way {P : Program} {w : World} {K : PySem.W.Frag} {mg : Str → Option Value} {base : Heap} {T : Tb} (Z : Fx P w K mg base T) : ∀ p ∈ T, p.1 = tbA K "nines_one_way" → p.2 = (("nines_one_way" : Str) ++ ".<locals>." ++ "<genexpr>" : Str) := fun p hp e => Z.tu p hp _ Z.i_nines_one_way e
theorem Fx.u_drawn_stripes {P : Program} {w : World} {K : PySem.W.Frag} {mg : Str → Option Value} {base : Heap} {T : Tb} (Z : Fx P w K mg base T) : ∀ p ∈ T, p.1 = tbA K "drawn_stripes" → p.2 = (("drawn_stripes" : Str) ++ ".<locals>." ++ "<genexpr>" : Str) := fun p hp e => Z.tu p hp _ Z.i_drawn_stripes e
theorem Fx.u_x_law_plain {P : Program} {w : World} {K : PySem.W.Frag} {mg : Str → Option Value} {base : Heap} {T : Tb} (Z : Fx P w K mg base T) : ∀ p ∈ T, p.1 = tbA K "_law_plain" → p.2 = (("_law_plain" : Str) ++ ".<locals>." ++ "<lambda>" : Str) := fun p hp e => Z.tu p hp _ Z.i_x_law_plain e
theorem Fx.u_law {P : Program} {w : World} {K : PySem.W.Frag} {mg : Str → Option Value} {base : Heap} {T : Tb} (Z : Fx P w K mg base T) : ∀ p ∈ T, p.1 = tbA K "law" → p.2 = (("law" : Str) ++ ".<locals>." ++ "<lambda>" : Str) := fun p hp e => Z.tu p hp _ Z.i_law e
section
variable {P : Program} {w : World} {K : PySem.W.Frag} {mg : Str → Option Value} {base : Heap} {T : Tb}
/-! good_sign -/
abbrev st_good_sign : Stmt := top 5
theorem sc_good_sign : FnScope ["text", "sign", "whole", "place"] ["text"] (defScope st_good_sign) := ⟨rfl, rfl, rfl, by decide +kernel, rfl, by decide +kernel, by decide +kernel⟩
def m_good_sign : Sv := (sSeq (sIf (bOr (bTest (eBin dEq (eVar 0) (eC (.str [])))) (bTest (eGx tAnyR (iSeq (eVar 0)) [1] (gNm 1) bYes (eBin dNotIn (eVar 1) (eC (.str [48, 49, 50, 51, 52, 53, 54, 55, 56, 57])))))) (sRaise "BookError") sNil) (sSeq (sAsg (eGx tSumR (iEnumS (aCons (eRevX (eVar 0)) aNil)) [3, 1] (gTp 2 (gCns (gNm 3) (gCns (gNm 1) gNils))) bYes (eBin dMul (eCall (bRes bInt) (aCons (eVar 1) aNil)) (eIf (bTest (eBin dEq (eBin dMod (eVar 3) (eC (.int 2))) (eC (.int 0)))) (eC (.int 3)) (eC (.int 1))))) (gNm 2)) (sRet (eCall (bRes bStr) (aCons (eBin dMod (eBin dSub (eC (.int 10)) (eBin dMod (eVar 2) (eC (.int 10)))) (eC (.int 10))) aNil)))))
abbrev f_good_sign : Fv := fn 4 m_good_sign
abbrev g_good_sign : Fv := cAll 1 f_good_sign
theorem b_good_sign (Z : Fx P w K mg base T) : Body P w K mg base T ["text", "sign", "whole", "place"] "good_sign" (defScope st_good_sign) 5 (defBody st_good_sign) m_good_sign := fun A outer s H E hr =>
  (db_cons (ds_if (DW.dt (dw_or (dt_cmp (od_eq (hu64 hr)) (dv 0) (de_str [])) (dw_one_or (dt_val (de_any (j := 1) (hr.mono (by decide)) Z.t_good_sign Z.i_good_sign Z.u_good_sign (by exact rfl) (by exact rfl) Z.b_any (gxOk_by (own := [("sign", 1)]) (by rfl)) sc_good_sign.nd (di_seq (dv 0)) ⟨fun _ _ _ _ _ _ _ hj => (xnm 1 sc_good_sign.nd), fun _ _ _ _ _ _ _ hj => dts_nil, fun _ _ _ _ _ _ _ hj => (de_cmp od_notIn (dv 1) (de_str [48, 49, 50, 51, 52, 53, 54, 55, 56, 57]))⟩))))) (db_one (ds_raise (by exact rfl) (takes_cx (CX := L2.CX P w)) Z.x_BookError.at (by exact rfl))) db_nil)
    (db_cons (sst 2 sc_good_sign.nd (de_sumGx (j := 1) (hr.mono (by decide)) Z.t_good_sign Z.i_good_sign Z.u_good_sign (by exact rfl) (by exact rfl) Z.b_sum (gxOk_by (own := [("place", 3), ("sign", 1)]) (by rfl)) sc_good_sign.nd (di_enumS (by exact rfl) Z.b_enumerate (da_cons (de_revX (dv 0)) da_nil)) ⟨fun _ _ _ _ _ _ _ hj => (dx_tup (by exact rfl) (dxs_cons (xnm 3 sc_good_sign.nd) (dxs_cons (xnm 1 sc_good_sign.nd) dxs_nil))), fun _ _ _ _ _ _ _ hj => dts_nil, fun _ _ _ _ _ _ _ hj => (de_bin od_mul (de_callT cd_int (by exact rfl) Z.b_int (by exact rfl) (da_cons (dv 1) da_nil)) (de_if (dt_cmp (od_eq (hu64 hj)) (de_bin od_mod (dv 3) de_int) de_int) de_int de_int))⟩))
    (db_one (ds_ret (de_callT cd_str (by exact rfl) Z.b_str (by exact rfl) (da_cons (de_bin od_mod (de_bin od_sub de_int (de_bin od_mod (dv 2) de_int)) de_int) da_nil))))))
theorem c_good_sign (Z : Fx P w K mg base T) : Cal P w K mg base T 6 "good_sign" g_good_sign := cal_all Z.d_good_sign Z.g_good_sign sc_good_sign (fun _ _ _ _ _ _ us hl => match us, hl with | [_], _ => rfl) (b_good_sign Z)
/-! figure_stripes -/
abbrev st_figure_stripes : Stmt := top 10
theorem sc_figure_stripes : FnScope ["figure", "kind", "left", "right", "sign"] ["figure", "kind"] (defScope st_figure_stripes) := ⟨rfl, rfl, rfl, by decide +kernel, rfl, by decide +kernel, by decide +kernel⟩
def m_figure_stripes : Sv := (sSeq (sIf (bOr (bTest (eBin dNe (eCall (bRes bLen) (aCons (eVar 0) aNil)) (eC (.int 1)))) (bOr (bTest (eBin dNotIn (eVar 0) (eC (.str [48, 49, 50, 51, 52, 53, 54, 55, 56, 57])))) (bTest (eBin dNotIn (eVar 1) (eTup (aCons (eC (.str [76])) (aCons (eC (.str [82])) (aCons (eC (.str [71])) aNil)))))))) (sRaise "StripeError") sNil) (sSeq (sAsg (eIx (eC con_LEFT) (eCall (bRes bInt) (aCons (eVar 0) aNil))) (gNm 2)) (sSeq (sAsg (eMt "str" (mJoin) (eC (.str [])) (aCons (eLc (iSeq (eVar 2)) [4] (gNm 4) bYes (eIf (bTest (eBin dEq (eVar 4) (eC (.str [48])))) (eC (.str [49])) (eC (.str [48])))) aNil)) (gNm 3)) (sRet (eIf (bTest (eBin dEq (eVar 1) (eC (.str [76])))) (eVar 2) (eIf (bTest (eBin dEq (eVar 1) (eC (.str [82])))) (eVar 3) (eRevX (eVar 3))))))))
abbrev f_figure_stripes : Fv := fn 5 m_figure_stripes
abbrev g_figure_stripes : Fv := cAll 2 f_figure_stripes
theorem b_figure_stripes (Z : Fx P w K mg base T) : Body P w K mg base T ["figure", "kind", "left", "right", "sign"] "figure_stripes" (defScope st_figure_stripes) 1 (defBody st_figure_stripes) m_figure_stripes := fun A outer s H E hr =>
  (db_cons (ds_if (DW.dt (dw_or (dt_cmp (od_ne (hu64 hr)) (de_callB cd_len (by exact rfl) Z.b_len (by exact rfl) (da_cons (dv 0) da_nil)) de_int) (dw_or (dt_cmp od_notIn (dv 0) (de_str [48, 49, 50, 51, 52, 53, 54, 55, 56, 57])) (dw_one_or (dt_cmp od_notIn (dv 1) (de_tup (da_cons (de_str [76]) (da_cons (de_str [82]) (da_cons (de_str [71]) da_nil))))))))) (db_one (ds_raise (by exact rfl) (takes_cx (CX := L2.CX P w)) Z.x_StripeError.at (by exact rfl))) db_nil)
    (db_cons (sst 2 sc_figure_stripes.nd (de_ix (hu1 hr) (de_gcon (by exact rfl) (by exact TCon.g Z.c_LEFT)) (de_callT cd_int (by exact rfl) Z.b_int (by exact rfl) (da_cons (dv 0) da_nil))))
    (db_cons (sst 3 sc_figure_stripes.nd (de_m PySem.F.plainAttrs_str PySem.F.slot_str_join PySem.F.type_str_join md_join (de_str []) (da_cons (de_lc (by exact rfl) sc_figure_stripes.nd (di_seq (dv 2)) (blkOk_by (own := [("sign", 4)]) (by rfl)) ⟨fun _ _ _ _ _ => (xnm 4 sc_figure_stripes.nd), fun _ _ _ _ _ => dts_nil, fun _ _ _ _ _ => (de_if (dt_cmp (od_eq (hu64 hr)) (dv 4) (de_str [48])) (de_str [49]) (de_str [48]))⟩) da_nil)))
    (db_one (ds_ret (de_if (dt_cmp (od_eq (hu64 hr)) (dv 1) (de_str [76])) (dv 2) (de_if (dt_cmp (od_eq (hu64 hr)) (dv 1) (de_str [82])) (dv 3) (de_revX (dv 3)))))))))
theorem c_figure_stripes (Z : Fx P w K mg base T) : Cal P w K mg base T 2 "figure_stripes" g_figure_stripes := cal_all Z.d_figure_stripes Z.g_figure_stripes sc_figure_stripes (fun _ _ _ _ _ _ us hl => match us, hl with | [_, _], _ => rfl) (b_figure_stripes Z)
/-! good_stripes -/
abbrev st_good_stripes : Stmt := top 11
theorem sc_good_stripes : FnScope ["text", "sign", "head", "left", "figure", "kind", "right"] ["text"] (defScope st_good_stripes) := ⟨rfl, rfl, rfl, by decide +kernel, rfl, by decide +kernel, by decide +kernel⟩
def m_good_stripes : Sv := (sSeq (sIf (bOr (bTest (eBin dNe (eCall (bRes bLen) (aCons (eVar 0) aNil)) (eC (.int 13)))) (bOr (bTest (eGx tAnyR (iSeq (eVar 0)) [1] (gNm 1) bYes (eBin dNotIn (eVar 1) (eC (.str [48, 49, 50, 51, 52, 53, 54, 55, 56, 57]))))) (bTest (eBin dNe (eCall g_good_sign (aCons (eSl (eVar 0) oNo (oYes (eUn dNeg (eC (.int 1))))) aNil)) (eIx (eVar 0) (eUn dNeg (eC (.int 1)))))))) (sRaise "StripeError") sNil) (sSeq (sAsg (eIx (eC con_HEADS) (eCall (bRes bInt) (aCons (eIx (eVar 0) (eC (.int 0))) aNil))) (gNm 2)) (sSeq (sAsg (eMt "str" (mJoin) (eC (.str [])) (aCons (eLc (iZipS (aCons (eSl (eVar 0) (oYes (eC (.int 1))) (oYes (eC (.int 7)))) (aCons (eVar 2) aNil))) [4, 5] (gTp 2 (gCns (gNm 4) (gCns (gNm 5) gNils))) bYes (eCall g_figure_stripes (aCons (eVar 4) (aCons (eVar 5) aNil)))) aNil)) (gNm 3)) (sSeq (sAsg (eMt "str" (mJoin) (eC (.str [])) (aCons (eLc (iSeq (eSl (eVar 0) (oYes (eC (.int 7))) oNo)) [4] (gNm 4) bYes (eCall g_figure_stripes (aCons (eVar 4) (aCons (eC (.str [82])) aNil)))) aNil)) (gNm 6)) (sRet (eBin dAdd (eBin dAdd (eBin dAdd (eBin dAdd (eC (.str [49, 48, 49])) (eVar 3)) (eC (.str [48, 49, 48, 49, 48]))) (eVar 6)) (eC (.str [49, 48, 49]))))))))
abbrev f_good_stripes : Fv := fn 7 m_good_stripes
abbrev g_good_stripes : Fv := cAll 1 f_good_stripes
theorem b_good_stripes (Z : Fx P w K mg base T) : Body P w K mg base T ["text", "sign", "head", "left", "figure", "kind", "right"] "good_stripes" (defScope st_good_stripes) 6 (defBody st_good_stripes) m_good_stripes := fun A outer s H E hr =>
  (db_cons (ds_if (DW.dt (dw_or (dt_cmp (od_ne (hu64 hr)) (de_callB cd_len (by exact rfl) Z.b_len (by exact rfl) (da_cons (dv 0) da_nil)) de_int) (dw_or (dt_val (de_any (j := 1) (hr.mono (by decide)) Z.t_good_stripes Z.i_good_stripes Z.u_good_stripes (by exact rfl) (by exact rfl) Z.b_any (gxOk_by (own := [("sign", 1)]) (by rfl)) sc_good_stripes.nd (di_seq (dv 0)) ⟨fun _ _ _ _ _ _ _ hj => (xnm 1 sc_good_stripes.nd), fun _ _ _ _ _ _ _ hj => dts_nil, fun _ _ _ _ _ _ _ hj => (de_cmp od_notIn (dv 1) (de_str [48, 49, 50, 51, 52, 53, 54, 55, 56, 57]))⟩)) (dw_one_or (dt_cmp (od_ne (hu64 hr)) (de_call (c_good_sign Z) hr (by decide) (by exact rfl) (takes_cx (CX := L2.CX P w)) (da_cons (de_sl (dv 0) do_no (do_yes (de_neg de_int))) da_nil)) (de_ix (hu1 hr) (dv 0) (de_neg de_int))))))) (db_one (ds_raise (by exact rfl) (takes_cx (CX := L2.CX P w)) Z.x_StripeError.at (by exact rfl))) db_nil)
    (db_cons (sst 2 sc_good_stripes.nd (de_ix (hu1 hr) (de_gcon (by exact rfl) (by exact TCon.g Z.c_HEADS)) (de_callT cd_int (by exact rfl) Z.b_int (by exact rfl) (da_cons (de_ix (hu1 hr) (dv 0) de_int) da_nil))))
    (db_cons (sst 3 sc_good_stripes.nd (de_m PySem.F.plainAttrs_str PySem.F.slot_str_join PySem.F.type_str_join md_join (de_str []) (da_cons (de_lc (by exact rfl) sc_good_stripes.nd (di_zipS (by exact rfl) Z.b_zip (da_cons (de_sl (dv 0) (do_yes de_int) (do_yes de_int)) (da_cons (dv 2) da_nil))) (blkOk_by (own := [("figure", 4), ("kind", 5)]) (by rfl)) ⟨fun _ _ _ _ _ => (dx_tup (by exact rfl) (dxs_cons (xnm 4 sc_good_stripes.nd) (dxs_cons (xnm 5 sc_good_stripes.nd) dxs_nil))), fun _ _ _ _ _ => dts_nil, fun _ _ _ _ _ => (de_call (c_figure_stripes Z) hr (by decide) (by exact rfl) LamX.takes0 (da_cons (dv 4) (da_cons (dv 5) da_nil)))⟩) da_nil)))
    (db_cons (sst 6 sc_good_stripes.nd (de_m PySem.F.plainAttrs_str PySem.F.slot_str_join PySem.F.type_str_join md_join (de_str []) (da_cons (de_lc (by exact rfl) sc_good_stripes.nd (di_seq (de_sl (dv 0) (do_yes de_int) do_no)) (blkOk_by (own := [("figure", 4)]) (by rfl)) ⟨fun _ _ _ _ _ => (xnm 4 sc_good_stripes.nd), fun _ _ _ _ _ => dts_nil, fun _ _ _ _ _ => (de_call (c_figure_stripes Z) hr (by decide) (by exact rfl) LamX.takes0 (da_cons (dv 4) (da_cons (de_str [82]) da_nil)))⟩) da_nil)))
    (db_one (ds_ret (de_bin od_add (de_bin od_add (de_bin od_add (de_bin od_add (de_str [49, 48, 49]) (dv 3)) (de_str [48, 49, 48, 49, 48])) (dv 6)) (de_str [49, 48, 49]))))))))
theorem c_good_stripes (Z : Fx P w K mg base T) : Cal P w K mg base T 7 "good_stripes" g_good_stripes := cal_all Z.d_good_stripes Z.g_good_stripes sc_good_stripes (fun _ _ _ _ _ _ us hl => match us, hl with | [_], _ => rfl) (b_good_stripes Z)
/-! figure_in -/
abbrev st_figure_in : Stmt := top 14
theorem sc_figure_in : FnScope ["stripes", "kinds", "kind", "here", "left", "sign"] ["stripes", "kinds"] (defScope st_figure_in) := ⟨rfl, rfl, rfl, by decide +kernel, rfl, by decide +kernel, by decide +kernel⟩
def m_figure_in : Sv := (sSeq (sForI (iSeq (eVar 1)) (gNm 2) (sSeq (sAsg (eIf (bTest (eBin dEq (eVar 2) (eC (.str [71])))) (eRevX (eVar 0)) (eVar 0)) (gNm 3)) (sSeq (sAsg (eIf (bTest (eBin dEq (eVar 2) (eC (.str [76])))) (eVar 3) (eMt "str" (mJoin) (eC (.str [])) (aCons (eLc (iSeq (eVar 3)) [5] (gNm 5) bYes (eIf (bTest (eBin dEq (eVar 5) (eC (.str [48])))) (eC (.str [49])) (eC (.str [48])))) aNil))) (gNm 4)) (sIf (bTest (eBin dIn (eVar 4) (eC con_LEFT))) (sRet (eTup (aCons (eCall (bRes bStr) (aCons (eTIdx con_LEFTl (eVar 4)) aNil)) (aCons (eVar 2) aNil)))) sNil)))) (sRet (eTup (aCons (eC (.str [])) (aCons (eC (.str [])) aNil)))))
abbrev f_figure_in : Fv := fn 6 m_figure_in
abbrev g_figure_in : Fv := cAll 2 f_figure_in
theorem b_figure_in (Z : Fx P w K mg base T) : Body P w K mg base T ["stripes", "kinds", "kind", "here", "left", "sign"] "figure_in" (defScope st_figure_in) 1 (defBody st_figure_in) m_figure_in := fun A outer s H E hr =>
  (db_cons (ds_for owns_cx (by exact rfl) (di_seq (dv 1)) (gnm 2 sc_figure_in.nd) (db_cons (sst 3 sc_figure_in.nd (de_if (dt_cmp (od_eq (hu64 hr)) (dv 2) (de_str [71])) (de_revX (dv 0)) (dv 0)))
    (db_cons (sst 4 sc_figure_in.nd (de_if (dt_cmp (od_eq (hu64 hr)) (dv 2) (de_str [76])) (dv 3) (de_m PySem.F.plainAttrs_str PySem.F.slot_str_join PySem.F.type_str_join md_join (de_str []) (da_cons (de_lc (by exact rfl) sc_figure_in.nd (di_seq (dv 3)) (blkOk_by (own := [("sign", 5)]) (by rfl)) ⟨fun _ _ _ _ _ => (xnm 5 sc_figure_in.nd), fun _ _ _ _ _ => dts_nil, fun _ _ _ _ _ => (de_if (dt_cmp (od_eq (hu64 hr)) (dv 5) (de_str [48])) (de_str [49]) (de_str [48]))⟩) da_nil))))
    (db_one (ds_if (dt_cmp od_in (dv 4) (de_gcon (by exact rfl) (by exact TCon.g Z.c_LEFT))) (db_one (ds_ret (de_tup (da_cons (de_callT cd_str (by exact rfl) Z.b_str (by exact rfl) (da_cons (de_tidx (by exact rfl) (by exact TCon.t Z.c_LEFT) (dv 4)) da_nil)) (da_cons (dv 2) da_nil))))) db_nil)))))
    (db_one (ds_ret (de_tup (da_cons (de_str []) (da_cons (de_str []) da_nil))))))
theorem c_figure_in (Z : Fx P w K mg base T) : Cal P w K mg base T 2 "figure_in" g_figure_in := cal_all Z.d_figure_in Z.g_figure_in sc_figure_in (fun _ _ _ _ _ _ us hl => match us, hl with | [_, _], _ => rfl) (b_figure_in Z)
/-! read_one_way -/
abbrev st_read_one_way : Stmt := top 13
theorem sc_read_one_way : FnScope ["stripes", "left", "spot", "right", "kinds", "figure", "kind", "found"] ["stripes"] (defScope st_read_one_way) := ⟨rfl, rfl, rfl, by decide +kernel, rfl, by decide +kernel, by decide +kernel⟩
def m_read_one_way : Sv := (sSeq (sIf (bOr (bTest (eBin dNe (eCall (bRes bLen) (aCons (eVar 0) aNil)) (eC (.int 95)))) (bTest (eBin dNe (eTup (aCons (eSl (eVar 0) oNo (oYes (eC (.int 3)))) (aCons (eSl (eVar 0) (oYes (eC (.int 45))) (oYes (eC (.int 50)))) (aCons (eSl (eVar 0) (oYes (eC (.int 92))) oNo) aNil)))) (eTup (aCons (eC (.str [49, 48, 49])) (aCons (eC (.str [48, 49, 48, 49, 48])) (aCons (eC (.str [49, 48, 49])) aNil))))))) (sRet (eC (.str []))) sNil) (sSeq (sAsg (eLc (iRng3 (aCons (eC (.int 3)) (aCons (eC (.int 45)) (aCons (eC (.int 7)) aNil)))) [2] (gNm 2) bYes (eCall g_figure_in (aCons (eSl (eVar 0) (oYes (eVar 2)) (oYes (eBin dAdd (eVar 2) (eC (.int 7))))) (aCons (eC (.str [76, 71])) aNil)))) (gNm 1)) (sSeq (sAsg (eLc (iRng3 (aCons (eC (.int 50)) (aCons (eC (.int 92)) (aCons (eC (.int 7)) aNil)))) [2] (gNm 2) bYes (eCall g_figure_in (aCons (eSl (eVar 0) (oYes (eVar 2)) (oYes (eBin dAdd (eVar 2) (eC (.int 7))))) (aCons (eC (.str [82])) aNil)))) (gNm 3)) (sSeq (sAsg (eMt "str" (mJoin) (eC (.str [])) (aCons (eLc (iSeq (eVar 1)) [5, 6] (gTp 2 (gCns (gNm 5) (gCns (gNm 6) gNils))) bYes (eVar 6)) aNil)) (gNm 4)) (sSeq (sIf (bOr (bTest (eBin dIn (eC (.str [])) (eLc (iSeq (eBin dAdd (eVar 1) (eVar 3))) [5, 6] (gTp 2 (gCns (gNm 5) (gCns (gNm 6) gNils))) bYes (eVar 5)))) (bTest (eBin dNotIn (eVar 4) (eC con_HEADS)))) (sRet (eC (.str []))) sNil) (sSeq (sAsg (eBin dAdd (eCall (bRes bStr) (aCons (eTIdx con_HEADSl (eVar 4)) aNil)) (eMt "str" (mJoin) (eC (.str [])) (aCons (eLc (iSeq (eBin dAdd (eVar 1) (eVar 3))) [5, 6] (gTp 2 (gCns (gNm 5) (gCns (gNm 6) gNils))) bYes (eVar 5)) aNil))) (gNm 7)) (sRet (eIf (bTest (eBin dEq (eCall g_good_sign (aCons (eSl (eVar 7) oNo (oYes (eUn dNeg (eC (.int 1))))) aNil)) (eIx (eVar 7) (eUn dNeg (eC (.int 1)))))) (eVar 7) (eC (.str []))))))))))
abbrev f_read_one_way : Fv := fn 8 m_read_one_way
abbrev g_read_one_way : Fv := cAll 1 f_read_one_way
theorem b_read_one_way (Z : Fx P w K mg base T) : Body P w K mg base T ["stripes", "left", "spot", "right", "kinds", "figure", "kind", "found"] "read_one_way" (defScope st_read_one_way) 6 (defBody st_read_one_way) m_read_one_way := fun A outer s H E hr =>
  (db_cons (ds_if (DW.dt (dw_or (dt_cmp (od_ne (hu64 hr)) (de_callB cd_len (by exact rfl) Z.b_len (by exact rfl) (da_cons (dv 0) da_nil)) de_int) (dw_one_or (dt_cmp (od_ne (hu64 hr)) (de_tup (da_cons (de_sl (dv 0) do_no (do_yes de_int)) (da_cons (de_sl (dv 0) (do_yes de_int) (do_yes de_int)) (da_cons (de_sl (dv 0) (do_yes de_int) do_no) da_nil)))) (de_tup (da_cons (de_str [49, 48, 49]) (da_cons (de_str [48, 49, 48, 49, 48]) (da_cons (de_str [49, 48, 49]) da_nil)))))))) (db_one (ds_ret (de_str []))) db_nil)
    (db_cons (slc 1 (by exact rfl) sc_read_one_way.nd (blkOk_by (own := [("spot", 2)]) (by rfl)) (di_range3 (by exact rfl) Z.b_range (da_cons de_int (da_cons de_int (da_cons de_int da_nil)))) ⟨fun _ _ _ _ _ => (xnm 2 sc_read_one_way.nd), fun _ _ _ _ _ => dts_nil, fun _ _ _ _ _ => (de_call (c_figure_in Z) hr (by decide) (by exact rfl) LamX.takes0 (da_cons (de_sl (dv 0) (do_yes (dv 2)) (do_yes (de_bin od_add (dv 2) de_int))) (da_cons (de_str [76, 71]) da_nil)))⟩)
    (db_cons (slc 3 (by exact rfl) sc_read_one_way.nd (blkOk_by (own := [("spot", 2)]) (by rfl)) (di_range3 (by exact rfl) Z.b_range (da_cons de_int (da_cons de_int (da_cons de_int da_nil)))) ⟨fun _ _ _ _ _ => (xnm 2 sc_read_one_way.nd), fun _ _ _ _ _ => dts_nil, fun _ _ _ _ _ => (de_call (c_figure_in Z) hr (by decide) (by exact rfl) LamX.takes0 (da_cons (de_sl (dv 0) (do_yes (dv 2)) (do_yes (de_bin od_add (dv 2) de_int))) (da_cons (de_str [82]) da_nil)))⟩)
    (db_cons (sst 4 sc_read_one_way.nd (de_m PySem.F.plainAttrs_str PySem.F.slot_str_join PySem.F.type_str_join md_join (de_str []) (da_cons (de_lc (by exact rfl) sc_read_one_way.nd (di_seq (dv 1)) (blkOk_by (own := [("figure", 5), ("kind", 6)]) (by rfl)) ⟨fun _ _ _ _ _ => (dx_tup (by exact rfl) (dxs_cons (xnm 5 sc_read_one_way.nd) (dxs_cons (xnm 6 sc_read_one_way.nd) dxs_nil))), fun _ _ _ _ _ => dts_nil, fun _ _ _ _ _ => (dv 6)⟩) da_nil)))
    (db_cons (ds_if (DW.dt (dw_or (dt_cmp od_in (de_str []) (de_lc (by exact rfl) sc_read_one_way.nd (di_seq (de_bin od_add (dv 1) (dv 3))) (blkOk_by (own := [("figure", 5), ("kind", 6)]) (by rfl)) ⟨fun _ _ _ _ _ => (dx_tup (by exact rfl) (dxs_cons (xnm 5 sc_read_one_way.nd) (dxs_cons (xnm 6 sc_read_one_way.nd) dxs_nil))), fun _ _ _ _ _ => dts_nil, fun _ _ _ _ _ => (dv 5)⟩)) (dw_one_or (dt_cmp od_notIn (dv 4) (de_gcon (by exact rfl) (by exact TCon.g Z.c_HEADS)))))) (db_one (ds_ret (de_str []))) db_nil)
    (db_cons (sst 7 sc_read_one_way.nd (de_bin od_add (de_callT cd_str (by exact rfl) Z.b_str (by exact rfl) (da_cons (de_tidx (by exact rfl) (by exact TCon.t Z.c_HEADS) (dv 4)) da_nil)) (de_m PySem.F.plainAttrs_str PySem.F.slot_str_join PySem.F.type_str_join md_join (de_str []) (da_cons (de_lc (by exact rfl) sc_read_one_way.nd (di_seq (de_bin od_add (dv 1) (dv 3))) (blkOk_by (own := [("figure", 5), ("kind", 6)]) (by rfl)) ⟨fun _ _ _ _ _ => (dx_tup (by exact rfl) (dxs_cons (xnm 5 sc_read_one_way.nd) (dxs_cons (xnm 6 sc_read_one_way.nd) dxs_nil))), fun _ _ _ _ _ => dts_nil, fun _ _ _ _ _ => (dv 5)⟩) da_nil))))
    (db_one (ds_ret (de_if (dt_cmp (od_eq (hu64 hr)) (de_call (c_good_sign Z) hr (by decide) (by exact rfl) (takes_cx (CX := L2.CX P w)) (da_cons (de_sl (dv 7) do_no (do_yes (de_neg de_int))) da_nil)) (de_ix (hu1 hr) (dv 7) (de_neg de_int))) (dv 7) (de_str []))))))))))
theorem c_read_one_way (Z : Fx P w K mg base T) : Cal P w K mg base T 7 "read_one_way" g_read_one_way := cal_all Z.d_read_one_way Z.g_read_one_way sc_read_one_way (fun _ _ _ _ _ _ us hl => match us, hl with | [_], _ => rfl) (b_read_one_way Z)
/-! read_good -/
abbrev st_read_good : Stmt := top 12
theorem sc_read_good : FnScope ["stripes", "way", "found"] ["stripes"] (defScope st_read_good) := ⟨rfl, rfl, rfl, by decide +kernel, rfl, by decide +kernel, by decide +kernel⟩
def m_read_good : Sv := (sSeq (sForI (iSeq (eTup (aCons (eVar 0) (aCons (eRevX (eVar 0)) aNil)))) (gNm 1) (sSeq (sAsg (eCall g_read_one_way (aCons (eVar 1) aNil)) (gNm 2)) (sIf (bTest (eBin dNe (eVar 2) (eC (.str [])))) (sRet (eVar 2)) sNil))) (sRaise "StripeError"))
abbrev f_read_good : Fv := fn 3 m_read_good
abbrev g_read_good : Fv := cAll 1 f_read_good
theorem b_read_good (Z : Fx P w K mg base T) : Body P w K mg base T ["stripes", "way", "found"] "read_good" (defScope st_read_good) 7 (defBody st_read_good) m_read_good := fun A outer s H E hr =>
  (db_cons (ds_for owns_cx (by exact rfl) (di_seq (de_tup (da_cons (dv 0) (da_cons (de_revX (dv 0)) da_nil)))) (gnm 1 sc_read_good.nd) (db_cons (sst 2 sc_read_good.nd (de_call (c_read_one_way Z) hr (by decide) (by exact rfl) (takes_cx (CX := L2.CX P w)) (da_cons (dv 1) da_nil)))
    (db_one (ds_if (dt_cmp (od_ne (hu64 hr)) (dv 2) (de_str [])) (db_one (ds_ret (dv 2))) db_nil))))
    (db_one (ds_raise (by exact rfl) (takes_cx (CX := L2.CX P w)) Z.x_StripeError.at (by exact rfl))))
theorem c_read_good (Z : Fx P w K mg base T) : Cal P w K mg base T 8 "read_good" g_read_good := cal_all Z.d_read_good Z.g_read_good sc_read_good (fun _ _ _ _ _ _ us hl => match us, hl with | [_], _ => rfl) (b_read_good Z)
/-! nine_stripes -/
abbrev st_nine_stripes : Stmt := top 15
theorem sc_nine_stripes : FnScope ["text", "sign", "parts", "told", "place", "wide"] ["text"] (defScope st_nine_stripes) := ⟨rfl, rfl, rfl, by decide +kernel, rfl, by decide +kernel, by decide +kernel⟩
def m_nine_stripes : Sv := (sSeq (sIf (bOr (bNot (bTest (eChain dLe dLe (eC (.int 1)) (eCall (bRes bLen) (aCons (eVar 0) aNil)) (eC (.int 40))))) (bTest (eGx tAnyR (iSeq (eVar 0)) [1] (gNm 1) bYes (eOr (eKin true tab_NINES (eVar 1)) (eBin dEq (eVar 1) (eC (.str [42]))))))) (sRaise "StripeError") sNil) (sSeq (sAsg (eNew aNil) (gNm 2)) (sSeq (sForI (iSeq (eBin dAdd (eBin dAdd (eC (.str [42])) (eVar 0)) (eC (.str [42])))) (gNm 1) (sSeq (sAsg (eC (.str [])) (gNm 3)) (sSeq (sForI (iEnumS (aCons (eKix tab_NINES (eVar 1)) aNil)) (gTp 2 (gCns (gNm 4) (gCns (gNm 5) gNils))) (sAug dIAdd 3 (eBin dMul (eIx (eC (.str [49, 48])) (eBin dMod (eVar 4) (eC (.int 2)))) (eIf (bTest (eBin dEq (eVar 5) (eC (.str [49])))) (eC (.int 2)) (eC (.int 1)))))) (sExpr (eMt "list" (mAppend) (eVar 2) (aCons (eVar 3) aNil)))))) (sRet (eMt "str" (mJoin) (eC (.str [48])) (aCons (eVar 2) aNil))))))
abbrev f_nine_stripes : Fv := fn 6 m_nine_stripes
abbrev g_nine_stripes : Fv := cAll 1 f_nine_stripes
theorem b_nine_stripes (Z : Fx P w K mg base T) : Body P w K mg base T ["text", "sign", "parts", "told", "place", "wide"] "nine_stripes" (defScope st_nine_stripes) 5 (defBody st_nine_stripes) m_nine_stripes := fun A outer s H E hr =>
  (db_cons (ds_if (DW.dt (dw_or (dt_not (dt_chain od_le od_le de_int (de_callB cd_len (by exact rfl) Z.b_len (by exact rfl) (da_cons (dv 0) da_nil)) de_int)) (dw_one_or (dt_val (de_any (j := 1) (hr.mono (by decide)) Z.t_nine_stripes Z.i_nine_stripes Z.u_nine_stripes (by exact rfl) (by exact rfl) Z.b_any (gxOk_by (own := [("sign", 1)]) (by rfl)) sc_nine_stripes.nd (di_seq (dv 0)) ⟨fun _ _ _ _ _ _ _ hj => (xnm 1 sc_nine_stripes.nd), fun _ _ _ _ _ _ _ hj => dts_nil, fun _ _ _ _ _ _ _ hj => (de_or (de_knin (by exact rfl) (by exact GTab2.g Z.c_NINES) (dv 1)) (de_one (de_cmp (od_eq (hu64 hj)) (dv 1) (de_str [42]))))⟩))))) (db_one (ds_raise (by exact rfl) (takes_cx (CX := L2.CX P w)) Z.x_StripeError.at (by exact rfl))) db_nil)
    (db_cons (sst 2 sc_nine_stripes.nd (de_new da_nil))
    (db_cons (ds_for owns_cx (by exact rfl) (di_seq (de_bin od_add (de_bin od_add (de_str [42]) (dv 0)) (de_str [42]))) (gnm 1 sc_nine_stripes.nd) (db_cons (sst 3 sc_nine_stripes.nd (de_str []))
    (db_cons (ds_for owns_cx (by exact rfl) (di_enumS (by exact rfl) Z.b_enumerate (da_cons (de_kix (by exact rfl) (by exact GTab2.g Z.c_NINES) (dv 1)) da_nil)) (dg_tup (by exact rfl) (dgs_cons (gnm 4 sc_nine_stripes.nd) (dgs_cons (gnm 5 sc_nine_stripes.nd) dgs_nil))) (db_one (sau 3 sc_nine_stripes.nd (de_bin od_mul (de_ix (hu1 hr) (de_str [49, 48]) (de_bin od_mod (dv 4) de_int)) (de_if (dt_cmp (od_eq (hu64 hr)) (dv 5) (de_str [49])) de_int de_int)) oi_addD)))
    (db_one (ds_expr (de_m PySem.F.plainAttrs_list PySem.F.slot_list_append PySem.F.type_list_append md_append (dv 2) (da_cons (dv 3) da_nil)))))))
    (db_one (ds_ret (de_m PySem.F.plainAttrs_str PySem.F.slot_str_join PySem.F.type_str_join md_join (de_str [48]) (da_cons (dv 2) da_nil)))))))
theorem c_nine_stripes (Z : Fx P w K mg base T) : Cal P w K mg base T 6 "nine_stripes" g_nine_stripes := cal_all Z.d_nine_stripes Z.g_nine_stripes sc_nine_stripes (fun _ _ _ _ _ _ us hl => match us, hl with | [_], _ => rfl) (b_nine_stripes Z)
/-! runs_in_stripes -/
abbrev st_runs_in_stripes : Stmt := top 18
theorem sc_runs_in_stripes : FnScope ["stripes", "found", "sign"] ["stripes"] (defScope st_runs_in_stripes) := ⟨rfl, rfl, rfl, by decide +kernel, rfl, by decide +kernel, by decide +kernel⟩
def m_runs_in_stripes : Sv := (sSeq (sAsg (eNew aNil) (gNm 1)) (sSeq (sForI (iSeq (eVar 0)) (gNm 2) (sIf (bAnd (bTest (eBinH dNe (eVar 1) (eLst aNil))) (bTest (eBin dEq (eIx (eIx (eVar 1) (eUn dNeg (eC (.int 1)))) (eC (.int 0))) (eVar 2)))) (sAsg (eTup (aCons (eVar 2) (aCons (eBin dAdd (eIx (eIx (eVar 1) (eUn dNeg (eC (.int 1)))) (eC (.int 1))) (eC (.int 1))) aNil))) (gSubH (eVar 1) (eUn dNeg (eC (.int 1))))) (sExpr (eMt "list" (mAppend) (eVar 1) (aCons (eTup (aCons (eVar 2) (aCons (eC (.int 1)) aNil))) aNil))))) (sRetF (eVar 1))))
abbrev f_runs_in_stripes : Fv := fn 3 m_runs_in_stripes
abbrev g_runs_in_stripes : Fv := cAll 1 f_runs_in_stripes
theorem b_runs_in_stripes (Z : Fx P w K mg base T) : Body P w K mg base T ["stripes", "found", "sign"] "runs_in_stripes" (defScope st_runs_in_stripes) 1 (defBody st_runs_in_stripes) m_runs_in_stripes := fun A outer s H E hr =>
  (db_cons (sst 1 sc_runs_in_stripes.nd (de_new da_nil))
    (db_cons (ds_for owns_cx (by exact rfl) (di_seq (dv 0)) (gnm 2 sc_runs_in_stripes.nd) (db_one (ds_if (DW.dt (dw_and (dt_cmpH (oh_ne (hu64 hr)) (dv 1) (de_lst da_nil)) (dw_one_and (dt_cmp (od_eq (hu64 hr)) (de_ix (hu1 hr) (de_ix (hu1 hr) (dv 1) (de_neg de_int)) de_int) (dv 2))))) (db_one (ds_asg (de_tup (da_cons (dv 2) (da_cons (de_bin od_add (de_ix (hu1 hr) (de_ix (hu1 hr) (dv 1) (de_neg de_int)) de_int) de_int) da_nil))) (dg_sub (hu1 hr) (dv 1) (de_neg de_int)))) (db_one (ds_expr (de_m PySem.F.plainAttrs_list PySem.F.slot_list_append PySem.F.type_list_append md_append (dv 1) (da_cons (de_tup (da_cons (dv 2) (da_cons de_int da_nil))) da_nil)))))))
    (db_one (ds_retF (dv 1)))))
theorem c_runs_in_stripes (Z : Fx P w K mg base T) : Cal P w K mg base T 2 "runs_in_stripes" g_runs_in_stripes := cal_all Z.d_runs_in_stripes Z.g_runs_in_stripes sc_runs_in_stripes (fun _ _ _ _ _ _ us hl => match us, hl with | [_], _ => rfl) (b_runs_in_stripes Z)
/-! nines_one_way -/
abbrev st_nines_one_way : Stmt := top 17
theorem sc_nines_one_way : FnScope ["stripes", "runs", "sign", "size", "found", "spot", "wides", "able", "one", "is_full"] ["stripes"] (defScope st_nines_one_way) := ⟨rfl, rfl, rfl, by decide +kernel, rfl, by decide +kernel, by decide +kernel⟩
def m_nines_one_way : Sv := (sSeq (sAsg (eCall g_runs_in_stripes (aCons (eVar 0) aNil)) (gNm 1)) (sSeq (sIf (bOr (bTest (eBin dEq (eVar 1) (eLst aNil))) (bOr (bTest (eBin dNe (eBin dMod (eBin dAdd (eCall (bRes bLen) (aCons (eVar 1) aNil)) (eC (.int 1))) (eC (.int 10))) (eC (.int 0)))) (bOr (bTest (eBin dNe (eIx (eIx (eVar 1) (eC (.int 0))) (eC (.int 0))) (eC (.str [49])))) (bTest (eGx tAnyR (iSeq (eVar 1)) [2, 3] (gTp 2 (gCns (gNm 2) (gCns (gNm 3) gNils))) bYes (eBin dGt (eVar 3) (eC (.int 2)))))))) (sRet (eC (.str []))) sNil) (sSeq (sAsg (eC (.str [])) (gNm 4)) (sSeq (sForI (iRng3 (aCons (eC (.int 0)) (aCons (eCall (bRes bLen) (aCons (eVar 1) aNil)) (aCons (eC (.int 10)) aNil)))) (gNm 5) (sSeq (sAsg (eMt "str" (mJoin) (eC (.str [])) (aCons (eLc (iSeq (eSl (eVar 1) (oYes (eVar 5)) (oYes (eBin dAdd (eVar 5) (eC (.int 9)))))) [2, 3] (gTp 2 (gCns (gNm 2) (gCns (gNm 3) gNils))) bYes (eCall (bRes bStr) (aCons (eBin dSub (eVar 3) (eC (.int 1))) aNil))) aNil)) (gNm 6)) (sSeq (sAsg (eLc (iKki tab_NINES) [2, 8] (gTp 2 (gCns (gNm 2) (gCns (gNm 8) gNils))) (bTest (eBin dEq (eVar 8) (eVar 6))) (eVar 2)) (gNm 7)) (sSeq (sIf (bOr (bTest (eBin dEq (eVar 7) (eLst aNil))) (bAnd (bTest (eBin dLt (eBin dAdd (eVar 5) (eC (.int 9))) (eCall (bRes bLen) (aCons (eVar 1) aNil)))) (bTest (eBin dNe (eIx (eIx (eVar 1) (eBin dAdd (eVar 5) (eC (.int 9)))) (eC (.int 1))) (eC (.int 1)))))) (sRet (eC (.str []))) sNil) (sAug dIAdd 4 (eIx (eVar 7) (eC (.int 0)))))))) (sSeq (sAsg (eAnd (eBin dGt (eCall (bRes bLen) (aCons (eVar 4) aNil)) (eC (.int 2))) (eAnd (eBin dEq (eIx (eVar 4) (eC (.int 0))) (eC (.str [42]))) (eAnd (eBin dEq (eIx (eVar 4) (eUn dNeg (eC (.int 1)))) (eC (.str [42]))) (eBin dNotIn (eC (.str [42])) (eSl (eVar 4) (oYes (eC (.int 1))) (oYes (eUn dNeg (eC (.int 1))))))))) (gNm 9)) (sRet (eIf (bTest (eVar 9)) (eSl (eVar 4) (oYes (eC (.int 1))) (oYes (eUn dNeg (eC (.int 1))))) (eC (.str [])))))))))
abbrev f_nines_one_way : Fv := fn 10 m_nines_one_way
abbrev g_nines_one_way : Fv := cAll 1 f_nines_one_way
theorem b_nines_one_way (Z : Fx P w K mg base T) : Body P w K mg base T ["stripes", "runs", "sign", "size", "found", "spot", "wides", "able", "one", "is_full"] "nines_one_way" (defScope st_nines_one_way) 5 (defBody st_nines_one_way) m_nines_one_way := fun A outer s H E hr =>
  (db_cons (sst 1 sc_nines_one_way.nd (de_call (c_runs_in_stripes Z) hr (by decide) (by exact rfl) (takes_cx (CX := L2.CX P w)) (da_cons (dv 0) da_nil)))
    (db_cons (ds_if (DW.dt (dw_or (dt_cmp (od_eq (hu64 hr)) (dv 1) (de_lst da_nil)) (dw_or (dt_cmp (od_ne (hu64 hr)) (de_bin od_mod (de_bin od_add (de_callB cd_len (by exact rfl) Z.b_len (by exact rfl) (da_cons (dv 1) da_nil)) de_int) de_int) de_int) (dw_or (dt_cmp (od_ne (hu64 hr)) (de_ix (hu1 hr) (de_ix (hu1 hr) (dv 1) de_int) de_int) (de_str [49])) (dw_one_or (dt_val (de_any (j := 1) (hr.mono (by decide)) Z.t_nines_one_way Z.i_nines_one_way Z.u_nines_one_way (by exact rfl) (by exact rfl) Z.b_any (gxOk_by (own := [("sign", 2), ("size", 3)]) (by rfl)) sc_nines_one_way.nd (di_seq (dv 1)) ⟨fun _ _ _ _ _ _ _ hj => (dx_tup (by exact rfl) (dxs_cons (xnm 2 sc_nines_one_way.nd) (dxs_cons (xnm 3 sc_nines_one_way.nd) dxs_nil))), fun _ _ _ _ _ _ _ hj => dts_nil, fun _ _ _ _ _ _ _ hj => (de_cmp od_gt (dv 3) de_int)⟩))))))) (db_one (ds_ret (de_str []))) db_nil)
    (db_cons (sst 4 sc_nines_one_way.nd (de_str []))
    (db_cons (ds_for owns_cx (by exact rfl) (di_range3 (by exact rfl) Z.b_range (da_cons de_int (da_cons (de_callB cd_len (by exact rfl) Z.b_len (by exact rfl) (da_cons (dv 1) da_nil)) (da_cons de_int da_nil)))) (gnm 5 sc_nines_one_way.nd) (db_cons (sst 6 sc_nines_one_way.nd (de_m PySem.F.plainAttrs_str PySem.F.slot_str_join PySem.F.type_str_join md_join (de_str []) (da_cons (de_lc (by exact rfl) sc_nines_one_way.nd (di_seq (de_sl (dv 1) (do_yes (dv 5)) (do_yes (de_bin od_add (dv 5) de_int)))) (blkOk_by (own := [("sign", 2), ("size", 3)]) (by rfl)) ⟨fun _ _ _ _ _ => (dx_tup (by exact rfl) (dxs_cons (xnm 2 sc_nines_one_way.nd) (dxs_cons (xnm 3 sc_nines_one_way.nd) dxs_nil))), fun _ _ _ _ _ => dts_nil, fun _ _ _ _ _ => (de_callT cd_str (by exact rfl) Z.b_str (by exact rfl) (da_cons (de_bin od_sub (dv 3) de_int) da_nil))⟩) da_nil)))
    (db_cons (slc 7 (by exact rfl) sc_nines_one_way.nd (blkOk_by (own := [("sign", 2), ("one", 8)]) (by rfl)) (di_kki (by exact rfl) (by exact Z.c_NINES)) ⟨fun _ _ _ _ _ => (dx_tup (by exact rfl) (dxs_cons (xnm 2 sc_nines_one_way.nd) (dxs_cons (xnm 8 sc_nines_one_way.nd) dxs_nil))), fun _ _ _ _ _ => (dts_one (dt_cmp (od_eq (hu64 hr)) (dv 8) (dv 6))), fun _ _ _ _ _ => (dv 2)⟩)
    (db_cons (ds_if (DW.dt (dw_or (dt_cmp (od_eq (hu64 hr)) (dv 7) (de_lst da_nil)) (dw_one_or (DW.dt (dw_and (dt_cmp od_lt (de_bin od_add (dv 5) de_int) (de_callB cd_len (by exact rfl) Z.b_len (by exact rfl) (da_cons (dv 1) da_nil))) (dw_one_and (dt_cmp (od_ne (hu64 hr)) (de_ix (hu1 hr) (de_ix (hu1 hr) (dv 1) (de_bin od_add (dv 5) de_int)) de_int) de_int))))))) (db_one (ds_ret (de_str []))) db_nil)
    (db_one (sau 4 sc_nines_one_way.nd (de_ix (hu1 hr) (dv 7) de_int) oi_addD))))))
    (db_cons (sst 9 sc_nines_one_way.nd (de_and (de_cmp od_gt (de_callB cd_len (by exact rfl) Z.b_len (by exact rfl) (da_cons (dv 4) da_nil)) de_int) (de_and (de_cmp (od_eq (hu64 hr)) (de_ix (hu1 hr) (dv 4) de_int) (de_str [42])) (de_and (de_cmp (od_eq (hu64 hr)) (de_ix (hu1 hr) (dv 4) (de_neg de_int)) (de_str [42])) (de_one (de_cmp od_notIn (de_str [42]) (de_sl (dv 4) (do_yes de_int) (do_yes (de_neg de_int)))))))))
    (db_one (ds_ret (de_if (dt_val (dv 9)) (de_sl (dv 4) (do_yes de_int) (do_yes (de_neg de_int))) (de_str [])))))))))
theorem c_nines_one_way (Z : Fx P w K mg base T) : Cal P w K mg base T 6 "nines_one_way" g_nines_one_way := cal_all Z.d_nines_one_way Z.g_nines_one_way sc_nines_one_way (fun _ _ _ _ _ _ us hl => match us, hl with | [_], _ => rfl) (b_nines_one_way Z)
/-! read_nines -/
abbrev st_read_nines : Stmt := top 16
theorem sc_read_nines : FnScope ["stripes", "way", "found"] ["stripes"] (defScope st_read_nines) := ⟨rfl, rfl, rfl, by decide +kernel, rfl, by decide +kernel, by decide +kernel⟩
def m_read_nines : Sv := (sSeq (sForI (iSeq (eTup (aCons (eVar 0) (aCons (eRevX (eVar 0)) aNil)))) (gNm 1) (sSeq (sAsg (eCall g_nines_one_way (aCons (eVar 1) aNil)) (gNm 2)) (sIf (bTest (eBin dNe (eVar 2) (eC (.str [])))) (sRet (eVar 2)) sNil))) (sRaise "StripeError"))
abbrev f_read_nines : Fv := fn 3 m_read_nines
abbrev g_read_nines : Fv := cAll 1 f_read_nines
theorem b_read_nines (Z : Fx P w K mg base T) : Body P w K mg base T ["stripes", "way", "found"] "read_nines" (defScope st_read_nines) 6 (defBody st_read_nines) m_read_nines := fun A outer s H E hr =>
  (db_cons (ds_for owns_cx (by exact rfl) (di_seq (de_tup (da_cons (dv 0) (da_cons (de_revX (dv 0)) da_nil)))) (gnm 1 sc_read_nines.nd) (db_cons (sst 2 sc_read_nines.nd (de_call (c_nines_one_way Z) hr (by decide) (by exact rfl) (takes_cx (CX := L2.CX P w)) (da_cons (dv 1) da_nil)))
    (db_one (ds_if (dt_cmp (od_ne (hu64 hr)) (dv 2) (de_str [])) (db_one (ds_ret (dv 2))) db_nil))))
    (db_one (ds_raise (by exact rfl) (takes_cx (CX := L2.CX P w)) Z.x_StripeError.at (by exact rfl))))
theorem c_read_nines (Z : Fx P w K mg base T) : Cal P w K mg base T 7 "read_nines" g_read_nines := cal_all Z.d_read_nines Z.g_read_nines sc_read_nines (fun _ _ _ _ _ _ us hl => match us, hl with | [_], _ => rfl) (b_read_nines Z)
/-! drawn_stripes -/
abbrev st_drawn_stripes : Stmt := top 19
theorem sc_drawn_stripes : FnScope ["stripes", "wide", "high", "sign", "line", "turn"] ["stripes", "wide", "high"] (defScope st_drawn_stripes) := ⟨rfl, rfl, rfl, by decide +kernel, rfl, by decide +kernel, by decide +kernel⟩
def m_drawn_stripes : Sv := (sSeq (sIf (bOr (bTest (eBin dLt (eCall (bRes bMin) (aCons (eVar 1) (aCons (eVar 2) aNil))) (eC (.int 1)))) (bTest (eGx tAnyR (iSeq (eVar 0)) [3] (gNm 3) bYes (eBin dNotIn (eVar 3) (eC (.str [48, 49])))))) (sRaise "StripeError") sNil) (sSeq (sAsg (eMt "str" (mS1 gRstripC) (eMt "str" (mJoin) (eC (.str [])) (aCons (eLc (iSeq (eVar 0)) [3] (gNm 3) bYes (eBin dMul (eIf (bTest (eBin dEq (eVar 3) (eC (.str [49])))) (eC (.str [35])) (eC (.str [32]))) (eVar 1))) aNil)) (aCons (eC (.str [32])) aNil)) (gNm 4)) (sRet (eGx tTup (iRng1 (aCons (eVar 2) aNil)) [5] (gNm 5) bYes (eVar 4)))))
abbrev f_drawn_stripes : Fv := fn 6 m_drawn_stripes
abbrev g_drawn_stripes : Fv := cAll 3 f_drawn_stripes
theorem b_drawn_stripes (Z : Fx P w K mg base T) : Body P w K mg base T ["stripes", "wide", "high", "sign", "line", "turn"] "drawn_stripes" (defScope st_drawn_stripes) 7 (defBody st_drawn_stripes) m_drawn_stripes := fun A outer s H E hr =>
  (db_cons (ds_if (DW.dt (dw_or (dt_cmp od_lt (de_callB (cd_min (by exact rfl)) (by exact rfl) Z.b_min (by exact rfl) (da_cons (dv 1) (da_cons (dv 2) da_nil))) de_int) (dw_one_or (dt_val (de_any (j := 1) (hr.mono (by decide)) Z.t_drawn_stripes Z.i_drawn_stripes Z.u_drawn_stripes (by exact rfl) (by exact rfl) Z.b_any (gxOk_by (own := [("sign", 3)]) (by rfl)) sc_drawn_stripes.nd (di_seq (dv 0)) ⟨fun _ _ _ _ _ _ _ hj => (xnm 3 sc_drawn_stripes.nd), fun _ _ _ _ _ _ _ hj => dts_nil, fun _ _ _ _ _ _ _ hj => (de_cmp od_notIn (dv 3) (de_str [48, 49]))⟩))))) (db_one (ds_raise (by exact rfl) (takes_cx (CX := L2.CX P w)) Z.x_StripeError.at (by exact rfl))) db_nil)
    (db_cons (sst 4 sc_drawn_stripes.nd (de_m PySem.F.plainAttrs_str PySem.F.slot_str_rstrip PySem.F.type_str_rstrip md_rstripC (de_m PySem.F.plainAttrs_str PySem.F.slot_str_join PySem.F.type_str_join md_join (de_str []) (da_cons (de_lc (by exact rfl) sc_drawn_stripes.nd (di_seq (dv 0)) (blkOk_by (own := [("sign", 3)]) (by rfl)) ⟨fun _ _ _ _ _ => (xnm 3 sc_drawn_stripes.nd), fun _ _ _ _ _ => dts_nil, fun _ _ _ _ _ => (de_bin od_mul (de_if (dt_cmp (od_eq (hu64 hr)) (dv 3) (de_str [49])) (de_str [35]) (de_str [32])) (dv 1))⟩) da_nil)) (da_cons (de_str [32]) da_nil)))
    (db_one (ds_ret (de_tupGx (j := 1) (hr.mono (by decide)) Z.t_drawn_stripes Z.i_drawn_stripes Z.u_drawn_stripes (by exact rfl) (by exact rfl) Z.b_tuple (gxOk_by (own := [("turn", 5)]) (by rfl)) sc_drawn_stripes.nd (di_range1 (by exact rfl) Z.b_range (da_cons (dv 2) da_nil)) ⟨fun _ _ _ _ _ _ _ hj => (xnm 5 sc_drawn_stripes.nd), fun _ _ _ _ _ _ _ hj => dts_nil, fun _ _ _ _ _ _ _ hj => (dv 4)⟩)))))
theorem c_drawn_stripes (Z : Fx P w K mg base T) : Cal P w K mg base T 8 "drawn_stripes" g_drawn_stripes := cal_all Z.d_drawn_stripes Z.g_drawn_stripes sc_drawn_stripes (fun _ _ _ _ _ _ us hl => match us, hl with | [_, _, _], _ => rfl) (b_drawn_stripes Z)
/-! read_drawn -/
abbrev st_read_drawn : Stmt := top 20
theorem sc_read_drawn : FnScope ["line", "wide", "found", "spot", "part"] ["line", "wide"] (defScope st_read_drawn) := ⟨rfl, rfl, rfl, by decide +kernel, rfl, by decide +kernel, by decide +kernel⟩
def m_read_drawn : Sv := (sSeq (sIf (bOr (bTest (eBin dLt (eVar 1) (eC (.int 1)))) (bTest (eBin dNe (eBin dMod (eCall (bRes bLen) (aCons (eVar 0) aNil)) (eVar 1)) (eC (.int 0))))) (sRaise "StripeError") sNil) (sSeq (sAsg (eC (.str [])) (gNm 2)) (sSeq (sForI (iRng3 (aCons (eC (.int 0)) (aCons (eCall (bRes bLen) (aCons (eVar 0) aNil)) (aCons (eVar 1) aNil)))) (gNm 3) (sSeq (sAsg (eSl (eVar 0) (oYes (eVar 3)) (oYes (eBin dAdd (eVar 3) (eVar 1)))) (gNm 4)) (sSeq (sIf (bTest (eBin dNotIn (eVar 4) (eTup (aCons (eBin dMul (eC (.str [35])) (eVar 1)) (aCons (eBin dMul (eC (.str [32])) (eVar 1)) aNil))))) (sRaise "StripeError") sNil) (sAug dIAdd 2 (eIf (bTest (eBin dEq (eIx (eVar 4) (eC (.int 0))) (eC (.str [35])))) (eC (.str [49])) (eC (.str [48]))))))) (sRet (eVar 2)))))
abbrev f_read_drawn : Fv := fn 5 m_read_drawn
abbrev g_read_drawn : Fv := cAll 2 f_read_drawn
theorem b_read_drawn (Z : Fx P w K mg base T) : Body P w K mg base T ["line", "wide", "found", "spot", "part"] "read_drawn" (defScope st_read_drawn) 1 (defBody st_read_drawn) m_read_drawn := fun A outer s H E hr =>
  (db_cons (ds_if (DW.dt (dw_or (dt_cmp od_lt (dv 1) de_int) (dw_one_or (dt_cmp (od_ne (hu64 hr)) (de_bin od_mod (de_callB cd_len (by exact rfl) Z.b_len (by exact rfl) (da_cons (dv 0) da_nil)) (dv 1)) de_int)))) (db_one (ds_raise (by exact rfl) (takes_cx (CX := L2.CX P w)) Z.x_StripeError.at (by exact rfl))) db_nil)
    (db_cons (sst 2 sc_read_drawn.nd (de_str []))
    (db_cons (ds_for owns_cx (by exact rfl) (di_range3 (by exact rfl) Z.b_range (da_cons de_int (da_cons (de_callB cd_len (by exact rfl) Z.b_len (by exact rfl) (da_cons (dv 0) da_nil)) (da_cons (dv 1) da_nil)))) (gnm 3 sc_read_drawn.nd) (db_cons (sst 4 sc_read_drawn.nd (de_sl (dv 0) (do_yes (dv 3)) (do_yes (de_bin od_add (dv 3) (dv 1)))))
    (db_cons (ds_if (dt_cmp od_notIn (dv 4) (de_tup (da_cons (de_bin od_mul (de_str [35]) (dv 1)) (da_cons (de_bin od_mul (de_str [32]) (dv 1)) da_nil)))) (db_one (ds_raise (by exact rfl) (takes_cx (CX := L2.CX P w)) Z.x_StripeError.at (by exact rfl))) db_nil)
    (db_one (sau 2 sc_read_drawn.nd (de_if (dt_cmp (od_eq (hu64 hr)) (de_ix (hu1 hr) (dv 4) de_int) (de_str [35])) (de_str [49]) (de_str [48])) oi_addD)))))
    (db_one (ds_ret (dv 2))))))
theorem c_read_drawn (Z : Fx P w K mg base T) : Cal P w K mg base T 2 "read_drawn" g_read_drawn := cal_all Z.d_read_drawn Z.g_read_drawn sc_read_drawn (fun _ _ _ _ _ _ us hl => match us, hl with | [_, _], _ => rfl) (b_read_drawn Z)
/-! dark_share -/
abbrev st_dark_share : Stmt := top 21
theorem sc_dark_share : FnScope ["stripes"] ["stripes"] (defScope st_dark_share) := ⟨rfl, rfl, rfl, by decide +kernel, rfl, by decide +kernel, by decide +kernel⟩
def m_dark_share : Sv := (sSeq (sIf (bTest (eBin dEq (eVar 0) (eC (.str [])))) (sRaise "StripeError") sNil) (sRet (eBin dDiv (eBin dMul (eC (.int 1000)) (eMt "str" (mS1 gCount) (eVar 0) (aCons (eC (.str [49])) aNil))) (eCall (bRes bLen) (aCons (eVar 0) aNil)))))
abbrev f_dark_share : Fv := fn 1 m_dark_share
abbrev g_dark_share : Fv := cAll 1 f_dark_share
theorem b_dark_share (Z : Fx P w K mg base T) : Body P w K mg base T ["stripes"] "dark_share" (defScope st_dark_share) 1 (defBody st_dark_share) m_dark_share := fun A outer s H E hr =>
  (db_cons (ds_if (dt_cmp (od_eq (hu64 hr)) (dv 0) (de_str [])) (db_one (ds_raise (by exact rfl) (takes_cx (CX := L2.CX P w)) Z.x_StripeError.at (by exact rfl))) db_nil)
    (db_one (ds_ret (de_bin od_div (de_bin od_mul de_int (de_m PySem.F.plainAttrs_str PySem.F.slot_str_count PySem.F.type_str_count md_count (dv 0) (da_cons (de_str [49]) da_nil))) (de_callB cd_len (by exact rfl) Z.b_len (by exact rfl) (da_cons (dv 0) da_nil))))))
theorem c_dark_share (Z : Fx P w K mg base T) : Cal P w K mg base T 2 "dark_share" g_dark_share := cal_all Z.d_dark_share Z.g_dark_share sc_dark_share (fun _ _ _ _ _ _ us hl => match us, hl with | [_], _ => rfl) (b_dark_share Z)
/-! with_spot -/
abbrev st_with_spot : Stmt := top 22
theorem sc_with_spot : FnScope ["stripes", "place"] ["stripes", "place"] (defScope st_with_spot) := ⟨rfl, rfl, rfl, by decide +kernel, rfl, by decide +kernel, by decide +kernel⟩
def m_with_spot : Sv := (sSeq (sIf (bNot (bTest (eChain dLe dLt (eC (.int 0)) (eVar 1) (eCall (bRes bLen) (aCons (eVar 0) aNil))))) (sRaise "StripeError") sNil) (sRet (eBin dAdd (eBin dAdd (eSl (eVar 0) oNo (oYes (eVar 1))) (eIf (bTest (eBin dEq (eIx (eVar 0) (eVar 1)) (eC (.str [49])))) (eC (.str [48])) (eC (.str [49])))) (eSl (eVar 0) (oYes (eBin dAdd (eVar 1) (eC (.int 1)))) oNo))))
abbrev f_with_spot : Fv := fn 2 m_with_spot
abbrev g_with_spot : Fv := cAll 2 f_with_spot
theorem b_with_spot (Z : Fx P w K mg base T) : Body P w K mg base T ["stripes", "place"] "with_spot" (defScope st_with_spot) 1 (defBody st_with_spot) m_with_spot := fun A outer s H E hr =>
  (db_cons (ds_if (dt_not (dt_chain od_le od_lt de_int (dv 1) (de_callB cd_len (by exact rfl) Z.b_len (by exact rfl) (da_cons (dv 0) da_nil)))) (db_one (ds_raise (by exact rfl) (takes_cx (CX := L2.CX P w)) Z.x_StripeError.at (by exact rfl))) db_nil)
    (db_one (ds_ret (de_bin od_add (de_bin od_add (de_sl (dv 0) do_no (do_yes (dv 1))) (de_if (dt_cmp (od_eq (hu64 hr)) (de_ix (hu1 hr) (dv 0) (dv 1)) (de_str [49])) (de_str [48]) (de_str [49]))) (de_sl (dv 0) (do_yes (de_bin od_add (dv 1) de_int)) do_no)))))
theorem c_with_spot (Z : Fx P w K mg base T) : Cal P w K mg base T 2 "with_spot" g_with_spot := cal_all Z.d_with_spot Z.g_with_spot sc_with_spot (fun _ _ _ _ _ _ us hl => match us, hl with | [_, _], _ => rfl) (b_with_spot Z)
/-! mended_good -/
abbrev st_mended_good : Stmt := top 23
theorem sc_mended_good : FnScope ["stripes", "found", "place", "trial", "way", "number"] ["stripes"] (defScope st_mended_good) := ⟨rfl, rfl, rfl, by decide +kernel, rfl, by decide +kernel, by decide +kernel⟩
def m_mended_good : Sv := (sSeq (sIf (bOr (bTest (eBin dNe (eCall (bRes bLen) (aCons (eVar 0) aNil)) (eC (.int 95)))) (bOr (bTest (eBin dNe (eCall g_read_one_way (aCons (eVar 0) aNil)) (eC (.str [])))) (bTest (eBin dNe (eCall g_read_one_way (aCons (eRevX (eVar 0)) aNil)) (eC (.str [])))))) (sRaise "StripeError") sNil) (sSeq (sAsg eNewD (gNm 1)) (sSeq (sForI (iRng1 (aCons (eC (.int 95)) aNil)) (gNm 2) (sSeq (sAsg (eCall g_with_spot (aCons (eVar 0) (aCons (eVar 2) aNil))) (gNm 3)) (sForI (iSeq (eTup (aCons (eVar 3) (aCons (eRevX (eVar 3)) aNil)))) (gNm 4) (sSeq (sAsg (eCall g_read_one_way (aCons (eVar 4) aNil)) (gNm 5)) (sExpr (eMt "dict" (mUpdate) (eVar 1) (aCons (eIf (bTest (eBin dNe (eVar 5) (eC (.str [])))) (eDic [((eVar 5), (eC (.bl true)))]) (eC (.dic []))) aNil))))))) (sRet (eCall (bRes bTuple) (aCons (eCall (bRes bSortedT) (aCons (eVar 1) aNil)) aNil))))))
abbrev f_mended_good : Fv := fn 6 m_mended_good
abbrev g_mended_good : Fv := cAll 1 f_mended_good
theorem b_mended_good (Z : Fx P w K mg base T) : Body P w K mg base T ["stripes", "found", "place", "trial", "way", "number"] "mended_good" (defScope st_mended_good) 7 (defBody st_mended_good) m_mended_good := fun A outer s H E hr =>
  (db_cons (ds_if (DW.dt (dw_or (dt_cmp (od_ne (hu64 hr)) (de_callB cd_len (by exact rfl) Z.b_len (by exact rfl) (da_cons (dv 0) da_nil)) de_int) (dw_or (dt_cmp (od_ne (hu64 hr)) (de_call (c_read_one_way Z) hr (by decide) (by exact rfl) (takes_cx (CX := L2.CX P w)) (da_cons (dv 0) da_nil)) (de_str [])) (dw_one_or (dt_cmp (od_ne (hu64 hr)) (de_call (c_read_one_way Z) hr (by decide) (by exact rfl) (takes_cx (CX := L2.CX P w)) (da_cons (de_revX (dv 0)) da_nil)) (de_str [])))))) (db_one (ds_raise (by exact rfl) (takes_cx (CX := L2.CX P w)) Z.x_StripeError.at (by exact rfl))) db_nil)
    (db_cons (sst 1 sc_mended_good.nd de_newD)
    (db_cons (ds_for owns_cx (by exact rfl) (di_range1 (by exact rfl) Z.b_range (da_cons de_int da_nil)) (gnm 2 sc_mended_good.nd) (db_cons (sst 3 sc_mended_good.nd (de_call (c_with_spot Z) hr (by decide) (by exact rfl) (takes_cx (CX := L2.CX P w)) (da_cons (dv 0) (da_cons (dv 2) da_nil))))
    (db_one (ds_for owns_cx (by exact rfl) (di_seq (de_tup (da_cons (dv 3) (da_cons (de_revX (dv 3)) da_nil)))) (gnm 4 sc_mended_good.nd) (db_cons (sst 5 sc_mended_good.nd (de_call (c_read_one_way Z) hr (by decide) (by exact rfl) (takes_cx (CX := L2.CX P w)) (da_cons (dv 4) da_nil)))
    (db_one (ds_expr (de_m PySem.F.plainAttrs_dict PySem.F.slot_dict_update PySem.F.type_dict_update md_update (dv 1) (da_cons (de_if (dt_cmp (od_ne (hu64 hr)) (dv 5) (de_str [])) (de_dic (dps_cons (dv 5) de_bl dps_nil)) de_dic0) da_nil)))))))))
    (db_one (ds_ret (de_callT cd_tuple (by exact rfl) Z.b_tuple (by exact rfl) (da_cons (de_callB (cd_sortedT (by exact rfl)) (by exact rfl) Z.b_sorted (by exact rfl) (da_cons (dv 1) da_nil)) da_nil)))))))
theorem c_mended_good (Z : Fx P w K mg base T) : Cal P w K mg base T 8 "mended_good" g_mended_good := cal_all Z.d_mended_good Z.g_mended_good sc_mended_good (fun _ _ _ _ _ _ us hl => match us, hl with | [_], _ => rfl) (b_mended_good Z)
/-! _law_dice -/
abbrev st_x_law_dice : Stmt := top 25
theorem sc_x_law_dice : FnScope ["cell"] ["cell"] (defScope st_x_law_dice) := ⟨rfl, rfl, rfl, by decide +kernel, rfl, by decide +kernel, by decide +kernel⟩
def m_x_law_dice : Sv := (sSeq (sIf (bTest (eChain dLt dLt (eBin dSub (eC (.int 0)) (eC (.int 10))) (eVar 0) (eC (.int 10)))) (sRet (eNew (aCons (eCall (bRes bAbs) (aCons (eVar 0) aNil)) (aCons (eC (.int 0)) (aCons (eC (.int 2)) aNil))))) sNil) (sRet (eNew (aCons (eVar 0) (aCons (eBin dAdd (eC (.int 1)) (eBin dMod (eCall (bRes bInt) (aCons (eVar 0) aNil)) (eC (.int 1009)))) (aCons (eCall (bRes bInt) (aCons (eBin dGe (eVar 0) (eBin dPow (eC (.int 10)) (eC (.int 18)))) aNil)) aNil))))))
abbrev f_x_law_dice : Fv := fn 1 m_x_law_dice
abbrev g_x_law_dice : Fv := cAll 1 f_x_law_dice
theorem b_x_law_dice (Z : Fx P w K mg base T) : Body P w K mg base T ["cell"] "_law_dice" (defScope st_x_law_dice) 1 (defBody st_x_law_dice) m_x_law_dice := fun A outer s H E hr =>
  (db_cons (ds_if (dt_chain od_lt od_lt (de_bin od_sub de_int de_int) (dv 0) de_int) (db_one (ds_ret (de_new (da_cons (de_callB cd_abs (by exact rfl) Z.b_abs (by exact rfl) (da_cons (dv 0) da_nil)) (da_cons de_int (da_cons de_int da_nil)))))) db_nil)
    (db_one (ds_ret (de_new (da_cons (dv 0) (da_cons (de_bin od_add de_int (de_bin od_mod (de_callT cd_int (by exact rfl) Z.b_int (by exact rfl) (da_cons (dv 0) da_nil)) de_int)) (da_cons (de_callT cd_int (by exact rfl) Z.b_int (by exact rfl) (da_cons (de_cmp od_ge (dv 0) (de_bin od_pow de_int de_int)) da_nil)) da_nil)))))))
theorem c_x_law_dice (Z : Fx P w K mg base T) : Cal P w K mg base T 2 "_law_dice" g_x_law_dice := cal_all Z.d_x_law_dice Z.g_x_law_dice sc_x_law_dice (fun _ _ _ _ _ _ us hl => match us, hl with | [_], _ => rfl) (b_x_law_dice Z)
/-! _law_roll -/
abbrev st_x_law_roll : Stmt := top 26
theorem sc_x_law_roll : FnScope ["dice", "many", "found"] ["dice", "many"] (defScope st_x_law_roll) := ⟨rfl, rfl, rfl, by decide +kernel, rfl, by decide +kernel, by decide +kernel⟩
def m_x_law_roll (r : Av → Ev) : Sv := (sSeq (sIf (bOr (bTest (eBin dEq (eIx (eVar 0) (eC (.int 2))) (eC (.int 2)))) (bAnd (bTest (eBin dEq (eIx (eVar 0) (eC (.int 2))) (eC (.int 1)))) (bTest (eBin dGt (eIx (eVar 0) (eC (.int 0))) (eC (.int 0)))))) (sSeq (sAsg (eBin dMod (eCall (bRes bInt) (aCons (eIx (eVar 0) (eC (.int 0))) aNil)) (eVar 1)) (gNm 2)) (sSeq (sAsg (eBin dDiv (eIx (eVar 0) (eC (.int 0))) (eVar 1)) (gSubH (eVar 0) (eC (.int 0)))) (sRet (eVar 2)))) sNil) (sSeq (sAsg (eC (.int 0)) (gSubH (eVar 0) (eC (.int 2)))) (sSeq (sIf (bTest (eBin dGt (eVar 1) (eC (.int 100000000)))) (sRet (eBin dMod (eCall (bRes bInt) (aCons (eBin dAdd (eBin dMul (r (aCons (eVar 0) (aCons (eBin dAdd (eBin dDiv (eVar 1) (eC (.int 100000000))) (eC (.int 1))) aNil))) (eC (.int 100000000))) (r (aCons (eVar 0) (aCons (eC (.int 100000000)) aNil)))) aNil)) (eVar 1))) sNil) (sSeq (sAsg (eBin dMod (eCall (bRes bInt) (aCons (eBin dAdd (eBin dAdd (eBin dMul (eIx (eVar 0) (eC (.int 0))) (eC (.int 48271))) (eBin dMul (eIx (eVar 0) (eC (.int 1))) (eC (.int 69621)))) (eC (.int 11))) aNil)) (eC (.int 2147483647))) (gSubH (eVar 0) (eC (.int 0)))) (sSeq (sAsg (eBin dAdd (eIx (eVar 0) (eC (.int 1))) (eC (.int 1))) (gSubH (eVar 0) (eC (.int 1)))) (sRet (eBin dMod (eCall (bRes bInt) (aCons (eBin dDiv (eIx (eVar 0) (eC (.int 0))) (eC (.int 7))) aNil)) (eVar 1))))))))
abbrev e_x_law_roll : Av → Ev := fun _ _ _ => .err
theorem b0_x_law_roll (Z : Fx P w K mg base T) : Body P w K mg base T ["dice", "many", "found"] "_law_roll" (defScope st_x_law_roll) 1 (defBody st_x_law_roll) (m_x_law_roll e_x_law_roll) := fun A outer s H E hr =>
  (db_cons (ds_if (DW.dt (dw_or (dt_cmp (od_eq (hu64 hr)) (de_ix (hu1 hr) (dv 0) de_int) de_int) (dw_one_or (DW.dt (dw_and (dt_cmp (od_eq (hu64 hr)) (de_ix (hu1 hr) (dv 0) de_int) de_int) (dw_one_and (dt_cmp od_gt (de_ix (hu1 hr) (dv 0) de_int) de_int))))))) (db_cons (sst 2 sc_x_law_roll.nd (de_bin od_mod (de_callT cd_int (by exact rfl) Z.b_int (by exact rfl) (da_cons (de_ix (hu1 hr) (dv 0) de_int) da_nil)) (dv 1)))
    (db_cons (ds_asg (de_bin od_div (de_ix (hu1 hr) (dv 0) de_int) (dv 1)) (dg_sub (hu1 hr) (dv 0) de_int))
    (db_one (ds_ret (dv 2))))) db_nil)
    (db_cons (ds_asg de_int (dg_sub (hu1 hr) (dv 0) de_int))
    (db_cons (ds_if (dt_cmp od_gt (dv 1) de_int) (db_one (ds_ret (de_bin od_mod (de_callT cd_int (by exact rfl) Z.b_int (by exact rfl) (da_cons (de_bin od_add (de_bin od_mul de_err de_int) de_err) da_nil)) (dv 1)))) db_nil)
    (db_cons (ds_asg (de_bin od_mod (de_callT cd_int (by exact rfl) Z.b_int (by exact rfl) (da_cons (de_bin od_add (de_bin od_add (de_bin od_mul (de_ix (hu1 hr) (dv 0) de_int) de_int) (de_bin od_mul (de_ix (hu1 hr) (dv 0) de_int) de_int)) de_int) da_nil)) de_int) (dg_sub (hu1 hr) (dv 0) de_int))
    (db_cons (ds_asg (de_bin od_add (de_ix (hu1 hr) (dv 0) de_int) de_int) (dg_sub (hu1 hr) (dv 0) de_int))
    (db_one (ds_ret (de_bin od_mod (de_callT cd_int (by exact rfl) Z.b_int (by exact rfl) (da_cons (de_bin od_div (de_ix (hu1 hr) (dv 0) de_int) de_int) da_nil)) (dv 1)))))))))
theorem b1_x_law_roll (Z : Fx P w K mg base T) {g : Fv} {i : Nat} (hc : Cal P w K mg base T i "_law_roll" g) : Body P w K mg base T ["dice", "many", "found"] "_law_roll" (defScope st_x_law_roll) i (defBody st_x_law_roll) (m_x_law_roll (eCall g)) := fun A outer s H E hr =>
  (db_cons (ds_if (DW.dt (dw_or (dt_cmp (od_eq (hu64 hr)) (de_ix (hu1 hr) (dv 0) de_int) de_int) (dw_one_or (DW.dt (dw_and (dt_cmp (od_eq (hu64 hr)) (de_ix (hu1 hr) (dv 0) de_int) de_int) (dw_one_and (dt_cmp od_gt (de_ix (hu1 hr) (dv 0) de_int) de_int))))))) (db_cons (sst 2 sc_x_law_roll.nd (de_bin od_mod (de_callT cd_int (by exact rfl) Z.b_int (by exact rfl) (da_cons (de_ix (hu1 hr) (dv 0) de_int) da_nil)) (dv 1)))
    (db_cons (ds_asg (de_bin od_div (de_ix (hu1 hr) (dv 0) de_int) (dv 1)) (dg_sub (hu1 hr) (dv 0) de_int))
    (db_one (ds_ret (dv 2))))) db_nil)
    (db_cons (ds_asg de_int (dg_sub (hu1 hr) (dv 0) de_int))
    (db_cons (ds_if (dt_cmp od_gt (dv 1) de_int) (db_one (ds_ret (de_bin od_mod (de_callT cd_int (by exact rfl) Z.b_int (by exact rfl) (da_cons (de_bin od_add (de_bin od_mul (de_call hc hr (by exact Nat.le_refl _) (by exact rfl) (takes_cx (CX := L2.CX P w)) (da_cons (dv 0) (da_cons (de_bin od_add (de_bin od_div (dv 1) de_int) de_int) da_nil))) de_int) (de_call hc hr (by exact Nat.le_refl _) (by exact rfl) (takes_cx (CX := L2.CX P w)) (da_cons (dv 0) (da_cons de_int da_nil)))) da_nil)) (dv 1)))) db_nil)
    (db_cons (ds_asg (de_bin od_mod (de_callT cd_int (by exact rfl) Z.b_int (by exact rfl) (da_cons (de_bin od_add (de_bin od_add (de_bin od_mul (de_ix (hu1 hr) (dv 0) de_int) de_int) (de_bin od_mul (de_ix (hu1 hr) (dv 0) de_int) de_int)) de_int) da_nil)) de_int) (dg_sub (hu1 hr) (dv 0) de_int))
    (db_cons (ds_asg (de_bin od_add (de_ix (hu1 hr) (dv 0) de_int) de_int) (dg_sub (hu1 hr) (dv 0) de_int))
    (db_one (ds_ret (de_bin od_mod (de_callT cd_int (by exact rfl) Z.b_int (by exact rfl) (da_cons (de_bin od_div (de_ix (hu1 hr) (dv 0) de_int) de_int) da_nil)) (dv 1)))))))))
def gr_x_law_roll : Nat → Fv
  | 0 => cAll 2 (fn 3 (m_x_law_roll e_x_law_roll))
  | n + 1 => cAll 2 (fn 3 (m_x_law_roll (eCall (gr_x_law_roll n))))
theorem cr_x_law_roll (Z : Fx P w K mg base T) : ∀ i : Nat, Cal P w K mg base T (2 + i) "_law_roll" (gr_x_law_roll i)
  | 0 => cal_all Z.d_x_law_roll Z.g_x_law_roll sc_x_law_roll (fun _ _ _ _ _ _ us hl => match us, hl with | [_, _], _ => rfl) (b0_x_law_roll Z)
  | i + 1 => cal_all Z.d_x_law_roll Z.g_x_law_roll sc_x_law_roll (fun _ _ _ _ _ _ us hl => match us, hl with | [_, _], _ => rfl) (b1_x_law_roll Z (cr_x_law_roll Z i))
abbrev g_x_law_roll : Fv := gr_x_law_roll 4
theorem c_x_law_roll (Z : Fx P w K mg base T) : Cal P w K mg base T 6 "_law_roll" g_x_law_roll := cr_x_law_roll Z 4
/-! _law_rounds -/
abbrev st_x_law_rounds : Stmt := top 27
theorem sc_x_law_rounds : FnScope ["script", "most", "cells", "cell"] ["script", "most"] (defScope st_x_law_rounds) := ⟨rfl, rfl, rfl, by decide +kernel, rfl, by decide +kernel, by decide +kernel⟩
def m_x_law_rounds : Sv := (sSeq (sAsg (eSl (eVar 0) oNo (oYes (eVar 1))) (gNm 2)) (sSeq (sIf (bTest (eBin dEq (eVar 2) (eLst aNil))) (sAsg (eLst (aCons (eC (.int 0)) aNil)) (gNm 2)) sNil) (sRet (eLc (iSeq (eVar 2)) [3] (gNm 3) bYes (eCall g_x_law_dice (aCons (eVar 3) aNil))))))
abbrev f_x_law_rounds : Fv := fn 4 m_x_law_rounds
abbrev g_x_law_rounds : Fv := cAll 2 f_x_law_rounds
theorem b_x_law_rounds (Z : Fx P w K mg base T) : Body P w K mg base T ["script", "most", "cells", "cell"] "_law_rounds" (defScope st_x_law_rounds) 2 (defBody st_x_law_rounds) m_x_law_rounds := fun A outer s H E hr =>
  (db_cons (sst 2 sc_x_law_rounds.nd (de_sl (dv 0) do_no (do_yes (dv 1))))
    (db_cons (ds_if (dt_cmp (od_eq (hu64 hr)) (dv 2) (de_lst da_nil)) (db_one (sst 2 sc_x_law_rounds.nd (de_lst (da_cons de_int da_nil)))) db_nil)
    (db_one (ds_ret (de_lc (by exact rfl) sc_x_law_rounds.nd (di_seq (dv 2)) (blkOk_by (own := [("cell", 3)]) (by rfl)) ⟨fun _ _ _ _ _ => (xnm 3 sc_x_law_rounds.nd), fun _ _ _ _ _ => dts_nil, fun _ _ _ _ _ => (de_call (c_x_law_dice Z) hr (by decide) (by exact rfl) LamX.takes0 (da_cons (dv 3) da_nil))⟩)))))
theorem c_x_law_rounds (Z : Fx P w K mg base T) : Cal P w K mg base T 3 "_law_rounds" g_x_law_rounds := cal_all Z.d_x_law_rounds Z.g_x_law_rounds sc_x_law_rounds (fun _ _ _ _ _ _ us hl => match us, hl with | [_, _], _ => rfl) (b_x_law_rounds Z)
/-! _law_good -/
abbrev st_x_law_good : Stmt := top 29
theorem sc_x_law_good : FnScope ["text", "found", "k", "sign", "left", "right", "one", "kind"] ["text"] (defScope st_x_law_good) := ⟨rfl, rfl, rfl, by decide +kernel, rfl, by decide +kernel, by decide +kernel⟩
def m_x_law_good : Sv := (sSeq (sAsg (eC (.str [49, 48, 49])) (gNm 1)) (sSeq (sForI (iEnumS (aCons (eSl (eVar 0) (oYes (eC (.int 1))) oNo) aNil)) (gTp 2 (gCns (gNm 2) (gCns (gNm 3) gNils))) (sSeq (sAsg (eIx (eC con_LEFT) (eCall (bRes bInt) (aCons (eVar 3) aNil))) (gNm 4)) (sSeq (sAsg (eMt "str" (mJoin) (eC (.str [])) (aCons (eLc (iSeq (eVar 4)) [6] (gNm 6) bYes (eIx (eC (.str [49, 48])) (eCall (bRes bInt) (aCons (eVar 6) aNil)))) aNil)) (gNm 5)) (sSeq (sAsg (eIf (bTest (eBin dLt (eVar 2) (eC (.int 6)))) (eIx (eIx (eC con_HEADS) (eCall (bRes bInt) (aCons (eIx (eVar 0) (eC (.int 0))) aNil))) (eVar 2)) (eC (.str [82]))) (gNm 7)) (sAsg (eBin dAdd (eBin dAdd (eVar 1) (eBin dMul (eC (.str [48, 49, 48, 49, 48])) (eCall (bRes bInt) (aCons (eBin dEq (eVar 2) (eC (.int 6))) aNil)))) (eIx (eDic [((eC (.str [76])), (eVar 4)), ((eC (.str [82])), (eVar 5)), ((eC (.str [71])), (eRevX (eVar 5)))]) (eVar 7))) (gNm 1)))))) (sRet (eBin dAdd (eVar 1) (eC (.str [49, 48, 49]))))))
abbrev f_x_law_good : Fv := fn 8 m_x_law_good
abbrev g_x_law_good : Fv := cAll 1 f_x_law_good
theorem b_x_law_good (Z : Fx P w K mg base T) : Body P w K mg base T ["text", "found", "k", "sign", "left", "right", "one", "kind"] "_law_good" (defScope st_x_law_good) 1 (defBody st_x_law_good) m_x_law_good := fun A outer s H E hr =>
  (db_cons (sst 1 sc_x_law_good.nd (de_str [49, 48, 49]))
    (db_cons (ds_for owns_cx (by exact rfl) (di_enumS (by exact rfl) Z.b_enumerate (da_cons (de_sl (dv 0) (do_yes de_int) do_no) da_nil)) (dg_tup (by exact rfl) (dgs_cons (gnm 2 sc_x_law_good.nd) (dgs_cons (gnm 3 sc_x_law_good.nd) dgs_nil))) (db_cons (sst 4 sc_x_law_good.nd (de_ix (hu1 hr) (de_gcon (by exact rfl) (by exact TCon.g Z.c_LEFT)) (de_callT cd_int (by exact rfl) Z.b_int (by exact rfl) (da_cons (dv 3) da_nil))))
    (db_cons (sst 5 sc_x_law_good.nd (de_m PySem.F.plainAttrs_str PySem.F.slot_str_join PySem.F.type_str_join md_join (de_str []) (da_cons (de_lc (by exact rfl) sc_x_law_good.nd (di_seq (dv 4)) (blkOk_by (own := [("one", 6)]) (by rfl)) ⟨fun _ _ _ _ _ => (xnm 6 sc_x_law_good.nd), fun _ _ _ _ _ => dts_nil, fun _ _ _ _ _ => (de_ix (hu1 hr) (de_str [49, 48]) (de_callT cd_int (by exact rfl) Z.b_int (by exact rfl) (da_cons (dv 6) da_nil)))⟩) da_nil)))
    (db_cons (sst 7 sc_x_law_good.nd (de_if (dt_cmp od_lt (dv 2) de_int) (de_ix (hu1 hr) (de_ix (hu1 hr) (de_gcon (by exact rfl) (by exact TCon.g Z.c_HEADS)) (de_callT cd_int (by exact rfl) Z.b_int (by exact rfl) (da_cons (de_ix (hu1 hr) (dv 0) de_int) da_nil))) (dv 2)) (de_str [82])))
    (db_one (sst 1 sc_x_law_good.nd (de_bin od_add (de_bin od_add (dv 1) (de_bin od_mul (de_str [48, 49, 48, 49, 48]) (de_callT cd_int (by exact rfl) Z.b_int (by exact rfl) (da_cons (de_cmp (od_eq (hu64 hr)) (dv 2) de_int) da_nil)))) (de_ix (hu1 hr) (de_dic (dps_cons (de_str [76]) (dv 4) (dps_cons (de_str [82]) (dv 5) (dps_cons (de_str [71]) (de_revX (dv 5)) dps_nil)))) (dv 7)))))))))
    (db_one (ds_ret (de_bin od_add (dv 1) (de_str [49, 48, 49]))))))
theorem c_x_law_good (Z : Fx P w K mg base T) : Cal P w K mg base T 2 "_law_good" g_x_law_good := cal_all Z.d_x_law_good Z.g_x_law_good sc_x_law_good (fun _ _ _ _ _ _ us hl => match us, hl with | [_], _ => rfl) (b_x_law_good Z)
/-! _law_nines -/
abbrev st_x_law_nines : Stmt := top 30
theorem sc_x_law_nines : FnScope ["text", "parts", "sign", "k", "wide"] ["text"] (defScope st_x_law_nines) := ⟨rfl, rfl, rfl, by decide +kernel, rfl, by decide +kernel, by decide +kernel⟩
def m_x_law_nines : Sv := (sSeq (sAsg (eLst aNil) (gNm 1)) (sSeq (sForI (iSeq (eBin dAdd (eBin dAdd (eC (.str [42])) (eVar 0)) (eC (.str [42])))) (gNm 2) (sAsg (eBin dAdd (eVar 1) (eLst (aCons (eMt "str" (mJoin) (eC (.str [])) (aCons (eLc (iEnumS (aCons (eKix tab_NINES (eVar 2)) aNil)) [3, 4] (gTp 2 (gCns (gNm 3) (gCns (gNm 4) gNils))) bYes (eBin dMul (eIx (eC (.str [49, 48])) (eBin dMod (eVar 3) (eC (.int 2)))) (eBin dAdd (eC (.int 1)) (eCall (bRes bInt) (aCons (eVar 4) aNil))))) aNil)) aNil))) (gNm 1))) (sRet (eMt "str" (mJoin) (eC (.str [48])) (aCons (eVar 1) aNil)))))
abbrev f_x_law_nines : Fv := fn 5 m_x_law_nines
abbrev g_x_law_nines : Fv := cAll 1 f_x_law_nines
theorem b_x_law_nines (Z : Fx P w K mg base T) : Body P w K mg base T ["text", "parts", "sign", "k", "wide"] "_law_nines" (defScope st_x_law_nines) 1 (defBody st_x_law_nines) m_x_law_nines := fun A outer s H E hr =>
  (db_cons (sst 1 sc_x_law_nines.nd (de_lst da_nil))
    (db_cons (ds_for owns_cx (by exact rfl) (di_seq (de_bin od_add (de_bin od_add (de_str [42]) (dv 0)) (de_str [42]))) (gnm 2 sc_x_law_nines.nd) (db_one (sst 1 sc_x_law_nines.nd (de_bin od_add (dv 1) (de_lst (da_cons (de_m PySem.F.plainAttrs_str PySem.F.slot_str_join PySem.F.type_str_join md_join (de_str []) (da_cons (de_lc (by exact rfl) sc_x_law_nines.nd (di_enumS (by exact rfl) Z.b_enumerate (da_cons (de_kix (by exact rfl) (by exact GTab2.g Z.c_NINES) (dv 2)) da_nil)) (blkOk_by (own := [("k", 3), ("wide", 4)]) (by rfl)) ⟨fun _ _ _ _ _ => (dx_tup (by exact rfl) (dxs_cons (xnm 3 sc_x_law_nines.nd) (dxs_cons (xnm 4 sc_x_law_nines.nd) dxs_nil))), fun _ _ _ _ _ => dts_nil, fun _ _ _ _ _ => (de_bin od_mul (de_ix (hu1 hr) (de_str [49, 48]) (de_bin od_mod (dv 3) de_int)) (de_bin od_add de_int (de_callT cd_int (by exact rfl) Z.b_int (by exact rfl) (da_cons (dv 4) da_nil))))⟩) da_nil)) da_nil))))))
    (db_one (ds_ret (de_m PySem.F.plainAttrs_str PySem.F.slot_str_join PySem.F.type_str_join md_join (de_str [48]) (da_cons (dv 1) da_nil))))))
theorem c_x_law_nines (Z : Fx P w K mg base T) : Cal P w K mg base T 2 "_law_nines" g_x_law_nines := cal_all Z.d_x_law_nines Z.g_x_law_nines sc_x_law_nines (fun _ _ _ _ _ _ us hl => match us, hl with | [_], _ => rfl) (b_x_law_nines Z)
/-! _law_plain -/
abbrev st_x_law_plain : Stmt := top 31
theorem sc_x_law_plain : FnScope ["stripes", "bad", "f", "told"] [] (defScope st_x_law_plain) := ⟨rfl, rfl, rfl, by decide +kernel, rfl, by decide +kernel, by decide +kernel⟩
def m_x_law_plain : Sv := (sSeq (sAsg (eCall g_good_stripes (aCons (eC (.str [52, 48, 48, 54, 51, 56, 49, 51, 51, 51, 57, 51, 49])) aNil)) (gNm 0)) (sSeq (sForget 1) (sSeq (sIf (bOr (bTest (eBin dNe (eBad 2 toldCat toldRet [83, 116, 114, 105, 112, 101, 69, 114, 114, 111, 114] ((((([(eCall g_figure_stripes (aCons (eC (.str [49, 50])) (aCons (eC (.str [76])) aNil))), (eCall g_figure_stripes (aCons (eC (.str [97])) (aCons (eC (.str [76])) aNil))), (eCall g_figure_stripes (aCons (eC (.str [49])) (aCons (eC (.str [88])) aNil))), (eCall g_good_stripes (aCons (eC (.str [49])) aNil))] ++ [(eCall g_good_stripes (aCons (eC (.str [52, 48, 48, 54, 51, 56, 49, 51, 51, 51, 57, 51, 50])) aNil)), (eCall g_good_stripes (aCons (eC (.str [52, 48, 48, 54, 51, 56, 49, 51, 51, 51, 57, 51, 97])) aNil)), (eCall g_read_good (aCons (eC (.str [])) aNil)), (eCall g_read_good (aCons (eBin dMul (eC (.str [49])) (eC (.int 95))) aNil))]) ++ [(eCall g_nine_stripes (aCons (eC (.str [])) aNil)), (eCall g_nine_stripes (aCons (eC (.str [42])) aNil)), (eCall g_nine_stripes (aCons (eC (.str [97])) aNil)), (eCall g_nine_stripes (aCons (eBin dMul (eC (.str [49])) (eC (.int 41))) aNil)), (eCall g_read_nines (aCons (eC (.str [])) aNil))]) ++ [(eCall g_read_nines (aCons (eC (.str [49, 48, 49])) aNil)), (eCall g_drawn_stripes (aCons (eC (.str [49])) (aCons (eC (.int 0)) (aCons (eC (.int 1)) aNil)))), (eCall g_drawn_stripes (aCons (eC (.str [49])) (aCons (eC (.int 1)) (aCons (eC (.int 0)) aNil)))), (eCall g_drawn_stripes (aCons (eC (.str [50])) (aCons (eC (.int 1)) (aCons (eC (.int 1)) aNil))))]) ++ [(eCall g_read_drawn (aCons (eC (.str [35])) (aCons (eC (.int 0)) aNil))), (eCall g_read_drawn (aCons (eC (.str [35, 35, 35])) (aCons (eC (.int 2)) aNil))), (eCall g_read_drawn (aCons (eC (.str [35, 32])) (aCons (eC (.int 2)) aNil))), (eCall g_dark_share (aCons (eC (.str [])) aNil)), (eCall g_with_spot (aCons (eC (.str [49])) (aCons (eC (.int 1)) aNil)))]) ++ [(eCall g_with_spot (aCons (eC (.str [49])) (aCons (eUn dNeg (eC (.int 1))) aNil))), (eCall g_mended_good (aCons (eVar 0) aNil)), (eCall g_mended_good (aCons (eC (.str [49])) aNil))])) (eLst aNil))) (bTest (eBin dNe (eTup (aCons (eCall (bRes bLen) (aCons (eC con_LEFT) aNil)) (aCons (eCall (bRes bLen) (aCons (eC con_HEADS) aNil)) (aCons (eC (.int (tab_NINES.length : Nat))) aNil)))) (eTup (aCons (eC (.int 10)) (aCons (eC (.int 10)) (aCons (eC (.int 18)) aNil))))))) (sRet (eC (.bl false))) sNil) (sSeq (sAsg (eLst (aCons (eCall (bRes bLen) (aCons (eVar 0) aNil)) (aCons (eCall g_read_good (aCons (eVar 0) aNil)) (aCons (eCall g_read_good (aCons (eRevX (eVar 0)) aNil)) (aCons (eCall g_dark_share (aCons (eVar 0) aNil)) (aCons (eCall g_mended_good (aCons (eCall g_with_spot (aCons (eVar 0) (aCons (eC (.int 10)) aNil))) aNil)) aNil)))))) (gNm 3)) (sSeq (sAsg (eBin dAdd (eVar 3) (eLst (aCons (eCall g_read_nines (aCons (eCall g_nine_stripes (aCons (eC (.str [65, 45, 49, 50])) aNil)) aNil)) (aCons (eCall g_read_nines (aCons (eRevX (eCall g_nine_stripes (aCons (eC (.str [65, 45, 49, 50])) aNil))) aNil)) (aCons (eCall (bRes bLen) (aCons (eCall g_nine_stripes (aCons (eC (.str [65])) aNil)) aNil)) (aCons (eCall g_drawn_stripes (aCons (eC (.str [49, 48, 49])) (aCons (eC (.int 2)) (aCons (eC (.int 1)) aNil)))) aNil)))))) (gNm 3)) (sSeq (sAsg (eBin dAdd (eVar 3) (eLst (aCons (eCall g_read_drawn (aCons (eC (.str [35, 35, 32, 32, 35, 35])) (aCons (eC (.int 2)) aNil))) (aCons (eCall g_figure_stripes (aCons (eC (.str [51])) (aCons (eC (.str [71])) aNil))) (aCons (eCall g_read_one_way (aCons (eRevX (eVar 0)) aNil)) aNil))))) (gNm 3)) (sRet (eBin dEq (eVar 3) (eLst (aCons (eC (.int 95)) (aCons (eC (.str [52, 48, 48, 54, 51, 56, 49, 51, 51, 51, 57, 51, 49])) (aCons (eC (.str [52, 48, 48, 54, 51, 56, 49, 51, 51, 51, 57, 51, 49])) (aCons (eC (.int 473)) (aCons (eTup (aCons (eC (.str [52, 48, 48, 54, 51, 56, 49, 51, 51, 51, 57, 51, 49])) aNil)) (aCons (eC (.str [65, 45, 49, 50])) (aCons (eC (.str [65, 45, 49, 50])) (aCons (eC (.int 38)) (aCons (eTup (aCons (eC (.str [35, 35, 32, 32, 35, 35])) aNil)) (aCons (eC (.str [49, 48, 49])) (aCons (eC (.str [48, 49, 48, 48, 48, 48, 49])) (aCons (eC (.str [])) aNil)))))))))))))))))))))
abbrev f_x_law_plain : Fv := fn 4 m_x_law_plain
abbrev g_x_law_plain : Fv := cAll 0 f_x_law_plain
theorem b_x_law_plain (Z : Fx P w K mg base T) : Body P w K mg base T ["stripes", "bad", "f", "told"] "_law_plain" (defScope st_x_law_plain) 10 (defBody st_x_law_plain) m_x_law_plain := fun A outer s H E hr =>
  (db_cons (sst 0 sc_x_law_plain.nd (de_call (c_good_stripes Z) hr (by decide) (by exact rfl) (takes_cx (CX := L2.CX P w)) (da_cons (de_str [52, 48, 48, 54, 51, 56, 49, 51, 51, 51, 57, 51, 49]) da_nil)))
    (lb_start 1 sc_x_law_plain.nd (by rfl) (dls_cons Z.t_x_law_plain (by exact rfl) Z.i_x_law_plain Z.u_x_law_plain ⟨LamX.lamS_by (by rfl), (by exact rfl), fun _ _ _ _ _ => (by exact rfl), fun _ _ _ _ _ _ _ hj => (de_call (c_figure_stripes Z) hj (by decide) (by exact rfl) (takes_of (by exact rfl) (by exact rfl) (by exact rfl) (by exact rfl)) (da_cons (de_str [49, 50]) (da_cons (de_str [76]) da_nil)))⟩
      (dls_cons Z.t_x_law_plain (by exact rfl) Z.i_x_law_plain Z.u_x_law_plain ⟨LamX.lamS_by (by rfl), (by exact rfl), fun _ _ _ _ _ => (by exact rfl), fun _ _ _ _ _ _ _ hj => (de_call (c_figure_stripes Z) hj (by decide) (by exact rfl) (takes_of (by exact rfl) (by exact rfl) (by exact rfl) (by exact rfl)) (da_cons (de_str [97]) (da_cons (de_str [76]) da_nil)))⟩
      (dls_cons Z.t_x_law_plain (by exact rfl) Z.i_x_law_plain Z.u_x_law_plain ⟨LamX.lamS_by (by rfl), (by exact rfl), fun _ _ _ _ _ => (by exact rfl), fun _ _ _ _ _ _ _ hj => (de_call (c_figure_stripes Z) hj (by decide) (by exact rfl) (takes_of (by exact rfl) (by exact rfl) (by exact rfl) (by exact rfl)) (da_cons (de_str [49]) (da_cons (de_str [88]) da_nil)))⟩
      (dls_cons Z.t_x_law_plain (by exact rfl) Z.i_x_law_plain Z.u_x_law_plain ⟨LamX.lamS_by (by rfl), (by exact rfl), fun _ _ _ _ _ => (by exact rfl), fun _ _ _ _ _ _ _ hj => (de_call (c_good_stripes Z) hj (by decide) (by exact rfl) (takes_of (by exact rfl) (by exact rfl) (by exact rfl) (by exact rfl)) (da_cons (de_str [49]) da_nil))⟩
      dls_nil))))
    (lb_more sc_x_law_plain.nd (by rfl) (dls_cons Z.t_x_law_plain (by exact rfl) Z.i_x_law_plain Z.u_x_law_plain ⟨LamX.lamS_by (by rfl), (by exact rfl), fun _ _ _ _ _ => (by exact rfl), fun _ _ _ _ _ _ _ hj => (de_call (c_good_stripes Z) hj (by decide) (by exact rfl) (takes_of (by exact rfl) (by exact rfl) (by exact rfl) (by exact rfl)) (da_cons (de_str [52, 48, 48, 54, 51, 56, 49, 51, 51, 51, 57, 51, 50]) da_nil))⟩
      (dls_cons Z.t_x_law_plain (by exact rfl) Z.i_x_law_plain Z.u_x_law_plain ⟨LamX.lamS_by (by rfl), (by exact rfl), fun _ _ _ _ _ => (by exact rfl), fun _ _ _ _ _ _ _ hj => (de_call (c_good_stripes Z) hj (by decide) (by exact rfl) (takes_of (by exact rfl) (by exact rfl) (by exact rfl) (by exact rfl)) (da_cons (de_str [52, 48, 48, 54, 51, 56, 49, 51, 51, 51, 57, 51, 97]) da_nil))⟩
      (dls_cons Z.t_x_law_plain (by exact rfl) Z.i_x_law_plain Z.u_x_law_plain ⟨LamX.lamS_by (by rfl), (by exact rfl), fun _ _ _ _ _ => (by exact rfl), fun _ _ _ _ _ _ _ hj => (de_call (c_read_good Z) hj (by decide) (by exact rfl) (takes_of (by exact rfl) (by exact rfl) (by exact rfl) (by exact rfl)) (da_cons (de_str []) da_nil))⟩
      (dls_cons Z.t_x_law_plain (by exact rfl) Z.i_x_law_plain Z.u_x_law_plain ⟨LamX.lamS_by (by rfl), (by exact rfl), fun _ _ _ _ _ => (by exact rfl), fun _ _ _ _ _ _ _ hj => (de_call (c_read_good Z) hj (by decide) (by exact rfl) (takes_of (by exact rfl) (by exact rfl) (by exact rfl) (by exact rfl)) (da_cons (de_bin od_mul (de_str [49]) de_int) da_nil))⟩
      dls_nil))))
    (lb_more sc_x_law_plain.nd (by rfl) (dls_cons Z.t_x_law_plain (by exact rfl) Z.i_x_law_plain Z.u_x_law_plain ⟨LamX.lamS_by (by rfl), (by exact rfl), fun _ _ _ _ _ => (by exact rfl), fun _ _ _ _ _ _ _ hj => (de_call (c_nine_stripes Z) hj (by decide) (by exact rfl) (takes_of (by exact rfl) (by exact rfl) (by exact rfl) (by exact rfl)) (da_cons (de_str []) da_nil))⟩
      (dls_cons Z.t_x_law_plain (by exact rfl) Z.i_x_law_plain Z.u_x_law_plain ⟨LamX.lamS_by (by rfl), (by exact rfl), fun _ _ _ _ _ => (by exact rfl), fun _ _ _ _ _ _ _ hj => (de_call (c_nine_stripes Z) hj (by decide) (by exact rfl) (takes_of (by exact rfl) (by exact rfl) (by exact rfl) (by exact rfl)) (da_cons (de_str [42]) da_nil))⟩
      (dls_cons Z.t_x_law_plain (by exact rfl) Z.i_x_law_plain Z.u_x_law_plain ⟨LamX.lamS_by (by rfl), (by exact rfl), fun _ _ _ _ _ => (by exact rfl), fun _ _ _ _ _ _ _ hj => (de_call (c_nine_stripes Z) hj (by decide) (by exact rfl) (takes_of (by exact rfl) (by exact rfl) (by exact rfl) (by exact rfl)) (da_cons (de_str [97]) da_nil))⟩
      (dls_cons Z.t_x_law_plain (by exact rfl) Z.i_x_law_plain Z.u_x_law_plain ⟨LamX.lamS_by (by rfl), (by exact rfl), fun _ _ _ _ _ => (by exact rfl), fun _ _ _ _ _ _ _ hj => (de_call (c_nine_stripes Z) hj (by decide) (by exact rfl) (takes_of (by exact rfl) (by exact rfl) (by exact rfl) (by exact rfl)) (da_cons (de_bin od_mul (de_str [49]) de_int) da_nil))⟩
      (dls_cons Z.t_x_law_plain (by exact rfl) Z.i_x_law_plain Z.u_x_law_plain ⟨LamX.lamS_by (by rfl), (by exact rfl), fun _ _ _ _ _ => (by exact rfl), fun _ _ _ _ _ _ _ hj => (de_call (c_read_nines Z) hj (by decide) (by exact rfl) (takes_of (by exact rfl) (by exact rfl) (by exact rfl) (by exact rfl)) (da_cons (de_str []) da_nil))⟩
      dls_nil)))))
    (lb_more sc_x_law_plain.nd (by rfl) (dls_cons Z.t_x_law_plain (by exact rfl) Z.i_x_law_plain Z.u_x_law_plain ⟨LamX.lamS_by (by rfl), (by exact rfl), fun _ _ _ _ _ => (by exact rfl), fun _ _ _ _ _ _ _ hj => (de_call (c_read_nines Z) hj (by decide) (by exact rfl) (takes_of (by exact rfl) (by exact rfl) (by exact rfl) (by exact rfl)) (da_cons (de_str [49, 48, 49]) da_nil))⟩
      (dls_cons Z.t_x_law_plain (by exact rfl) Z.i_x_law_plain Z.u_x_law_plain ⟨LamX.lamS_by (by rfl), (by exact rfl), fun _ _ _ _ _ => (by exact rfl), fun _ _ _ _ _ _ _ hj => (de_call (c_drawn_stripes Z) hj (by decide) (by exact rfl) (takes_of (by exact rfl) (by exact rfl) (by exact rfl) (by exact rfl)) (da_cons (de_str [49]) (da_cons de_int (da_cons de_int da_nil))))⟩
      (dls_cons Z.t_x_law_plain (by exact rfl) Z.i_x_law_plain Z.u_x_law_plain ⟨LamX.lamS_by (by rfl), (by exact rfl), fun _ _ _ _ _ => (by exact rfl), fun _ _ _ _ _ _ _ hj => (de_call (c_drawn_stripes Z) hj (by decide) (by exact rfl) (takes_of (by exact rfl) (by exact rfl) (by exact rfl) (by exact rfl)) (da_cons (de_str [49]) (da_cons de_int (da_cons de_int da_nil))))⟩
      (dls_cons Z.t_x_law_plain (by exact rfl) Z.i_x_law_plain Z.u_x_law_plain ⟨LamX.lamS_by (by rfl), (by exact rfl), fun _ _ _ _ _ => (by exact rfl), fun _ _ _ _ _ _ _ hj => (de_call (c_drawn_stripes Z) hj (by decide) (by exact rfl) (takes_of (by exact rfl) (by exact rfl) (by exact rfl) (by exact rfl)) (da_cons (de_str [50]) (da_cons de_int (da_cons de_int da_nil))))⟩
      dls_nil))))
    (lb_more sc_x_law_plain.nd (by rfl) (dls_cons Z.t_x_law_plain (by exact rfl) Z.i_x_law_plain Z.u_x_law_plain ⟨LamX.lamS_by (by rfl), (by exact rfl), fun _ _ _ _ _ => (by exact rfl), fun _ _ _ _ _ _ _ hj => (de_call (c_read_drawn Z) hj (by decide) (by exact rfl) (takes_of (by exact rfl) (by exact rfl) (by exact rfl) (by exact rfl)) (da_cons (de_str [35]) (da_cons de_int da_nil)))⟩
      (dls_cons Z.t_x_law_plain (by exact rfl) Z.i_x_law_plain Z.u_x_law_plain ⟨LamX.lamS_by (by rfl), (by exact rfl), fun _ _ _ _ _ => (by exact rfl), fun _ _ _ _ _ _ _ hj => (de_call (c_read_drawn Z) hj (by decide) (by exact rfl) (takes_of (by exact rfl) (by exact rfl) (by exact rfl) (by exact rfl)) (da_cons (de_str [35, 35, 35]) (da_cons de_int da_nil)))⟩
      (dls_cons Z.t_x_law_plain (by exact rfl) Z.i_x_law_plain Z.u_x_law_plain ⟨LamX.lamS_by (by rfl), (by exact rfl), fun _ _ _ _ _ => (by exact rfl), fun _ _ _ _ _ _ _ hj => (de_call (c_read_drawn Z) hj (by decide) (by exact rfl) (takes_of (by exact rfl) (by exact rfl) (by exact rfl) (by exact rfl)) (da_cons (de_str [35, 32]) (da_cons de_int da_nil)))⟩
      (dls_cons Z.t_x_law_plain (by exact rfl) Z.i_x_law_plain Z.u_x_law_plain ⟨LamX.lamS_by (by rfl), (by exact rfl), fun _ _ _ _ _ => (by exact rfl), fun _ _ _ _ _ _ _ hj => (de_call (c_dark_share Z) hj (by decide) (by exact rfl) (takes_of (by exact rfl) (by exact rfl) (by exact rfl) (by exact rfl)) (da_cons (de_str []) da_nil))⟩
      (dls_cons Z.t_x_law_plain (by exact rfl) Z.i_x_law_plain Z.u_x_law_plain ⟨LamX.lamS_by (by rfl), (by exact rfl), fun _ _ _ _ _ => (by exact rfl), fun _ _ _ _ _ _ _ hj => (de_call (c_with_spot Z) hj (by decide) (by exact rfl) (takes_of (by exact rfl) (by exact rfl) (by exact rfl) (by exact rfl)) (da_cons (de_str [49]) (da_cons de_int da_nil)))⟩
      dls_nil)))))
    (lb_more sc_x_law_plain.nd (by rfl) (dls_cons Z.t_x_law_plain (by exact rfl) Z.i_x_law_plain Z.u_x_law_plain ⟨LamX.lamS_by (by rfl), (by exact rfl), fun _ _ _ _ _ => (by exact rfl), fun _ _ _ _ _ _ _ hj => (de_call (c_with_spot Z) hj (by decide) (by exact rfl) (takes_of (by exact rfl) (by exact rfl) (by exact rfl) (by exact rfl)) (da_cons (de_str [49]) (da_cons (de_neg de_int) da_nil)))⟩
      (dls_cons Z.t_x_law_plain (by exact rfl) Z.i_x_law_plain Z.u_x_law_plain ⟨LamX.lamS_by (by rfl), (by exact rfl), fun _ _ _ _ _ => (by exact rfl), fun _ _ _ _ _ _ _ hj => (de_call (c_mended_good Z) hj (by decide) (by exact rfl) (takes_of (by exact rfl) (by exact rfl) (by exact rfl) (by exact rfl)) (da_cons (dv 0) da_nil))⟩
      (dls_cons Z.t_x_law_plain (by exact rfl) Z.i_x_law_plain Z.u_x_law_plain ⟨LamX.lamS_by (by rfl), (by exact rfl), fun _ _ _ _ _ => (by exact rfl), fun _ _ _ _ _ _ _ hj => (de_call (c_mended_good Z) hj (by decide) (by exact rfl) (takes_of (by exact rfl) (by exact rfl) (by exact rfl) (by exact rfl)) (da_cons (de_str [49]) da_nil))⟩
      dls_nil)))
    (lb_if (dtb_or (dtb_bad (k := 8) 1 2 [83, 116, 114, 105, 112, 101, 69, 114, 114, 111, 114] Z.told Z.tcat sc_x_law_plain.nd (hr.mono (by decide))) (dw_one_or (dt_cmp (od_ne (hu64 hr)) (de_tup (da_cons (de_callB cd_len (by exact rfl) Z.b_len (by exact rfl) (da_cons (de_gcon (by exact rfl) (by exact TCon.g Z.c_LEFT)) da_nil)) (da_cons (de_callB cd_len (by exact rfl) Z.b_len (by exact rfl) (da_cons (de_gcon (by exact rfl) (by exact TCon.g Z.c_HEADS)) da_nil)) (da_cons (de_klen (by exact rfl) (by exact GTab2.g Z.c_NINES) (by exact rfl) Z.b_len) da_nil)))) (de_tup (da_cons de_int (da_cons de_int (da_cons de_int da_nil))))))) (db_one (ds_ret de_bl)) db_nil
    (db_cons (sst 3 sc_x_law_plain.nd (de_lst (da_cons (de_callB cd_len (by exact rfl) Z.b_len (by exact rfl) (da_cons (dv 0) da_nil)) (da_cons (de_call (c_read_good Z) hr (by decide) (by exact rfl) (takes_cx (CX := L2.CX P w)) (da_cons (dv 0) da_nil)) (da_cons (de_call (c_read_good Z) hr (by decide) (by exact rfl) (takes_cx (CX := L2.CX P w)) (da_cons (de_revX (dv 0)) da_nil)) (da_cons (de_call (c_dark_share Z) hr (by decide) (by exact rfl) (takes_cx (CX := L2.CX P w)) (da_cons (dv 0) da_nil)) (da_cons (de_call (c_mended_good Z) hr (by decide) (by exact rfl) (takes_cx (CX := L2.CX P w)) (da_cons (de_call (c_with_spot Z) hr (by decide) (by exact rfl) (takes_cx (CX := L2.CX P w)) (da_cons (dv 0) (da_cons de_int da_nil))) da_nil)) da_nil)))))))
    (db_cons (sst 3 sc_x_law_plain.nd (de_bin od_add (dv 3) (de_lst (da_cons (de_call (c_read_nines Z) hr (by decide) (by exact rfl) (takes_cx (CX := L2.CX P w)) (da_cons (de_call (c_nine_stripes Z) hr (by decide) (by exact rfl) (takes_cx (CX := L2.CX P w)) (da_cons (de_str [65, 45, 49, 50]) da_nil)) da_nil)) (da_cons (de_call (c_read_nines Z) hr (by decide) (by exact rfl) (takes_cx (CX := L2.CX P w)) (da_cons (de_revX (de_call (c_nine_stripes Z) hr (by decide) (by exact rfl) (takes_cx (CX := L2.CX P w)) (da_cons (de_str [65, 45, 49, 50]) da_nil))) da_nil)) (da_cons (de_callB cd_len (by exact rfl) Z.b_len (by exact rfl) (da_cons (de_call (c_nine_stripes Z) hr (by decide) (by exact rfl) (takes_cx (CX := L2.CX P w)) (da_cons (de_str [65]) da_nil)) da_nil)) (da_cons (de_call (c_drawn_stripes Z) hr (by decide) (by exact rfl) (takes_cx (CX := L2.CX P w)) (da_cons (de_str [49, 48, 49]) (da_cons de_int (da_cons de_int da_nil)))) da_nil)))))))
    (db_cons (sst 3 sc_x_law_plain.nd (de_bin od_add (dv 3) (de_lst (da_cons (de_call (c_read_drawn Z) hr (by decide) (by exact rfl) (takes_cx (CX := L2.CX P w)) (da_cons (de_str [35, 35, 32, 32, 35, 35]) (da_cons de_int da_nil))) (da_cons (de_call (c_figure_stripes Z) hr (by decide) (by exact rfl) (takes_cx (CX := L2.CX P w)) (da_cons (de_str [51]) (da_cons (de_str [71]) da_nil))) (da_cons (de_call (c_read_one_way Z) hr (by decide) (by exact rfl) (takes_cx (CX := L2.CX P w)) (da_cons (de_revX (dv 0)) da_nil)) da_nil))))))
    (db_one (ds_ret (de_cmp (od_eq (hu64 hr)) (dv 3) (de_lst (da_cons de_int (da_cons (de_str [52, 48, 48, 54, 51, 56, 49, 51, 51, 51, 57, 51, 49]) (da_cons (de_str [52, 48, 48, 54, 51, 56, 49, 51, 51, 51, 57, 51, 49]) (da_cons de_int (da_cons (de_tup (da_cons (de_str [52, 48, 48, 54, 51, 56, 49, 51, 51, 51, 57, 51, 49]) da_nil)) (da_cons (de_str [65, 45, 49, 50]) (da_cons (de_str [65, 45, 49, 50]) (da_cons de_int (da_cons (de_tup (da_cons (de_str [35, 35, 32, 32, 35, 35]) da_nil)) (da_cons (de_str [49, 48, 49]) (da_cons (de_str [48, 49, 48, 48, 48, 48, 49]) (da_cons (de_str []) da_nil)))))))))))))))))))))))))))
theorem c_x_law_plain (Z : Fx P w K mg base T) : Cal P w K mg base T 11 "_law_plain" g_x_law_plain := cal_all Z.d_x_law_plain Z.g_x_law_plain sc_x_law_plain (fun _ _ _ _ _ _ us hl => match us, hl with | [], _ => rfl) (b_x_law_plain Z)
/-! law -/
abbrev st_law : Stmt := top 32
theorem sc_law : FnScope ["script", "dice", "body", "k", "text", "stripes", "place", "turned", "mends", "one", "word", "sign", "nines", "cut", "some", "wide", "high", "line", "rows", "figure", "kind", "left", "right", "told"] ["script"] (defScope st_law) := ⟨rfl, rfl, rfl, by decide +kernel, rfl, by decide +kernel, by decide +kernel⟩
def m_law : Sv := (sSeq (sForI (iSeq (eCall g_x_law_rounds (aCons (eVar 0) (aCons (eC (.int 1)) aNil)))) (gNm 1) (sSeq (sAsg (eMt "str" (mJoin) (eC (.str [])) (aCons (eLc (iRng1 (aCons (eC (.int 12)) aNil)) [3] (gNm 3) bYes (eCall (bRes bStr) (aCons (eCall g_x_law_roll (aCons (eVar 1) (aCons (eC (.int 10)) aNil))) aNil))) aNil)) (gNm 2)) (sSeq (sAsg (eBin dAdd (eVar 2) (eCall g_good_sign (aCons (eVar 2) aNil))) (gNm 4)) (sSeq (sAsg (eCall g_x_law_good (aCons (eVar 4) aNil)) (gNm 5)) (sSeq (sIf (bOr (bTest (eBin dNe (eCall g_good_stripes (aCons (eVar 4) aNil)) (eVar 5))) (bOr (bTest (eBin dNe (eCall g_read_good (aCons (eVar 5) aNil)) (eVar 4))) (bTest (eBin dNe (eCall g_read_good (aCons (eRevX (eVar 5)) aNil)) (eVar 4))))) (sRet (eC (.bl false))) sNil) (sSeq (sIf (bOr (bTest (eBin dNe (eCall g_read_one_way (aCons (eVar 5) aNil)) (eVar 4))) (bTest (eBin dNe (eCall (bRes bLen) (aCons (eVar 5) aNil)) (eC (.int 95))))) (sRet (eC (.bl false))) sNil) (sSeq (sAsg (eCall g_x_law_roll (aCons (eVar 1) (aCons (eC (.int 95)) aNil))) (gNm 6)) (sSeq (sAsg (eBin dAdd (eBin dAdd (eSl (eVar 5) oNo (oYes (eVar 6))) (eIx (eC (.str [49, 48])) (eCall (bRes bInt) (aCons (eIx (eVar 5) (eVar 6)) aNil)))) (eSl (eVar 5) (oYes (eBin dAdd (eVar 6) (eC (.int 1)))) oNo)) (gNm 7)) (sSeq (sIf (bOr (bTest (eBin dNe (eCall g_with_spot (aCons (eVar 5) (aCons (eVar 6) aNil))) (eVar 7))) (bTest (eBin dNe (eTold toldCat toldRet (eCall g_read_good (aCons (eVar 7) aNil))) (eC (.str [83, 116, 114, 105, 112, 101, 69, 114, 114, 111, 114]))))) (sRet (eC (.bl false))) sNil) (sSeq (sAsg (eCall g_mended_good (aCons (eVar 7) aNil)) (gNm 8)) (sSeq (sIf (bOr (bTest (eBin dNotIn (eVar 4) (eVar 8))) (bTest (eBin dNe (eCall (bRes bList) (aCons (eVar 8) aNil)) (eCall (bRes bSortedT) (aCons (eVar 8) aNil))))) (sRet (eC (.bl false))) sNil) (sSeq (sIf (bTest (eBin dNe (eLc (iSeq (eVar 8)) [9] (gNm 9) (bTest (eBin dNe (eCall g_good_sign (aCons (eSl (eVar 9) oNo (oYes (eUn dNeg (eC (.int 1))))) aNil)) (eIx (eVar 9) (eUn dNeg (eC (.int 1)))))) (eC (.int 1))) (eLst aNil))) (sRet (eC (.bl false))) sNil) (sSeq (sAsg (eMt "str" (mJoin) (eC (.str [])) (aCons (eLc (iRng1 (aCons (eBin dAdd (eC (.int 1)) (eCall g_x_law_roll (aCons (eVar 1) (aCons (eC (.int 6)) aNil)))) aNil)) [3] (gNm 3) bYes (eIx (eLc (iKk tab_NINES) [11] (gNm 11) (bTest (eBin dNe (eVar 11) (eC (.str [42])))) (eVar 11)) (eCall g_x_law_roll (aCons (eVar 1) (aCons (eC (.int 17)) aNil))))) aNil)) (gNm 10)) (sSeq (sAsg (eCall g_x_law_nines (aCons (eVar 10) aNil)) (gNm 12)) (sSeq (sIf (bOr (bTest (eBin dNe (eCall g_nine_stripes (aCons (eVar 10) aNil)) (eVar 12))) (bOr (bTest (eBin dNe (eCall g_read_nines (aCons (eVar 12) aNil)) (eVar 10))) (bTest (eBin dNe (eCall g_read_nines (aCons (eRevX (eVar 12)) aNil)) (eVar 10))))) (sRet (eC (.bl false))) sNil) (sSeq (sIf (bTest (eBin dNe (eCall g_nines_one_way (aCons (eVar 12) aNil)) (eVar 10))) (sRet (eC (.bl false))) sNil) (sSeq (sAsg (eSl (eVar 12) oNo (oYes (eBin dSub (eBin dSub (eCall (bRes bLen) (aCons (eVar 12) aNil)) (eC (.int 1))) (eCall g_x_law_roll (aCons (eVar 1) (aCons (eC (.int 3)) aNil)))))) (gNm 13)) (sSeq (sIf (bTest (eBin dNe (eTold toldCat toldRet (eCall g_read_nines (aCons (eVar 13) aNil))) (eC (.str [83, 116, 114, 105, 112, 101, 69, 114, 114, 111, 114])))) (sRet (eC (.bl false))) sNil) (sSeq (sAsg (eTup (aCons (eMt "str" (mJoin) (eC (.str [])) (aCons (eLc (iRng1 (aCons (eBin dAdd (eC (.int 1)) (eCall g_x_law_roll (aCons (eVar 1) (aCons (eC (.int 20)) aNil)))) aNil)) [3] (gNm 3) bYes (eIx (eC (.str [48, 49])) (eCall g_x_law_roll (aCons (eVar 1) (aCons (eC (.int 2)) aNil))))) aNil)) (aCons (eBin dAdd (eC (.int 1)) (eCall g_x_law_roll (aCons (eVar 1) (aCons (eC (.int 4)) aNil)))) (aCons (eBin dAdd (eC (.int 1)) (eCall g_x_law_roll (aCons (eVar 1) (aCons (eC (.int 3)) aNil)))) aNil)))) (gTp 3 (gCns (gNm 14) (gCns (gNm 15) (gCns (gNm 16) gNils))))) (sSeq (sAsg (eMt "str" (mJoin) (eC (.str [])) (aCons (eLc (iSeq (eVar 14)) [11] (gNm 11) bYes (eBin dMul (eIf (bTest (eBin dEq (eVar 11) (eC (.str [49])))) (eC (.str [35])) (eC (.str [32]))) (eVar 15))) aNil)) (gNm 17)) (sSeq (sAsg (eLst aNil) (gNm 18)) (sSeq (sForI (iSeq (eVar 14)) (gNm 11) (sAsg (eIf (bAnd (bTest (eBin dNe (eVar 18) (eLst aNil))) (bTest (eBin dEq (eIx (eIx (eVar 18) (eUn dNeg (eC (.int 1)))) (eC (.int 0))) (eVar 11)))) (eBin dAdd (eSl (eVar 18) oNo (oYes (eUn dNeg (eC (.int 1))))) (eLst (aCons (eTup (aCons (eVar 11) (aCons (eBin dAdd (eIx (eIx (eVar 18) (eUn dNeg (eC (.int 1)))) (eC (.int 1))) (eC (.int 1))) aNil))) aNil))) (eBin dAdd (eVar 18) (eLst (aCons (eTup (aCons (eVar 11) (aCons (eC (.int 1)) aNil))) aNil)))) (gNm 18))) (sSeq (sIf (bOr (bTest (eBin dNe (eCall (bRes bList) (aCons (eCall g_drawn_stripes (aCons (eVar 14) (aCons (eVar 15) (aCons (eVar 16) aNil)))) aNil)) (eBin dMul (eLst (aCons (eMt "str" (mS1 gRstripC) (eVar 17) (aCons (eC (.str [32])) aNil)) aNil)) (eVar 16)))) (bTest (eBin dNe (eCall g_read_drawn (aCons (eVar 17) (aCons (eVar 15) aNil))) (eVar 14)))) (sRet (eC (.bl false))) sNil) (sSeq (sIf (bOr (bTest (eBin dNe (eCall g_runs_in_stripes (aCons (eVar 14) aNil)) (eVar 18))) (bTest (eBin dNe (eCall g_dark_share (aCons (eVar 14) aNil)) (eBin dDiv (eBin dMul (eC (.int 1000)) (eMt "str" (mS1 gCount) (eVar 14) (aCons (eC (.str [49])) aNil))) (eCall (bRes bLen) (aCons (eVar 14) aNil)))))) (sRet (eC (.bl false))) sNil) (sSeq (sPar 19 20 (aCons (eCall (bRes bStr) (aCons (eCall g_x_law_roll (aCons (eVar 1) (aCons (eC (.int 10)) aNil))) aNil)) (aCons (eIx (eC (.str [76, 82, 71])) (eCall g_x_law_roll (aCons (eVar 1) (aCons (eC (.int 3)) aNil)))) aNil))) (sSeq (sAsg (eIx (eC con_LEFT) (eCall (bRes bInt) (aCons (eVar 19) aNil))) (gNm 21)) (sSeq (sAsg (eMt "str" (mJoin) (eC (.str [])) (aCons (eLc (iSeq (eVar 21)) [9] (gNm 9) bYes (eIx (eC (.str [49, 48])) (eCall (bRes bInt) (aCons (eVar 9) aNil)))) aNil)) (gNm 22)) (sSeq (sAsg (eIx (eDic [((eC (.str [76])), (eVar 21)), ((eC (.str [82])), (eVar 22)), ((eC (.str [71])), (eRevX (eVar 22)))]) (eVar 20)) (gNm 23)) (sSeq (sIf (bOr (bTest (eBin dNe (eCall g_figure_stripes (aCons (eVar 19) (aCons (eVar 20) aNil))) (eVar 23))) (bTest (eBin dNe (eCall g_figure_in (aCons (eVar 23) (aCons (eVar 20) aNil))) (eTup (aCons (eVar 19) (aCons (eVar 20) aNil)))))) (sRet (eC (.bl false))) sNil) (sIf (bTest (eBin dNe (eCall g_figure_in (aCons (eC (.str [49, 49, 49, 49, 49, 49, 49])) (aCons (eC (.str [76, 82, 71])) aNil))) (eTup (aCons (eC (.str [])) (aCons (eC (.str [])) aNil))))) (sRet (eC (.bl false))) sNil)))))))))))))))))))))))))))))) (sRet (eCall g_x_law_plain aNil)))
abbrev f_law : Fv := fn 24 m_law
abbrev g_law : Fv := cAll 1 f_law
theorem b_law (Z : Fx P w K mg base T) : Body P w K mg base T ["script", "dice", "body", "k", "text", "stripes", "place", "turned", "mends", "one", "word", "sign", "nines", "cut", "some", "wide", "high", "line", "rows", "figure", "kind", "left", "right", "told"] "law" (defScope st_law) 11 (defBody st_law) m_law := fun A outer s H E hr =>
  (db_cons (ds_for owns_cx (by exact rfl) (di_seq (de_call (c_x_law_rounds Z) hr (by decide) (by exact rfl) (takes_cx (CX := L2.CX P w)) (da_cons (dv 0) (da_cons de_int da_nil)))) (gnm 1 sc_law.nd) (db_cons (sst 2 sc_law.nd (de_m PySem.F.plainAttrs_str PySem.F.slot_str_join PySem.F.type_str_join md_join (de_str []) (da_cons (de_lc (by exact rfl) sc_law.nd (di_range1 (by exact rfl) Z.b_range (da_cons de_int da_nil)) (blkOk_by (own := [("k", 3)]) (by rfl)) ⟨fun _ _ _ _ _ => (xnm 3 sc_law.nd), fun _ _ _ _ _ => dts_nil, fun _ _ _ _ _ => (de_callT cd_str (by exact rfl) Z.b_str (by exact rfl) (da_cons (de_call (c_x_law_roll Z) hr (by decide) (by exact rfl) LamX.takes0 (da_cons (dv 1) (da_cons de_int da_nil))) da_nil))⟩) da_nil)))
    (db_cons (sst 4 sc_law.nd (de_bin od_add (dv 2) (de_call (c_good_sign Z) hr (by decide) (by exact rfl) (takes_cx (CX := L2.CX P w)) (da_cons (dv 2) da_nil))))
    (db_cons (sst 5 sc_law.nd (de_call (c_x_law_good Z) hr (by decide) (by exact rfl) (takes_cx (CX := L2.CX P w)) (da_cons (dv 4) da_nil)))
    (db_cons (ds_if (DW.dt (dw_or (dt_cmp (od_ne (hu64 hr)) (de_call (c_good_stripes Z) hr (by decide) (by exact rfl) (takes_cx (CX := L2.CX P w)) (da_cons (dv 4) da_nil)) (dv 5)) (dw_or (dt_cmp (od_ne (hu64 hr)) (de_call (c_read_good Z) hr (by decide) (by exact rfl) (takes_cx (CX := L2.CX P w)) (da_cons (dv 5) da_nil)) (dv 4)) (dw_one_or (dt_cmp (od_ne (hu64 hr)) (de_call (c_read_good Z) hr (by decide) (by exact rfl) (takes_cx (CX := L2.CX P w)) (da_cons (de_revX (dv 5)) da_nil)) (dv 4)))))) (db_one (ds_ret de_bl)) db_nil)
    (db_cons (ds_if (DW.dt (dw_or (dt_cmp (od_ne (hu64 hr)) (de_call (c_read_one_way Z) hr (by decide) (by exact rfl) (takes_cx (CX := L2.CX P w)) (da_cons (dv 5) da_nil)) (dv 4)) (dw_one_or (dt_cmp (od_ne (hu64 hr)) (de_callB cd_len (by exact rfl) Z.b_len (by exact rfl) (da_cons (dv 5) da_nil)) de_int)))) (db_one (ds_ret de_bl)) db_nil)
    (db_cons (sst 6 sc_law.nd (de_call (c_x_law_roll Z) hr (by decide) (by exact rfl) (takes_cx (CX := L2.CX P w)) (da_cons (dv 1) (da_cons de_int da_nil))))
    (db_cons (sst 7 sc_law.nd (de_bin od_add (de_bin od_add (de_sl (dv 5) do_no (do_yes (dv 6))) (de_ix (hu1 hr) (de_str [49, 48]) (de_callT cd_int (by exact rfl) Z.b_int (by exact rfl) (da_cons (de_ix (hu1 hr) (dv 5) (dv 6)) da_nil)))) (de_sl (dv 5) (do_yes (de_bin od_add (dv 6) de_int)) do_no)))
    (db_cons (ds_if (DW.dt (dw_or (dt_cmp (od_ne (hu64 hr)) (de_call (c_with_spot Z) hr (by decide) (by exact rfl) (takes_cx (CX := L2.CX P w)) (da_cons (dv 5) (da_cons (dv 6) da_nil))) (dv 7)) (dw_one_or (dt_cmp (od_ne (hu64 hr)) (de_told (k := 8) Z.told Z.tcat (by exact rfl) Z.t_law (by exact rfl) Z.i_law Z.u_law (hr.mono (by decide)) (LamX.lamS_by (by rfl)) (by exact rfl) (fun _ _ _ _ _ => (by exact rfl)) (fun _ _ _ _ _ _ _ hj => (de_call (c_read_good Z) hj (by decide) (by exact rfl) (takes_of (by exact rfl) (by exact rfl) (by exact rfl) (by exact rfl)) (da_cons (dv 7) da_nil)))) (de_str [83, 116, 114, 105, 112, 101, 69, 114, 114, 111, 114]))))) (db_one (ds_ret de_bl)) db_nil)
    (db_cons (sst 8 sc_law.nd (de_call (c_mended_good Z) hr (by decide) (by exact rfl) (takes_cx (CX := L2.CX P w)) (da_cons (dv 7) da_nil)))
    (db_cons (ds_if (DW.dt (dw_or (dt_cmp od_notIn (dv 4) (dv 8)) (dw_one_or (dt_cmp (od_ne (hu64 hr)) (de_callT cd_list (by exact rfl) Z.b_list (by exact rfl) (da_cons (dv 8) da_nil)) (de_callB (cd_sortedT (by exact rfl)) (by exact rfl) Z.b_sorted (by exact rfl) (da_cons (dv 8) da_nil)))))) (db_one (ds_ret de_bl)) db_nil)
    (db_cons (ds_if (dt_cmp (od_ne (hu64 hr)) (de_lc (by exact rfl) sc_law.nd (di_seq (dv 8)) (blkOk_by (own := [("one", 9)]) (by rfl)) ⟨fun _ _ _ _ _ => (xnm 9 sc_law.nd), fun _ _ _ _ _ => (dts_one (dt_cmp (od_ne (hu64 hr)) (de_call (c_good_sign Z) hr (by decide) (by exact rfl) LamX.takes0 (da_cons (de_sl (dv 9) do_no (do_yes (de_neg de_int))) da_nil)) (de_ix (hu1 hr) (dv 9) (de_neg de_int)))), fun _ _ _ _ _ => de_int⟩) (de_lst da_nil)) (db_one (ds_ret de_bl)) db_nil)
    (db_cons (sst 10 sc_law.nd (de_m PySem.F.plainAttrs_str PySem.F.slot_str_join PySem.F.type_str_join md_join (de_str []) (da_cons (de_lc (by exact rfl) sc_law.nd (di_range1 (by exact rfl) Z.b_range (da_cons (de_bin od_add de_int (de_call (c_x_law_roll Z) hr (by decide) (by exact rfl) (takes_cx (CX := L2.CX P w)) (da_cons (dv 1) (da_cons de_int da_nil)))) da_nil)) (blkOk_by (own := [("k", 3)]) (by rfl)) ⟨fun _ _ _ _ _ => (xnm 3 sc_law.nd), fun _ _ _ _ _ => dts_nil, fun _ _ _ _ _ => (de_ix (hu1 hr) (de_lc (by exact rfl) sc_law.nd (di_kk (by exact rfl) (by exact Z.c_NINES)) (blkOk_by (own := [("sign", 11)]) (by rfl)) ⟨fun _ _ _ _ _ => (xnm 11 sc_law.nd), fun _ _ _ _ _ => (dts_one (dt_cmp (od_ne (hu64 hr)) (dv 11) (de_str [42]))), fun _ _ _ _ _ => (dv 11)⟩) (de_call (c_x_law_roll Z) hr (by decide) (by exact rfl) LamX.takes0 (da_cons (dv 1) (da_cons de_int da_nil))))⟩) da_nil)))
    (db_cons (sst 12 sc_law.nd (de_call (c_x_law_nines Z) hr (by decide) (by exact rfl) (takes_cx (CX := L2.CX P w)) (da_cons (dv 10) da_nil)))
    (db_cons (ds_if (DW.dt (dw_or (dt_cmp (od_ne (hu64 hr)) (de_call (c_nine_stripes Z) hr (by decide) (by exact rfl) (takes_cx (CX := L2.CX P w)) (da_cons (dv 10) da_nil)) (dv 12)) (dw_or (dt_cmp (od_ne (hu64 hr)) (de_call (c_read_nines Z) hr (by decide) (by exact rfl) (takes_cx (CX := L2.CX P w)) (da_cons (dv 12) da_nil)) (dv 10)) (dw_one_or (dt_cmp (od_ne (hu64 hr)) (de_call (c_read_nines Z) hr (by decide) (by exact rfl) (takes_cx (CX := L2.CX P w)) (da_cons (de_revX (dv 12)) da_nil)) (dv 10)))))) (db_one (ds_ret de_bl)) db_nil)
    (db_cons (ds_if (dt_cmp (od_ne (hu64 hr)) (de_call (c_nines_one_way Z) hr (by decide) (by exact rfl) (takes_cx (CX := L2.CX P w)) (da_cons (dv 12) da_nil)) (dv 10)) (db_one (ds_ret de_bl)) db_nil)
    (db_cons (sst 13 sc_law.nd (de_sl (dv 12) do_no (do_yes (de_bin od_sub (de_bin od_sub (de_callB cd_len (by exact rfl) Z.b_len (by exact rfl) (da_cons (dv 12) da_nil)) de_int) (de_call (c_x_law_roll Z) hr (by decide) (by exact rfl) (takes_cx (CX := L2.CX P w)) (da_cons (dv 1) (da_cons de_int da_nil)))))))
    (db_cons (ds_if (dt_cmp (od_ne (hu64 hr)) (de_told (k := 7) Z.told Z.tcat (by exact rfl) Z.t_law (by exact rfl) Z.i_law Z.u_law (hr.mono (by decide)) (LamX.lamS_by (by rfl)) (by exact rfl) (fun _ _ _ _ _ => (by exact rfl)) (fun _ _ _ _ _ _ _ hj => (de_call (c_read_nines Z) hj (by decide) (by exact rfl) (takes_of (by exact rfl) (by exact rfl) (by exact rfl) (by exact rfl)) (da_cons (dv 13) da_nil)))) (de_str [83, 116, 114, 105, 112, 101, 69, 114, 114, 111, 114])) (db_one (ds_ret de_bl)) db_nil)
    (db_cons (ds_asg (de_tup (da_cons (de_m PySem.F.plainAttrs_str PySem.F.slot_str_join PySem.F.type_str_join md_join (de_str []) (da_cons (de_lc (by exact rfl) sc_law.nd (di_range1 (by exact rfl) Z.b_range (da_cons (de_bin od_add de_int (de_call (c_x_law_roll Z) hr (by decide) (by exact rfl) (takes_cx (CX := L2.CX P w)) (da_cons (dv 1) (da_cons de_int da_nil)))) da_nil)) (blkOk_by (own := [("k", 3)]) (by rfl)) ⟨fun _ _ _ _ _ => (xnm 3 sc_law.nd), fun _ _ _ _ _ => dts_nil, fun _ _ _ _ _ => (de_ix (hu1 hr) (de_str [48, 49]) (de_call (c_x_law_roll Z) hr (by decide) (by exact rfl) LamX.takes0 (da_cons (dv 1) (da_cons de_int da_nil))))⟩) da_nil)) (da_cons (de_bin od_add de_int (de_call (c_x_law_roll Z) hr (by decide) (by exact rfl) (takes_cx (CX := L2.CX P w)) (da_cons (dv 1) (da_cons de_int da_nil)))) (da_cons (de_bin od_add de_int (de_call (c_x_law_roll Z) hr (by decide) (by exact rfl) (takes_cx (CX := L2.CX P w)) (da_cons (dv 1) (da_cons de_int da_nil)))) da_nil)))) (dg_tup (by exact rfl) (dgs_cons (gnm 14 sc_law.nd) (dgs_cons (gnm 15 sc_law.nd) (dgs_cons (gnm 16 sc_law.nd) dgs_nil)))))
    (db_cons (sst 17 sc_law.nd (de_m PySem.F.plainAttrs_str PySem.F.slot_str_join PySem.F.type_str_join md_join (de_str []) (da_cons (de_lc (by exact rfl) sc_law.nd (di_seq (dv 14)) (blkOk_by (own := [("sign", 11)]) (by rfl)) ⟨fun _ _ _ _ _ => (xnm 11 sc_law.nd), fun _ _ _ _ _ => dts_nil, fun _ _ _ _ _ => (de_bin od_mul (de_if (dt_cmp (od_eq (hu64 hr)) (dv 11) (de_str [49])) (de_str [35]) (de_str [32])) (dv 15))⟩) da_nil)))
    (db_cons (sst 18 sc_law.nd (de_lst da_nil))
    (db_cons (ds_for owns_cx (by exact rfl) (di_seq (dv 14)) (gnm 11 sc_law.nd) (db_one (sst 18 sc_law.nd (de_if (DW.dt (dw_and (dt_cmp (od_ne (hu64 hr)) (dv 18) (de_lst da_nil)) (dw_one_and (dt_cmp (od_eq (hu64 hr)) (de_ix (hu1 hr) (de_ix (hu1 hr) (dv 18) (de_neg de_int)) de_int) (dv 11))))) (de_bin od_add (de_sl (dv 18) do_no (do_yes (de_neg de_int))) (de_lst (da_cons (de_tup (da_cons (dv 11) (da_cons (de_bin od_add (de_ix (hu1 hr) (de_ix (hu1 hr) (dv 18) (de_neg de_int)) de_int) de_int) da_nil))) da_nil))) (de_bin od_add (dv 18) (de_lst (da_cons (de_tup (da_cons (dv 11) (da_cons de_int da_nil))) da_nil)))))))
    (db_cons (ds_if (DW.dt (dw_or (dt_cmp (od_ne (hu64 hr)) (de_callT cd_list (by exact rfl) Z.b_list (by exact rfl) (da_cons (de_call (c_drawn_stripes Z) hr (by decide) (by exact rfl) (takes_cx (CX := L2.CX P w)) (da_cons (dv 14) (da_cons (dv 15) (da_cons (dv 16) da_nil)))) da_nil)) (de_bin od_mul (de_lst (da_cons (de_m PySem.F.plainAttrs_str PySem.F.slot_str_rstrip PySem.F.type_str_rstrip md_rstripC (dv 17) (da_cons (de_str [32]) da_nil)) da_nil)) (dv 16))) (dw_one_or (dt_cmp (od_ne (hu64 hr)) (de_call (c_read_drawn Z) hr (by decide) (by exact rfl) (takes_cx (CX := L2.CX P w)) (da_cons (dv 17) (da_cons (dv 15) da_nil))) (dv 14))))) (db_one (ds_ret de_bl)) db_nil)
    (db_cons (ds_if (DW.dt (dw_or (dt_cmp (od_ne (hu64 hr)) (de_call (c_runs_in_stripes Z) hr (by decide) (by exact rfl) (takes_cx (CX := L2.CX P w)) (da_cons (dv 14) da_nil)) (dv 18)) (dw_one_or (dt_cmp (od_ne (hu64 hr)) (de_call (c_dark_share Z) hr (by decide) (by exact rfl) (takes_cx (CX := L2.CX P w)) (da_cons (dv 14) da_nil)) (de_bin od_div (de_bin od_mul de_int (de_m PySem.F.plainAttrs_str PySem.F.slot_str_count PySem.F.type_str_count md_count (dv 14) (da_cons (de_str [49]) da_nil))) (de_callB cd_len (by exact rfl) Z.b_len (by exact rfl) (da_cons (dv 14) da_nil))))))) (db_one (ds_ret de_bl)) db_nil)
    (db_cons (spar 19 20 (by exact rfl) sc_law.nd (da_cons (de_callT cd_str (by exact rfl) Z.b_str (by exact rfl) (da_cons (de_call (c_x_law_roll Z) hr (by decide) (by exact rfl) (takes_cx (CX := L2.CX P w)) (da_cons (dv 1) (da_cons de_int da_nil))) da_nil)) (da_cons (de_ix (hu1 hr) (de_str [76, 82, 71]) (de_call (c_x_law_roll Z) hr (by decide) (by exact rfl) (takes_cx (CX := L2.CX P w)) (da_cons (dv 1) (da_cons de_int da_nil)))) da_nil)))
    (db_cons (sst 21 sc_law.nd (de_ix (hu1 hr) (de_gcon (by exact rfl) (by exact TCon.g Z.c_LEFT)) (de_callT cd_int (by exact rfl) Z.b_int (by exact rfl) (da_cons (dv 19) da_nil))))
    (db_cons (sst 22 sc_law.nd (de_m PySem.F.plainAttrs_str PySem.F.slot_str_join PySem.F.type_str_join md_join (de_str []) (da_cons (de_lc (by exact rfl) sc_law.nd (di_seq (dv 21)) (blkOk_by (own := [("one", 9)]) (by rfl)) ⟨fun _ _ _ _ _ => (xnm 9 sc_law.nd), fun _ _ _ _ _ => dts_nil, fun _ _ _ _ _ => (de_ix (hu1 hr) (de_str [49, 48]) (de_callT cd_int (by exact rfl) Z.b_int (by exact rfl) (da_cons (dv 9) da_nil)))⟩) da_nil)))
    (db_cons (sst 23 sc_law.nd (de_ix (hu1 hr) (de_dic (dps_cons (de_str [76]) (dv 21) (dps_cons (de_str [82]) (dv 22) (dps_cons (de_str [71]) (de_revX (dv 22)) dps_nil)))) (dv 20)))
    (db_cons (ds_if (DW.dt (dw_or (dt_cmp (od_ne (hu64 hr)) (de_call (c_figure_stripes Z) hr (by decide) (by exact rfl) (takes_cx (CX := L2.CX P w)) (da_cons (dv 19) (da_cons (dv 20) da_nil))) (dv 23)) (dw_one_or (dt_cmp (od_ne (hu64 hr)) (de_call (c_figure_in Z) hr (by decide) (by exact rfl) (takes_cx (CX := L2.CX P w)) (da_cons (dv 23) (da_cons (dv 20) da_nil))) (de_tup (da_cons (dv 19) (da_cons (dv 20) da_nil))))))) (db_one (ds_ret de_bl)) db_nil)
    (db_one (ds_if (dt_cmp (od_ne (hu64 hr)) (de_call (c_figure_in Z) hr (by decide) (by exact rfl) (takes_cx (CX := L2.CX P w)) (da_cons (de_str [49, 49, 49, 49, 49, 49, 49]) (da_cons (de_str [76, 82, 71]) da_nil))) (de_tup (da_cons (de_str []) (da_cons (de_str []) da_nil)))) (db_one (ds_ret de_bl)) db_nil)))))))))))))))))))))))))))))))
    (db_one (ds_ret (de_call0 (c_x_law_plain Z) hr (by decide) (by exact rfl) (takes_cx (CX := L2.CX P w))))))
theorem c_law (Z : Fx P w K mg base T) : Cal P w K mg base T 12 "law" g_law := cal_all Z.d_law Z.g_law sc_law (fun _ _ _ _ _ _ us hl => match us, hl with | [_], _ => rfl) (b_law Z)
end
end K19

set_option Elab.async false
set_option linter.all false
set_option maxRecDepth 100000
set_option maxHeartbeats 0
namespace K19
open PySem PySem.Spec PyProof.Rows L2 Sh
def dd_good_sign : He.DefD := ⟨("good_sign", none), "good_sign", "good_sign", defArgs (top 5), defBody (top 5), defScope (top 5), [], []⟩
def dd_figure_stripes : He.DefD := ⟨("figure_stripes", none), "figure_stripes", "figure_stripes", defArgs (top 10), defBody (top 10), defScope (top 10), [], []⟩
def dd_good_stripes : He.DefD := ⟨("good_stripes", none), "good_stripes", "good_stripes", defArgs (top 11), defBody (top 11), defScope (top 11), [], []⟩
def dd_figure_in : He.DefD := ⟨("figure_in", none), "figure_in", "figure_in", defArgs (top 14), defBody (top 14), defScope (top 14), [], []⟩
def dd_read_one_way : He.DefD := ⟨("read_one_way", none), "read_one_way", "read_one_way", defArgs (top 13), defBody (top 13), defScope (top 13), [], []⟩
def dd_read_good : He.DefD := ⟨("read_good", none), "read_good", "read_good", defArgs (top 12), defBody (top 12), defScope (top 12), [], []⟩
def dd_nine_stripes : He.DefD := ⟨("nine_stripes", none), "nine_stripes", "nine_stripes", defArgs (top 15), defBody (top 15), defScope (top 15), [], []⟩
def dd_runs_in_stripes : He.DefD := ⟨("runs_in_stripes", none), "runs_in_stripes", "runs_in_stripes", defArgs (top 18), defBody (top 18), defScope (top 18), [], []⟩
def dd_nines_one_way : He.DefD := ⟨("nines_one_way", none), "nines_one_way", "nines_one_way", defArgs (top 17), defBody (top 17), defScope (top 17), [], []⟩
def dd_read_nines : He.DefD := ⟨("read_nines", none), "read_nines", "read_nines", defArgs (top 16), defBody (top 16), defScope (top 16), [], []⟩
def dd_drawn_stripes : He.DefD := ⟨("drawn_stripes", none), "drawn_stripes", "drawn_stripes", defArgs (top 19), defBody (top 19), defScope (top 19), [], []⟩
def dd_read_drawn : He.DefD := ⟨("read_drawn", none), "read_drawn", "read_drawn", defArgs (top 20), defBody (top 20), defScope (top 20), [], []⟩
def dd_dark_share : He.DefD := ⟨("dark_share", none), "dark_share", "dark_share", defArgs (top 21), defBody (top 21), defScope (top 21), [], []⟩
def dd_with_spot : He.DefD := ⟨("with_spot", none), "with_spot", "with_spot", defArgs (top 22), defBody (top 22), defScope (top 22), [], []⟩
def dd_mended_good : He.DefD := ⟨("mended_good", none), "mended_good", "mended_good", defArgs (top 23), defBody (top 23), defScope (top 23), [], []⟩
def dd_x_law_dice : He.DefD := ⟨("_law_dice", none), "_law_dice", "_law_dice", defArgs (top 25), defBody (top 25), defScope (top 25), [], []⟩
def dd_x_law_roll : He.DefD := ⟨("_law_roll", none), "_law_roll", "_law_roll", defArgs (top 26), defBody (top 26), defScope (top 26), [], []⟩
def dd_x_law_rounds : He.DefD := ⟨("_law_rounds", none), "_law_rounds", "_law_rounds", defArgs (top 27), defBody (top 27), defScope (top 27), [], []⟩
def dd_x_law_good : He.DefD := ⟨("_law_good", none), "_law_good", "_law_good", defArgs (top 29), defBody (top 29), defScope (top 29), [], []⟩
def dd_x_law_nines : He.DefD := ⟨("_law_nines", none), "_law_nines", "_law_nines", defArgs (top 30), defBody (top 30), defScope (top 30), [], []⟩
def dd_x_law_plain : He.DefD := ⟨("_law_plain", none), "_law_plain", "_law_plain", defArgs (top 31), defBody (top 31), defScope (top 31), [], []⟩
def dd_law : He.DefD := ⟨("law", none), "law", "law", defArgs (top 32), defBody (top 32), defScope (top 32), [], []⟩
def dd_x_law_told : He.DefD := ⟨("_law_told", none), "_law_told", "_law_told", defArgs (top 28), defBody (top 28), defScope (top 28), [], []⟩
def fnL : List He.DefD := [dd_good_sign, dd_figure_stripes, dd_good_stripes, dd_figure_in, dd_read_one_way, dd_read_good, dd_nine_stripes, dd_runs_in_stripes, dd_nines_one_way, dd_read_nines, dd_drawn_stripes, dd_read_drawn, dd_dark_share, dd_with_spot, dd_mended_good, dd_x_law_dice, dd_x_law_roll, dd_x_law_rounds, dd_x_law_good, dd_x_law_nines, dd_x_law_plain, dd_law, dd_x_law_told]
def faL : List He.Fa := [.glo "good_sign", .glo "figure_stripes", .glo "good_stripes", .glo "figure_in", .glo "read_one_way", .glo "read_good", .glo "nine_stripes", .glo "runs_in_stripes", .glo "nines_one_way", .glo "read_nines", .glo "drawn_stripes", .glo "read_drawn", .glo "dark_share", .glo "with_spot", .glo "mended_good", .glo "_law_dice", .glo "_law_roll", .glo "_law_rounds", .glo "_law_good", .glo "_law_nines", .glo "_law_plain", .glo "law", .glo "_law_told", .free "abs", .free "any", .free "enumerate", .free "int", .free "len", .free "list", .free "min", .free "range", .free "sorted", .free "str", .free "sum", .free "tuple", .free "zip", .glo "BookError", .exc "BookError", .glo "StripeError", .exc "StripeError", .exm "StripeError" "StripeError" true, .glo "NINES", .glo "HEADS", .glo "LEFT"]
def tsL : List He.Tab := [(fun K => He.ga K "NINES", [("0" : Str), ("1" : Str), ("2" : Str), ("3" : Str), ("4" : Str), ("5" : Str), ("6" : Str), ("7" : Str), ("8" : Str), ("9" : Str), ("A" : Str), ("B" : Str), ("C" : Str), ("D" : Str), ("E" : Str), ("F" : Str), ("-" : Str), ("*" : Str)])]
def tfL : List He.Defn := [("good_sign", none), ("good_stripes", none), ("nine_stripes", none), ("nines_one_way", none), ("drawn_stripes", none), ("_law_plain", none), ("law", none)]
def exL (K : PySem.W.Frag) : Bool := decide ((tfL.map fun p => (He.cT K p).2).Nodup) && dcB K (He.ga K "NINES") tab_NINES && tupB K (He.ga K "HEADS") con_HEADS && tupB K (He.ga K "LEFT") con_LEFT
def TL (K : PySem.W.Frag) : Tb := [(tbA K "good_sign", (("good_sign" : Str) ++ ".<locals>." ++ "<genexpr>" : Str)), (tbA K "good_stripes", (("good_stripes" : Str) ++ ".<locals>." ++ "<genexpr>" : Str)), (tbA K "nine_stripes", (("nine_stripes" : Str) ++ ".<locals>." ++ "<genexpr>" : Str)), (tbA K "nines_one_way", (("nines_one_way" : Str) ++ ".<locals>." ++ "<genexpr>" : Str)), (tbA K "drawn_stripes", (("drawn_stripes" : Str) ++ ".<locals>." ++ "<genexpr>" : Str)), (tbA K "_law_plain", (("_law_plain" : Str) ++ ".<locals>." ++ "<lambda>" : Str)), (tbA K "law", (("law" : Str) ++ ".<locals>." ++ "<lambda>" : Str))]
theorem nd_map {α β : Type} {f : α → β} : ∀ {l : List α}, (l.map f).Nodup → ∀ p ∈ l, ∀ q ∈ l, f p = f q → p = q
  | [], _, p, hp, _, _, _ => by cases hp
  | a :: l, h, p, hp, q, hq, e => by
    rw [List.map_cons, List.nodup_cons] at h
    cases hp with
    | head =>
      cases hq with
      | head => rfl
      | tail _ hq => exact (h.1 (by rw [e]; exact List.mem_map_of_mem hq)).elim
    | tail _ hp =>
      cases hq with
      | head => exact (h.1 (by rw [← e]; exact List.mem_map_of_mem hp)).elim
      | tail _ hq => exact nd_map h.2 p hp q hq e
theorem fx_of {P : Program} {w : World} {K : PySem.W.Frag} {mg : Str → Option Value} {h base : Heap} (X : K.In base) (G : base.Ns mainGlobals mg) (c : He.SaysX faL fnL tsL tfL exL w h K) (TB : ∀ p ∈ tfL.map (He.cT K), LamX.TabB base mg p.1 p.2) : Fx P w K mg base (TL K) := by
  have h0 : exL K = true := c.more
  unfold exL at h0
  obtain ⟨h0, hxLEFT⟩ := and2 h0
  obtain ⟨h0, hxHEADS⟩ := and2 h0
  obtain ⟨h0, hxNINES⟩ := and2 h0
  have hnd : ((TL K).map Prod.fst).Nodup := of_decide_eq_true h0
  exact {
    d_good_sign := by exact c.t.d.def_ 0 (d := dd_good_sign) rfl
    g_good_sign := He.glo_ok X G (c.t.d.fact 0 (f := .glo "good_sign") rfl)
    d_figure_stripes := by exact c.t.d.def_ 1 (d := dd_figure_stripes) rfl
    g_figure_stripes := He.glo_ok X G (c.t.d.fact 1 (f := .glo "figure_stripes") rfl)
    d_good_stripes := by exact c.t.d.def_ 2 (d := dd_good_stripes) rfl
    g_good_stripes := He.glo_ok X G (c.t.d.fact 2 (f := .glo "good_stripes") rfl)
    d_figure_in := by exact c.t.d.def_ 3 (d := dd_figure_in) rfl
    g_figure_in := He.glo_ok X G (c.t.d.fact 3 (f := .glo "figure_in") rfl)
    d_read_one_way := by exact c.t.d.def_ 4 (d := dd_read_one_way) rfl
    g_read_one_way := He.glo_ok X G (c.t.d.fact 4 (f := .glo "read_one_way") rfl)
    d_read_good := by exact c.t.d.def_ 5 (d := dd_read_good) rfl
    g_read_good := He.glo_ok X G (c.t.d.fact 5 (f := .glo "read_good") rfl)
    d_nine_stripes := by exact c.t.d.def_ 6 (d := dd_nine_stripes) rfl
    g_nine_stripes := He.glo_ok X G (c.t.d.fact 6 (f := .glo "nine_stripes") rfl)
    d_runs_in_stripes := by exact c.t.d.def_ 7 (d := dd_runs_in_stripes) rfl
    g_runs_in_stripes := He.glo_ok X G (c.t.d.fact 7 (f := .glo "runs_in_stripes") rfl)
    d_nines_one_way := by exact c.t.d.def_ 8 (d := dd_nines_one_way) rfl
    g_nines_one_way := He.glo_ok X G (c.t.d.fact 8 (f := .glo "nines_one_way") rfl)
    d_read_nines := by exact c.t.d.def_ 9 (d := dd_read_nines) rfl
    g_read_nines := He.glo_ok X G (c.t.d.fact 9 (f := .glo "read_nines") rfl)
    d_drawn_stripes := by exact c.t.d.def_ 10 (d := dd_drawn_stripes) rfl
    g_drawn_stripes := He.glo_ok X G (c.t.d.fact 10 (f := .glo "drawn_stripes") rfl)
    d_read_drawn := by exact c.t.d.def_ 11 (d := dd_read_drawn) rfl
    g_read_drawn := He.glo_ok X G (c.t.d.fact 11 (f := .glo "read_drawn") rfl)
    d_dark_share := by exact c.t.d.def_ 12 (d := dd_dark_share) rfl
    g_dark_share := He.glo_ok X G (c.t.d.fact 12 (f := .glo "dark_share") rfl)
    d_with_spot := by exact c.t.d.def_ 13 (d := dd_with_spot) rfl
    g_with_spot := He.glo_ok X G (c.t.d.fact 13 (f := .glo "with_spot") rfl)
    d_mended_good := by exact c.t.d.def_ 14 (d := dd_mended_good) rfl
    g_mended_good := He.glo_ok X G (c.t.d.fact 14 (f := .glo "mended_good") rfl)
    d_x_law_dice := by exact c.t.d.def_ 15 (d := dd_x_law_dice) rfl
    g_x_law_dice := He.glo_ok X G (c.t.d.fact 15 (f := .glo "_law_dice") rfl)
    d_x_law_roll := by exact c.t.d.def_ 16 (d := dd_x_law_roll) rfl
    g_x_law_roll := He.glo_ok X G (c.t.d.fact 16 (f := .glo "_law_roll") rfl)
    d_x_law_rounds := by exact c.t.d.def_ 17 (d := dd_x_law_rounds) rfl
    g_x_law_rounds := He.glo_ok X G (c.t.d.fact 17 (f := .glo "_law_rounds") rfl)
    d_x_law_good := by exact c.t.d.def_ 18 (d := dd_x_law_good) rfl
    g_x_law_good := He.glo_ok X G (c.t.d.fact 18 (f := .glo "_law_good") rfl)
    d_x_law_nines := by exact c.t.d.def_ 19 (d := dd_x_law_nines) rfl
    g_x_law_nines := He.glo_ok X G (c.t.d.fact 19 (f := .glo "_law_nines") rfl)
    d_x_law_plain := by exact c.t.d.def_ 20 (d := dd_x_law_plain) rfl
    g_x_law_plain := He.glo_ok X G (c.t.d.fact 20 (f := .glo "_law_plain") rfl)
    d_law := by exact c.t.d.def_ 21 (d := dd_law) rfl
    g_law := He.glo_ok X G (c.t.d.fact 21 (f := .glo "law") rfl)
    b_abs := He.free_ok X G (c.t.d.fact 23 (f := .free "abs") rfl)
    b_any := He.free_ok X G (c.t.d.fact 24 (f := .free "any") rfl)
    b_enumerate := He.free_ok X G (c.t.d.fact 25 (f := .free "enumerate") rfl)
    b_int := He.free_ok X G (c.t.d.fact 26 (f := .free "int") rfl)
    b_len := He.free_ok X G (c.t.d.fact 27 (f := .free "len") rfl)
    b_list := He.free_ok X G (c.t.d.fact 28 (f := .free "list") rfl)
    b_min := He.free_ok X G (c.t.d.fact 29 (f := .free "min") rfl)
    b_range := He.free_ok X G (c.t.d.fact 30 (f := .free "range") rfl)
    b_sorted := He.free_ok X G (c.t.d.fact 31 (f := .free "sorted") rfl)
    b_str := He.free_ok X G (c.t.d.fact 32 (f := .free "str") rfl)
    b_sum := He.free_ok X G (c.t.d.fact 33 (f := .free "sum") rfl)
    b_tuple := He.free_ok X G (c.t.d.fact 34 (f := .free "tuple") rfl)
    b_zip := He.free_ok X G (c.t.d.fact 35 (f := .free "zip") rfl)
    x_BookError := have q := He.exc_ok (c.t.d.fact 37 (f := .exc "BookError") rfl); ⟨He.glo_ok X G (c.t.d.fact 36 (f := .glo "BookError") rfl), q.1, q.2.1, q.2.2.1, q.2.2.2⟩
    x_StripeError := have q := He.exc_ok (c.t.d.fact 39 (f := .exc "StripeError") rfl); ⟨He.glo_ok X G (c.t.d.fact 38 (f := .glo "StripeError") rfl), q.1, q.2.1, q.2.2.1, q.2.2.2⟩
    c_NINES := by obtain ⟨es, n, kd⟩ := c.t.tab 0 (t := tsL[0]) rfl; obtain ⟨vs, kt⟩ := ktab2_of (kvs := tab_NINES) kd (hxNINES) (by decide) (by decide); exact ⟨_, vs, He.glo_ok X G (c.t.d.fact 41 (f := .glo "NINES") rfl), kt⟩
    c_HEADS := ⟨_, He.glo_ok X G (c.t.d.fact 42 (f := .glo "HEADS") rfl), hxHEADS⟩
    c_LEFT := ⟨_, He.glo_ok X G (c.t.d.fact 43 (f := .glo "LEFT") rfl), hxLEFT⟩
    t_good_sign := have q := TB (He.cT K ("good_sign", none)) (List.mem_of_getElem? (i := 0) rfl); ⟨q.code, q.bm, q.gP⟩
    i_good_sign := List.mem_of_getElem? (i := 0) rfl
    t_good_stripes := have q := TB (He.cT K ("good_stripes", none)) (List.mem_of_getElem? (i := 1) rfl); ⟨q.code, q.bm, q.gP⟩
    i_good_stripes := List.mem_of_getElem? (i := 1) rfl
    t_nine_stripes := have q := TB (He.cT K ("nine_stripes", none)) (List.mem_of_getElem? (i := 2) rfl); ⟨q.code, q.bm, q.gP⟩
    i_nine_stripes := List.mem_of_getElem? (i := 2) rfl
    t_nines_one_way := have q := TB (He.cT K ("nines_one_way", none)) (List.mem_of_getElem? (i := 3) rfl); ⟨q.code, q.bm, q.gP⟩
    i_nines_one_way := List.mem_of_getElem? (i := 3) rfl
    t_drawn_stripes := have q := TB (He.cT K ("drawn_stripes", none)) (List.mem_of_getElem? (i := 4) rfl); ⟨q.code, q.bm, q.gP⟩
    i_drawn_stripes := List.mem_of_getElem? (i := 4) rfl
    t_x_law_plain := have q := TB (He.cT K ("_law_plain", none)) (List.mem_of_getElem? (i := 5) rfl); ⟨q.code, q.bm, q.gP⟩
    i_x_law_plain := List.mem_of_getElem? (i := 5) rfl
    t_law := have q := TB (He.cT K ("law", none)) (List.mem_of_getElem? (i := 6) rfl); ⟨q.code, q.bm, q.gP⟩
    i_law := List.mem_of_getElem? (i := 6) rfl
    told := by obtain ⟨fd, F⟩ := c.t.d.def_ 22 (d := dd_x_law_told) rfl; exact ⟨⟨He.ga K "_law_told", fd, _, _, _, _, _, _, _, _, _, He.glo_ok X G (c.t.d.fact 22 (f := .glo "_law_told") rfl), F.bindsN (fun _ _ _ _ _ _ us hl => match us, hl with | [_], _ => rfl), F⟩, rfl, He.glo_ok X G (c.t.d.fact 38 (f := .glo "StripeError") rfl), by decide, ⟨rfl, rfl, rfl, by decide +kernel, rfl, by decide +kernel, by decide +kernel⟩, .inl rfl⟩
    tcat := fun z hz => by cases List.mem_singleton.mp hz; exact He.exm_ok (c.t.d.fact 40 (f := .exm "StripeError" "StripeError" true) rfl)
    tu := fun p hp q hq e => congrArg Prod.snd (nd_map (f := Prod.fst) hnd p hp q hq e)
  }
theorem atS {w : World} {K : PySem.W.Frag} {mg : Str → Option Value} {h : Heap} (plain : ∀ ns : List Int, ns.length ≤ 63 → (∀ z ∈ ns, Builtin.Int.intBits z ≤ 1048576) → ∃ h', f_law [.fls (ns.map D.int)] [] = .ok (.bl true) h')
    (X : K.In h) (c : He.SaysX faL fnL tsL tfL exL w h K) : LamX.LawAtS PySem.Challenge.rw_idstack_k19_stripes_of_codes w K (L2.CX (PySem.Challenge.rw_idstack_k19_stripes_of_codes).prog w) 12 63 "script" mg (He.ga K "law") h := by
  obtain ⟨fd, F⟩ := c.t.d.def_ 21 (d := dd_law) rfl
  refine law_atS (cs := tfL.map (He.cT K)) (T := TL K) (m := m_law) F sc_law (fun _ _ _ _ _ _ us hl => match us, hl with | [_], _ => rfl) (fun p hp => ?_) (fun p hp => ?_) (fun p hp => ?_) (fun p hp => ?_) (fun base X G TB => b_law (fx_of X G c TB)) plain
  · obtain ⟨q, hq, rfl⟩ := List.mem_map.mp hp
    exact c.empty q hq
  · obtain ⟨q, hq, rfl⟩ := List.mem_map.mp hp
    exact c.out q hq
  · obtain ⟨q, hq, rfl⟩ := List.mem_map.mp hp
    exact PySem.W.codeHd_of_K X (c.hd q hq)
  · have e : (TL K).map Prod.fst = (tfL.map (He.cT K)).map Prod.snd := rfl
    have z : p.1 ∈ (tfL.map (He.cT K)).map Prod.snd := by rw [← e]; exact List.mem_map_of_mem hp
    obtain ⟨q, hq, e2⟩ := List.mem_map.mp z
    exact ⟨q.1, by rw [← e2]; exact hq⟩
abbrev R : PySem.W.OpenRow := PySem.W.OpenLaw.row PySem.Challenge.rw_idstack_k19_stripes_of_codes
abbrev hk : PySem.W.Hook := He.hookX 4 faL fnL tsL tfL exL
def ob (s : PySem.W.SharedT) : He.AlX := He.obsX 4 faL fnL tsL tfL exL (HandSHeadRun.getT s)
theorem ob_eq (s : PySem.W.SharedT) : ob s = hk.obs s.abs := He.obsX_eq (HandSHeadRun.getT_eq s)
def loose : List Str := ["IdFault", "BookError", "StripeError", "good_sign", "figure_stripes", "good_stripes", "read_good", "read_one_way", "figure_in", "nine_stripes", "read_nines", "nines_one_way", "runs_in_stripes", "drawn_stripes", "read_drawn", "dark_share", "with_spot", "mended_good", "_law_dice", "_law_roll", "_law_rounds", "_law_told", "_law_good", "_law_nines", "_law_plain", "LEFT", "HEADS", "NINES"]
theorem runf (w : World) : HandSHeadRun.RunEq R (PySem.W.view R.prog [32]) hk ob 4000 loose (w.withFollow "special-get-raises" false) := by
  intro os
  kernel_rfl
theorem runt (w : World) : HandSHeadRun.RunEq R (PySem.W.view R.prog [32]) hk ob 4000 loose (w.withFollow "special-get-raises" true) := by
  intro os
  kernel_rfl
theorem run (w : World) : HandSHeadRun.RunEq R (PySem.W.view R.prog [32]) hk ob 4000 loose w := PySem.W.byRow2 "special-get-raises" runf runt w
end K19
open PySem PySem.W PySem.Calls PyProof.Rows
theorem K19.holds (plain : ∀ ns : List Int, ns.length ≤ 63 → (∀ z ∈ ns, Builtin.Int.intBits z ≤ 1048576) → ∃ h', K19.f_law [.fls (ns.map Sh.D.int)] [] = .ok (.bl true) h') : PySem.Challenge.rw_idstack_k19_stripes_of_codes.Holds := by
  w_on; o_law
  refine HandSHeadRun.head_any (r := OpenLaw.row PySem.Challenge.rw_idstack_k19_stripes_of_codes) (q := view (OpenLaw.row PySem.Challenge.rw_idstack_k19_stripes_of_codes).prog [32]) (H := K19.hk) (ob := K19.ob) (M := 4000) (loose := K19.loose) (d := HandSHeadRun.topDef (OpenLaw.row PySem.Challenge.rw_idstack_k19_stripes_of_codes).prog 32) (kwd := []) K19.ob_eq
    (by kernel_rfl) (fun s => by kernel_rfl) K19.run (by kernel_rfl) (by kernel_rfl) (by kernel_rfl) (by rfl) (by first | assumption | decide +kernel) (by decide +kernel) ⟨rfl, rfl, rfl, rfl, rfl, by decide +kernel⟩ ?hw ?hc
  case hw => w_witness2
  case hc =>
    refine LamX.walk_ofTsE (l := PySem.Challenge.rw_idstack_k19_stripes_of_codes) (n := 63) (k := 12) (x := "script") (CX := fun w => L2.CX (PySem.Challenge.rw_idstack_k19_stripes_of_codes).prog w) rfl (by decide) (by kernel_rfl) ⟨rfl, by decide, by decide⟩ ?F (fun _ _ _ _ _ z => Sh.cx_none z)
    intro w mg fa h Y G hmg0
    obtain ⟨K, KX, c⟩ := Y
    have hmg : mg ("law" : PySem.Str) = some (.ref fa) := by
      have e : (HandSHeadRun.topDef (OpenLaw.row PySem.Challenge.rw_idstack_k19_stripes_of_codes).prog 32).name = ("law" : PySem.Str) := by kernel_rfl
      rw [← e]
      exact hmg0
    have e := hmg.symm.trans (He.glo_ok KX G (c.t.d.fact 21 (f := .glo "law") rfl))
    cases e
    exact ⟨K, KX, K19.atS plain KX c⟩


set_option Elab.async false
set_option linter.all false
set_option maxRecDepth 100000
set_option maxHeartbeats 4000000
namespace K19
open PySem PySem.Spec PyProof.Rows L2 Sh
/-- the dice -/
abbrev dice (G : LH) (a b c : Int) : LH := .lst [.int a, .int b, .int c] :: G
variable {G : LH}
theorem roll1 (r : Av → Ev) (a b c many : Int) (h0 : 0 < many) (h1 : many ≤ 100000000) : ∃ x a' b' c', fn 3 (m_x_law_roll r) [.obj 0, .int many] (dice G a b c) = .ok (.int x) (dice G a' b' c') ∧ 0 ≤ x ∧ x < many := by
  have hm : many.natAbs.log2 < 9000 := lg_ok (by omega)
  have h7 : Nat.log2 7 < 9000 := Nat.lt_trans (lg_lt (k := 3) (by decide) (by decide)) (by decide)
  by_cases e2 : c = 2
  · subst e2
    refine ⟨a % many, a / many, b, 2, ?_, Int.emod_nonneg _ (by omega), Int.emod_lt_of_pos _ h0⟩
    simp [m_x_law_roll, fn, cAll, sSeq, sIf, bOr, bAnd, bNot, bYes, bTest, eBin, eIx, eVar, eC, eUn, eIf, eChain, eSl, oNo, oYes, dSl, dEq, dNe, dGt, dLt, dLe, dGe, dNeg, eqB, dIx, atI, ixN, liftO, Res.bind, Res.st, SR.then, sAsg, sExpr, eCall, aCons, aNil, bRes, bInt, bLen, bMax, bMin, dMod, dAdd, dSub, dMul, dIAdd, dIMul, gNm, gSubH, setH, dDiv, sRet, sPar, sPar3, sAug, sRaise, sNil, eLst, eTup, seqH, eMt, tyD, mS0, mS1, h0, hm]
  · by_cases e1 : c = 1 ∧ 0 < a
    · obtain ⟨rfl, ha⟩ := e1
      refine ⟨a % many, a / many, b, 1, ?_, Int.emod_nonneg _ (by omega), Int.emod_lt_of_pos _ h0⟩
      simp [m_x_law_roll, fn, cAll, sSeq, sIf, bOr, bAnd, bNot, bYes, bTest, eBin, eIx, eVar, eC, eUn, eIf, eChain, eSl, oNo, oYes, dSl, dEq, dNe, dGt, dLt, dLe, dGe, dNeg, eqB, dIx, atI, ixN, liftO, Res.bind, Res.st, SR.then, sAsg, sExpr, eCall, aCons, aNil, bRes, bInt, bLen, bMax, bMin, dMod, dAdd, dSub, dMul, dIAdd, dIMul, gNm, gSubH, setH, dDiv, sRet, sPar, sPar3, sAug, sRaise, sNil, eLst, eTup, seqH, eMt, tyD, mS0, mS1, h0, hm, ha]
    · refine ⟨((a * 48271 + b * 69621 + 11) % 2147483647 / 7) % many, (a * 48271 + b * 69621 + 11) % 2147483647, b + 1, 0, ?_, Int.emod_nonneg _ (by omega), Int.emod_lt_of_pos _ h0⟩
      have m1 : mulOk a 48271 = true := mul_ok (.inr (by decide))
      have m2 : mulOk b 69621 = true := mul_ok (.inr (by decide))
      have hb : ¬ (100000000 < many) := by omega
      have e3 : c = 1 → ¬ (0 < a) := fun e z => e1 ⟨e, z⟩
      by_cases e4 : c = 1
      · subst e4
        have e5 := e3 rfl
        simp [m_x_law_roll, fn, cAll, sSeq, sIf, bOr, bAnd, bNot, bYes, bTest, eBin, eIx, eVar, eC, eUn, eIf, eChain, eSl, oNo, oYes, dSl, dEq, dNe, dGt, dLt, dLe, dGe, dNeg, eqB, dIx, atI, ixN, liftO, Res.bind, Res.st, SR.then, sAsg, sExpr, eCall, aCons, aNil, bRes, bInt, bLen, bMax, bMin, dMod, dAdd, dSub, dMul, dIAdd, dIMul, gNm, gSubH, setH, dDiv, sRet, sPar, sPar3, sAug, sRaise, sNil, eLst, eTup, seqH, eMt, tyD, mS0, mS1, h0, hm, m1, m2, hb, e5, h7]
      · simp [m_x_law_roll, fn, cAll, sSeq, sIf, bOr, bAnd, bNot, bYes, bTest, eBin, eIx, eVar, eC, eUn, eIf, eChain, eSl, oNo, oYes, dSl, dEq, dNe, dGt, dLt, dLe, dGe, dNeg, eqB, dIx, atI, ixN, liftO, Res.bind, Res.st, SR.then, sAsg, sExpr, eCall, aCons, aNil, bRes, bInt, bLen, bMax, bMin, dMod, dAdd, dSub, dMul, dIAdd, dIMul, gNm, gSubH, setH, dDiv, sRet, sPar, sPar3, sAug, sRaise, sNil, eLst, eTup, seqH, eMt, tyD, mS0, mS1, h0, hm, m1, m2, hb, e2, e4, h7]
theorem roll (a b c many : Int) (h0 : 0 < many) (h1 : many ≤ 100000000) : ∃ x a' b' c', g_x_law_roll [.obj 0, .int many] (dice G a b c) = .ok (.int x) (dice G a' b' c') ∧ 0 ≤ x ∧ x < many := by
  obtain ⟨x, a', b', c', e, r⟩ := roll1 (eCall (gr_x_law_roll 3)) a b c many h0 h1
  exact ⟨x, a', b', c', e, r⟩
theorem new_ok {ma : Av} {ρ : En} {h h1 : LH} {ds : List D} (ha : ma ρ h = .ok ds h1) (hf : fits ds.length = true) : eNew ma ρ h = .ok (.obj h1.length) (h1 ++ [.lst ds]) := by unfold eNew; rw [ha, ev_b1, if_pos hf]
theorem cut1 (d : D) (l : List D) : Sh.cutD (d :: l) none (some 1) = [d] := by
  unfold Sh.cutD
  rw [show HT.sIx (d :: l).length 0 none = 0 from rfl, show HT.sIx (d :: l).length (d :: l).length (some 1) = min 1 (d :: l).length from HT.sIx_nat _ _ 1]
  rw [List.length_cons, Nat.min_eq_left (by omega)]
  rfl
theorem dice_ok (x : Int) (h : LH) : ∃ a b c, g_x_law_dice [.int x] h = .ok (.obj h.length) (h ++ [.lst [.int a, .int b, .int c]]) := by
  by_cases e : -10 < x ∧ x < 10
  · refine ⟨if x < 0 then -x else x, 0, 2, fn_rt rfl ?_⟩
    have c : (eChain dLt dLt (eBin dSub (eC (.int 0)) (eC (.int 10))) (eVar 0) (eC (.int 10))) [some (.int x)] h = .ok (.bl true) h :=
      chain_ok (bin_ok rfl rfl ev_sub) (var_ok rfl) (by rw [ev_ltI, decide_eq_true (by omega)]) rfl (by rw [ev_ltI, decide_eq_true (by omega)])
    exact seq_rt (if_yes (test_ok c) rfl)
  · refine ⟨x, 1 + x % 1009, if decide ((10 : Int) ^ 18 ≤ x) then 1 else 0, fn_rt rfl ?_⟩
    have c : (eChain dLt dLt (eBin dSub (eC (.int 0)) (eC (.int 10))) (eVar 0) (eC (.int 10))) [some (.int x)] h = .ok (.bl false) h := by
      by_cases e1 : -10 < x
      · exact chain_ok (bin_ok rfl rfl ev_sub) (var_ok rfl) (by rw [ev_ltI, decide_eq_true (by omega)]) rfl (by rw [ev_ltI, decide_eq_false (by omega)])
      · have f : dLt (.int (0 - 10)) (.int x) = some (.bl false) := by rw [ev_ltI, decide_eq_false (by omega)]
        unfold eChain
        rw [bin_ok (a := eC (.int 0)) (b := eC (.int 10)) (z := .int (0 - 10)) rfl rfl ev_sub, ev_b1, var_ok (d := .int x) rfl, ev_b1, f]
    have a2 : (eBin dAdd (eC (.int 1)) (eBin dMod (eCall (bRes bInt) (aCons (eVar 0) aNil)) (eC (.int 1009)))) [some (.int x)] h = .ok (.int (1 + x % 1009)) h :=
      bin_ok rfl (bin_ok (call_ok (cons_ok (var_ok rfl) nil_ok) (res_ok ev_int)) rfl (ev_mod (by decide))) ev_addI
    have a3 : (eCall (bRes bInt) (aCons (eBin dGe (eVar 0) (eBin dPow (eC (.int 10)) (eC (.int 18)))) aNil)) [some (.int x)] h = .ok (.int (if decide ((10 : Int) ^ 18 ≤ x) then 1 else 0)) h :=
      call_ok (cons_ok (bin_ok (y := .int ((10 : Int) ^ 18)) (var_ok rfl) (by kernel_rfl) ev_geI) nil_ok) (res_ok ev_intB)
    exact seq_nx (if_no (test_ok c) rfl) (ret_ok (new_ok (cons_ok (var_ok rfl) (cons_ok a2 (cons_ok a3 nil_ok))) (Sh.fits_le (by simp only [List.length_cons, List.length_nil]; omega))))
theorem rounds_ok (ns : List Int) : ∃ a b c, g_x_law_rounds [.fls (ns.map D.int), .int 1] [] = .ok (.lst [.obj 0]) (dice [] a b c) := by
  cases ns with
  | nil =>
    obtain ⟨a, b, c, e⟩ := dice_ok 0 []
    refine ⟨a, b, c, fn_rt rfl ?_⟩
    exact seq_nx (asg_nm (d := .lst []) rfl) (seq_nx (ρ1 := [some (.fls []), some (.int 1), some (.lst [.int 0]), none]) (h1 := []) rfl (ret_ok (elc_of (ds := [.int 0]) (h1 := []) rfl (lc_cons (y := .obj 0) (ρ2 := [some (.fls []), some (.int 1), some (.lst [.int 0]), some (.int 0)]) rfl rfl (call_ok (cons_ok (var_ok rfl) nil_ok) e) rfl rfl))))
  | cons x r =>
    obtain ⟨a, b, c, e⟩ := dice_ok x []
    refine ⟨a, b, c, fn_rt rfl ?_⟩
    have s1 : eSl (eVar 0) oNo (oYes (eVar 1)) [some (.fls ((x :: r).map D.int)), some (.int 1), none, none] [] = .ok (.lst [.int x]) [] := by
      have d1 : dSl [] (.fls ((x :: r).map D.int)) none (some 1) = some (.lst [.int x]) := by
        show some (D.lst (Sh.cutD (D.int x :: r.map D.int) none (some 1))) = _
        rw [cut1]
      unfold eSl
      rw [var_ok (d := .fls ((x :: r).map D.int)) rfl, ev_b1]
      show (liftO [] (dSl [] (.fls ((x :: r).map D.int)) none (some 1))) = _
      rw [d1]
      rfl
    exact seq_nx (asg_nm s1) (seq_nx (ρ1 := [some (.fls ((x :: r).map D.int)), some (.int 1), some (.lst [.int x]), none]) (h1 := []) rfl (ret_ok (elc_of (ds := [.int x]) (h1 := []) rfl (lc_cons (y := .obj 0) (ρ2 := [some (.fls ((x :: r).map D.int)), some (.int 1), some (.lst [.int x]), some (.int x)]) rfl rfl (call_ok (cons_ok (var_ok rfl) nil_ok) e) rfl rfl))))
inductive All2 (P : D → D → Prop) : List D → List D → Prop where
  | nil : All2 P [] []
  | cons {x y xs ys} : P x y → All2 P xs ys → All2 P (x :: xs) (y :: ys)
theorem All2.len {P : D → D → Prop} {xs ys : List D} (h : All2 P xs ys) : ys.length = xs.length := by
  induction h with
  | nil => rfl
  | cons _ _ ih => simp [ih]
/-- a comprehension over the dice: each item by rolls -/
theorem lc_roll {vs : List Nat} {g : Gv} {me : Ev} {ρ : En} {P : D → D → Prop} : ∀ (ds : List D), (∀ d ∈ ds, ∀ a b c, ∃ ρ2 y a' b' c', g d (wipeD ρ vs) (dice G a b c) = some (ρ2, dice G a b c) ∧ me ρ2 (dice G a b c) = .ok y (dice G a' b' c') ∧ P d y) →
    ∀ (a b c : Int) (acc : List D), acc.length + ds.length ≤ 1000 → ∃ ys a' b' c', lcGo vs g bYes me ρ ds acc (dice G a b c) = .ok (.lst (acc ++ ys)) (dice G a' b' c') ∧ All2 P ds ys
  | [], _, a, b, c, acc, _ => ⟨[], a, b, c, by rw [List.append_nil]; rfl, .nil⟩
  | d :: ds, st, a, b, c, acc, hb => by
    have hb : acc.length + (ds.length + 1) ≤ 1000 := hb
    obtain ⟨ρ2, y, a1, b1, c1, e1, e2, p⟩ := st d (List.mem_cons_self ..) a b c
    obtain ⟨ys, a2, b2, c2, e3, q⟩ := lc_roll ds (fun x hx => st x (List.mem_cons_of_mem _ hx)) a1 b1 c1 (acc ++ [y]) (by rw [List.length_append]; simp only [List.length_cons, List.length_nil]; omega)
    exact ⟨y :: ys, a2, b2, c2, lc_cons e1 rfl e2 (Sh.fits_le (by omega)) (by rw [e3, List.append_assoc]; rfl), .cons p q⟩
/-- a roll of the name i, so many -/
theorem roll_call {ρ : En} {i : Nat} {e : Ev} {many a b c : Int} (hv : ρ[i]? = some (some (.obj 0))) (he : ∀ h, e ρ h = .ok (.int many) h) (h0 : 0 < many) (h1 : many ≤ 100000000) :
    ∃ x a' b' c', eCall g_x_law_roll (aCons (eVar i) (aCons e aNil)) ρ (dice G a b c) = .ok (.int x) (dice G a' b' c') ∧ 0 ≤ x ∧ x < many := by
  obtain ⟨x, a', b', c', r, q⟩ := roll a b c many h0 h1
  exact ⟨x, a', b', c', call_ok (cons_ok (var_ok hv) (cons_ok (he _) nil_ok)) r, q⟩
theorem roll_nat {ρ : En} {i : Nat} {e : Ev} {many : Nat} {a b c : Int} (hv : ρ[i]? = some (some (.obj 0))) (he : ∀ h, e ρ h = .ok (.int many) h) (h0 : 0 < many) (h1 : many ≤ 100000000) :
    ∃ (x : Nat) (a' b' c' : Int), eCall g_x_law_roll (aCons (eVar i) (aCons e aNil)) ρ (dice G a b c) = .ok (.int (x : Int)) (dice G a' b' c') ∧ x < many := by
  obtain ⟨x, a', b', c', r, q1, q2⟩ := roll_call (a := a) (b := b) (c := c) hv he (by omega) (by omega)
  exact ⟨x.toNat, a', b', c', by rw [r, Int.toNat_of_nonneg q1], by omega⟩
def IsDice (h : LH) : Prop := ∃ (G : LH) (a b c : Int), h = dice G a b c
theorem rollN (a b c : Int) {many : Int} (h0 : 0 < many) (h1 : many ≤ 100000000) : ∃ (x : Nat) (a' b' c' : Int), g_x_law_roll [.obj 0, .int many] (dice G a b c) = .ok (.int (x : Int)) (dice G a' b' c') ∧ (x : Int) < many := by
  obtain ⟨x, a', b', c', r, q1, q2⟩ := roll a b c many h0 h1
  exact ⟨x.toNat, a', b', c', by rw [r, Int.toNat_of_nonneg q1], by omega⟩
end K19

set_option Elab.async false
set_option linter.all false
set_option maxRecDepth 100000
set_option maxHeartbeats 4000000
namespace K19
open PySem PySem.Spec PyProof.Rows L2 Sh
local macro_rules | `(tactic| walk_at "len") => `(tactic| first | assumption | omega | (simp only [List.length_append, List.length_cons, List.length_nil, List.length_map, List.length_reverse, List.length_take, List.length_drop, List.length_dropLast, List.length_flatten, List.length_replicate, List.length_singleton]; omega) | (simp; omega) | decide)
local macro_rules | `(tactic| walk_at "op") => `(tactic| first
  | (with_reducible exact ev_addI) | (with_reducible apply addS; walk_at "len") | (with_reducible apply addL; walk_at "len")
  | (with_reducible exact ev_iaddI) | (with_reducible apply iaddS; walk_at "len")
  | (with_reducible exact ev_sub) | (with_reducible exact ev_neg)
  | (with_reducible exact ev_eqI) | (with_reducible exact ev_neI) | (with_reducible exact ev_eqS) | (with_reducible exact ev_neS) | (with_reducible exact ev_eqB) | (with_reducible exact ev_neB)
  | (with_reducible exact ev_ltI) | (with_reducible exact ev_leI) | (with_reducible exact ev_gtI) | (with_reducible exact ev_geI)
  | (with_reducible apply ev_modN; omega) | (with_reducible apply ev_mod; omega)
  | (with_reducible apply lenS; walk_at "len") | (with_reducible exact ev_lenL) | (with_reducible exact ev_lenT) | (with_reducible exact ev_lenF)
  | (with_reducible apply slS; walk_at "len") | (with_reducible exact slL)
  | (with_reducible apply revS; walk_at "len"))
local macro_rules | `(tactic| walk_at "val") => `(tactic| first | assumption | rfl | decide | simp [*])
local macro_rules | `(tactic| walk_at "ev") => `(tactic| first
  | (with_reducible assumption)
  | (with_reducible exact c_ok)
  | ((with_reducible apply var_ok); first | assumption | rfl)
  | (with_reducible exact nil_ok) | (with_reducible exact ono_ok)
  | ((with_reducible apply cons_ok); (walk_at "ev"); (walk_at "ev"))
  | ((with_reducible apply oyes_ok); (walk_at "ev"))
  | ((with_reducible apply bin_ok); (walk_at "ev"); (walk_at "ev"); (walk_at "op"))
  | ((with_reducible apply un_ok); (walk_at "ev"); (walk_at "op"))
  | ((with_reducible apply call_ok); (walk_at "ev"); (first | ((with_reducible apply res_ok); (walk_at "op")) | (walk_at "fn")))
  | ((with_reducible apply sl_ok); (walk_at "ev"); (walk_at "ev"); (walk_at "ev"); (walk_at "op"))
  | ((with_reducible apply revX_ok); (walk_at "ev"); (walk_at "op"))
  | ((with_reducible apply tup_ok); (walk_at "ev"); rfl)
  | ((with_reducible apply lst_ok); (walk_at "ev"); rfl)
  | ((with_reducible apply test_of); (walk_at "ev"); (walk_at "val"))
  | ((with_reducible apply or_nn); (walk_at "ev"); (walk_at "ev"))
  | ((with_reducible apply or_yes); (walk_at "ev"))
  | ((with_reducible apply and_yes); (walk_at "ev"); (walk_at "ev"))
  | ((with_reducible apply and_no); (walk_at "ev"))
  | ((with_reducible apply not_of); (walk_at "ev"); (walk_at "val"))
  | ((with_reducible apply eif_yes); (walk_at "ev"); (walk_at "ev"))
  | ((with_reducible apply eif_no); (walk_at "ev"); (walk_at "ev"))
  | ((with_reducible apply chain_ok); (walk_at "ev"); (walk_at "ev"); (walk_at "op"); (walk_at "ev"); (walk_at "op")))

/-- a text of figures -/
def tx (js : List Nat) : List Nat := js.map (48 + ·)
theorem tx_len (js : List Nat) : (tx js).length = js.length := List.length_map ..
theorem int1 {h : LH} : ∀ j : Nat, j < 10 → bInt [.str [48 + j]] h = some (.int (j : Int), h) := by
  intro j hj
  rcases (show j = 0 ∨ j = 1 ∨ j = 2 ∨ j = 3 ∨ j = 4 ∨ j = 5 ∨ j = 6 ∨ j = 7 ∨ j = 8 ∨ j = 9 by omega) with rfl | rfl | rfl | rfl | rfl | rfl | rfl | rfl | rfl | rfl <;> kernel_rfl
theorem str1 {h : LH} : ∀ j : Nat, j < 10 → bStr [.int (j : Int)] h = some (.str [48 + j], h) := by
  intro j hj
  rcases (show j = 0 ∨ j = 1 ∨ j = 2 ∨ j = 3 ∨ j = 4 ∨ j = 5 ∨ j = 6 ∨ j = 7 ∨ j = 8 ∨ j = 9 by omega) with rfl | rfl | rfl | rfl | rfl | rfl | rfl | rfl | rfl | rfl <;> kernel_rfl
def wt (k : Nat) : Int := if k % 2 = 0 then 3 else 1
def ckS (js : List Nat) : Int := (js.reverse.zipIdx.map fun p => (p.1 : Int) * wt p.2).sum
/-- the check figure -/
def ck (js : List Nat) : Nat := ((10 - ckS js % 10) % 10).toNat
theorem ck_lt (js : List Nat) : ck js < 10 := by unfold ck; omega
abbrev digs : List Nat := [48, 49, 50, 51, 52, 53, 54, 55, 56, 57]
theorem notin_dig {c : Nat} : dNotIn (.str [c]) (.str digs) = some (.bl (!decide (c ∈ digs))) := by
  unfold dNotIn inB
  simp only [inStr_one, Option.map_some]
theorem dig_in {j : Nat} (h : j < 10) : decide (48 + j ∈ digs) = true := decide_eq_true (by simp only [List.mem_cons]; omega)
theorem good_sign_eq {js : List Nat} (hj : ∀ j ∈ js, j < 10) (h0 : js ≠ []) (hl : js.length ≤ 100) (h : LH) : g_good_sign [.str (tx js)] h = .ok (.str [48 + ck js]) h := by
  have hl' : (tx js).length ≤ 100 := by rw [tx_len]; exact hl
  refine fn_rt rfl ?_
  show m_good_sign [some (.str (tx js)), none, none, none] h = _
  have t1 : ((tx js : List Nat) == []) = false := by
    cases js with
    | nil => exact absurd rfl h0
    | cons a r => rfl
  have t2 : eGx tAnyR (iSeq (eVar 0)) [1] (gNm 1) bYes (eBin dNotIn (eVar 1) (eC (.str digs))) [some (.str (tx js)), none, none, none] h = .ok (.bl false) h := by
    refine gx_of (seq_ofS (var_ok rfl)) ?_
    rw [gx_any (h := h) (fun c => D.str [c]) (fun c => !decide (c ∈ digs)) (tx js) fun c hc => ⟨_, rfl, bin_ok (var_ok rfl) c_ok notin_dig⟩]
    have e : ((tx js).any fun c => !decide (c ∈ digs)) = false := by
      rw [List.any_eq_false]
      intro c hc
      obtain ⟨j, h1, rfl⟩ := List.mem_map.mp hc
      rw [dig_in (hj j h1)]; simp
    rw [e]
  refine seq_nx (if_no (by walk_at "ev") rfl) ?_
  have er : (tx js).reverse.zipIdx = js.reverse.zipIdx.map fun p => (48 + p.1, p.2) := by
    unfold tx
    rw [← List.map_reverse]
    apply List.ext_getElem?
    intro n
    simp only [List.getElem?_zipIdx, List.getElem?_map]
    cases js.reverse[n]? <;> rfl
  have t3 : eGx tSumR (iEnumS (aCons (eRevX (eVar 0)) aNil)) [3, 1] (gTp 2 (gCns (gNm 3) (gCns (gNm 1) gNils))) bYes (eBin dMul (eCall (bRes bInt) (aCons (eVar 1) aNil)) (eIf (bTest (eBin dEq (eBin dMod (eVar 3) (eC (.int 2))) (eC (.int 0)))) (eC (.int 3)) (eC (.int 1)))) [some (.str (tx js)), none, none, none] h = .ok (.int (ckS js)) h := by
    refine gx_of (enumS_ok (by walk_at "ev")) ?_
    rw [er, List.map_map]
    refine gx_sumR _ (fun p : Nat × Nat => (p.1 : Int) * wt p.2) _ fun p hp => ?_
    have hp1 : p.1 < 10 := hj _ (List.mem_reverse.mp (List.fst_mem_of_mem_zipIdx hp))
    refine ⟨_, rfl, bin_ok (call_ok (cons_ok (var_ok rfl) nil_ok) (res_ok (int1 _ hp1))) (y := .int (wt p.2)) ?_ ?_⟩
    · unfold wt
      by_cases e : p.2 % 2 = 0
      · rw [if_pos e]
        refine eif_yes (test_of (bin_ok (bin_ok (var_ok rfl) c_ok (ev_modN (b := 2) (by decide))) c_ok ev_eqI) ?_) c_ok
        rw [e]; rfl
      · rw [if_neg e]
        refine eif_no (test_of (bin_ok (bin_ok (var_ok rfl) c_ok (ev_modN (b := 2) (by decide))) c_ok ev_eqI) ?_) c_ok
        simp; omega
    · rw [ev_mulI, mul_ok (.inl (by omega))]; rfl
  refine seq_nx (asg_nm t3) ?_
  refine ret_ok (call_ok (cons_ok (bin_ok (bin_ok c_ok (bin_ok (var_ok rfl) c_ok (ev_mod (by decide))) ev_sub) c_ok (ev_mod (by decide))) nil_ok) (res_ok ?_))
  have e : (10 - ckS js % 10) % 10 = ((ck js : Nat) : Int) := by unfold ck; omega
  rw [e]
  exact str1 _ (ck_lt js)
end K19

set_option Elab.async false
set_option linter.all false
set_option maxRecDepth 100000
set_option maxHeartbeats 4000000
namespace K19
open PySem PySem.Spec PyProof.Rows L2 Sh
local macro_rules | `(tactic| walk_at "len") => `(tactic| first | assumption | omega | (simp only [List.length_append, List.length_cons, List.length_nil, List.length_map, List.length_reverse, List.length_take, List.length_drop, List.length_dropLast, List.length_flatten, List.length_replicate, List.length_singleton]; omega) | (simp; omega) | decide)
local macro_rules | `(tactic| walk_at "op") => `(tactic| first
  | (with_reducible exact ev_addI) | (with_reducible apply addS; walk_at "len") | (with_reducible apply addL; walk_at "len")
  | (with_reducible exact ev_iaddI) | (with_reducible apply iaddS; walk_at "len")
  | (with_reducible exact ev_sub) | (with_reducible exact ev_neg)
  | (with_reducible exact ev_eqI) | (with_reducible exact ev_neI) | (with_reducible exact ev_eqS) | (with_reducible exact ev_neS) | (with_reducible exact ev_eqB) | (with_reducible exact ev_neB)
  | (with_reducible exact ev_ltI) | (with_reducible exact ev_leI) | (with_reducible exact ev_gtI) | (with_reducible exact ev_geI)
  | (with_reducible apply ev_modN; omega) | (with_reducible apply ev_mod; omega)
  | (with_reducible apply lenS; walk_at "len") | (with_reducible exact ev_lenL) | (with_reducible exact ev_lenT) | (with_reducible exact ev_lenF)
  | (with_reducible apply slS; walk_at "len") | (with_reducible exact slL)
  | (with_reducible apply revS; walk_at "len"))
local macro_rules | `(tactic| walk_at "val") => `(tactic| first | assumption | rfl | decide | simp [*])
local macro_rules | `(tactic| walk_at "ev") => `(tactic| first
  | (with_reducible assumption)
  | (with_reducible exact c_ok)
  | ((with_reducible apply var_ok); first | assumption | rfl)
  | (with_reducible exact nil_ok) | (with_reducible exact ono_ok)
  | ((with_reducible apply cons_ok); (walk_at "ev"); (walk_at "ev"))
  | ((with_reducible apply oyes_ok); (walk_at "ev"))
  | ((with_reducible apply bin_ok); (walk_at "ev"); (walk_at "ev"); (walk_at "op"))
  | ((with_reducible apply un_ok); (walk_at "ev"); (walk_at "op"))
  | ((with_reducible apply call_ok); (walk_at "ev"); (first | ((with_reducible apply res_ok); (walk_at "op")) | (walk_at "fn")))
  | ((with_reducible apply sl_ok); (walk_at "ev"); (walk_at "ev"); (walk_at "ev"); (walk_at "op"))
  | ((with_reducible apply revX_ok); (walk_at "ev"); (walk_at "op"))
  | ((with_reducible apply tup_ok); (walk_at "ev"); rfl)
  | ((with_reducible apply lst_ok); (walk_at "ev"); rfl)
  | ((with_reducible apply test_of); (walk_at "ev"); (walk_at "val"))
  | ((with_reducible apply or_nn); (walk_at "ev"); (walk_at "ev"))
  | ((with_reducible apply or_yes); (walk_at "ev"))
  | ((with_reducible apply and_yes); (walk_at "ev"); (walk_at "ev"))
  | ((with_reducible apply and_no); (walk_at "ev"))
  | ((with_reducible apply not_of); (walk_at "ev"); (walk_at "val"))
  | ((with_reducible apply eif_yes); (walk_at "ev"); (walk_at "ev"))
  | ((with_reducible apply eif_no); (walk_at "ev"); (walk_at "ev"))
  | ((with_reducible apply chain_ok); (walk_at "ev"); (walk_at "ev"); (walk_at "op"); (walk_at "ev"); (walk_at "op")))

theorem eif_b {t : Bv} {a b : Ev} {ρ : En} {h : LH} {k : Bool} {x y : D} (ht : t ρ h = .ok k h) (ha : k = true → a ρ h = .ok x h) (hb : k = false → b ρ h = .ok y h) : eIf t a b ρ h = .ok (if k = true then x else y) h := by
  cases k with
  | true => exact eif_yes ht (ha rfl)
  | false => exact eif_no ht (hb rfl)
def lefts : List (List Nat) := con_LEFTl.map fun d => match d with
  | .str s => s
  | _ => []
theorem lefts_eq : con_LEFTl = lefts.map .str := rfl
def heads : List (List Nat) := con_HEADSl.map fun d => match d with
  | .str s => s
  | _ => []
theorem heads_eq : con_HEADSl = heads.map .str := rfl
theorem all_flat (l : List (List Nat)) : (l.map D.str).all flatB' = true := by
  induction l with
  | nil => rfl
  | cons a r ih => rw [List.map_cons, List.all_cons, ih]; rfl
theorem any_eq (x : List Nat) (l : List (List Nat)) : ((l.map D.str).any fun y => eqF y (.str x)) = l.any (· == x) := by
  induction l with
  | nil => rfl
  | cons a r ih => rw [List.map_cons, List.any_cons, ih, List.any_cons]; rfl
theorem inTup (x : List Nat) (l : List (List Nat)) : inB (.str x) (.tup (l.map .str)) = some (l.any (· == x)) := by
  show (if flatB' (.str x) && (l.map D.str).all flatB' then some ((l.map D.str).any fun y => eqF y (.str x)) else none) = _
  rw [all_flat, any_eq]; rfl
theorem inLst (x : List Nat) (l : List (List Nat)) : inB (.str x) (.lst (l.map .str)) = some (l.any (· == x)) := by
  show (if flatB' (.str x) && (l.map D.str).all flatB' then some ((l.map D.str).any fun y => eqF y (.str x)) else none) = _
  rw [all_flat, any_eq]; rfl
theorem idx_any (x : List Nat) : ∀ (l : List (List Nat)) (k : Nat), (idxN x l k).isSome = l.any (· == x)
  | [], _ => rfl
  | y :: r, k => by
    unfold idxN
    rw [List.any_cons]
    by_cases h : y = x
    · rw [if_pos h, beq_iff_eq.mpr h]; rfl
    · rw [if_neg h, beq_eq_false_iff_ne.mpr h, Bool.false_or]
      exact idx_any x r (k + 1)
/-- light and dark changed -/
def fl1 (c : Nat) : Nat := if c = 48 then 49 else 48
def flp (b : List Nat) : List Nat := b.map fl1
theorem flp_len (b : List Nat) : (flp b).length = b.length := List.length_map ..
abbrev eFlp (i j : Nat) : Ev := eMt "str" (mJoin) (eC (.str [])) (aCons (eLc (iSeq (eVar i)) [j] (gNm j) bYes (eIf (bTest (eBin dEq (eVar j) (eC (.str [48])))) (eC (.str [49])) (eC (.str [48])))) aNil)
theorem flat_one (s : List Nat) (f : Nat → Nat) : (s.map fun c => [f c]).flatten = s.map f := by
  induction s with
  | nil => rfl
  | cons a r ih => rw [List.map_cons, List.flatten_cons, ih]; rfl
theorem sum_one (s : List Nat) (f : Nat → Nat) : ((s.map fun c => [f c]).map List.length).sum = s.length := by
  induction s with
  | nil => rfl
  | cons a r ih => rw [List.map_cons, List.map_cons, List.sum_cons, ih, List.length_cons]; simp; omega
theorem flp_ok {i j : Nat} {ρ : En} {h : LH} {s : List Nat} (hv : ρ[i]? = some (some (.str s))) (hj : j < ρ.length) (hl : s.length ≤ 1000) : eFlp i j ρ h = .ok (.str (flp s)) h := by
  have e : eLc (iSeq (eVar i)) [j] (gNm j) bYes (eIf (bTest (eBin dEq (eVar j) (eC (.str [48])))) (eC (.str [49])) (eC (.str [48]))) ρ h = .ok (.lst ((s.map fun c => [fl1 c]).map .str)) h := by
    refine elc_of (seq_ofS (var_ok hv)) ?_
    rw [lc_map (h := h) (fun c => D.str [c]) (fun c => D.str [fl1 c]) s [] (fun c hc => ⟨_, rfl, ?_⟩) (by rw [List.length_nil]; omega)]
    · rw [List.nil_append, List.map_map]; rfl
    · have hw : ((wipeD ρ [j]).set j (some (.str [c])))[j]? = some (some (.str [c])) := by
        rw [List.getElem?_set_self (by show j < (ρ.set j none).length; rw [List.length_set]; exact hj)]
      have q := eif_b (t := bTest (eBin dEq (eVar j) (eC (.str [48])))) (a := eC (.str [49])) (b := eC (.str [48])) (ρ := (wipeD ρ [j]).set j (some (.str [c]))) (h := h) (test_ok (bin_ok (var_ok hw) c_ok ev_eqS)) (fun _ => c_ok) (fun _ => c_ok)
      refine q.trans ?_
      unfold fl1
      by_cases h : c = 48
      · subst h; rfl
      · rw [if_neg h]
        have e : (([c] : List Nat) == [48]) = false := by
          rw [beq_eq_false_iff_ne]; intro z; exact h (List.cons.inj z).1
        rw [e]; rfl
  have q := join_ok (mo := eC (.str [])) (ma := aCons (eLc (iSeq (eVar i)) [j] (gNm j) bYes (eIf (bTest (eBin dEq (eVar j) (eC (.str [48])))) (eC (.str [49])) (eC (.str [48])))) aNil) (ρ := ρ) (h := h) c_ok (cons_ok e nil_ok) rfl (strs_map _) (by rw [sum_one]; simp; omega)
  rw [Sh.join_nil, flat_one] at q
  exact q
/-! ### stripes of figures -/
def blk (k d : Nat) : List Nat := if k = 76 then lefts.getD d [] else if k = 82 then flp (lefts.getD d []) else (flp (lefts.getD d [])).reverse
theorem figure_stripes_eq {k d : Nat} (hd : d < 10) (hk : k = 76 ∨ k = 82 ∨ k = 71) (h : LH) : g_figure_stripes [.str [48 + d], .str [k]] h = .ok (.str (blk k d)) h := by
  rcases hk with rfl | rfl | rfl <;>
  rcases (show d = 0 ∨ d = 1 ∨ d = 2 ∨ d = 3 ∨ d = 4 ∨ d = 5 ∨ d = 6 ∨ d = 7 ∨ d = 8 ∨ d = 9 by omega) with rfl | rfl | rfl | rfl | rfl | rfl | rfl | rfl | rfl | rfl <;> kernel_rfl
/-! ### a figure found -/
def hr (k : Nat) (b : List Nat) : List Nat := if k = 71 then b.reverse else b
def lf (k : Nat) (b : List Nat) : List Nat := if k = 76 then hr k b else flp (hr k b)
def fiF (b : List Nat) (k : Nat) : Option (List Nat × List Nat) := (idxN (lf k b) lefts 0).map fun j => ([48 + j], [k])
def fi (ks b : List Nat) : List Nat × List Nat := (ks.findSome? (fiF b)).getD ([], [])
theorem idx_lt {x : List Nat} : ∀ {l : List (List Nat)} {k j : Nat}, idxN x l k = some j → j < k + l.length
  | y :: r, k, j, e => by
    unfold idxN at e
    split at e
    · cases e; rw [List.length_cons]; omega
    · have := idx_lt e; rw [List.length_cons]; omega
theorem hr_len (k : Nat) (b : List Nat) : (hr k b).length = b.length := by unfold hr; split <;> simp
theorem one_beq (k c : Nat) : (([k] : List Nat) == [c]) = decide (k = c) := by
  by_cases h : k = c
  · subst h; rw [beq_self_eq_true, decide_eq_true rfl]
  · rw [decide_eq_false h, beq_eq_false_iff_ne]; intro z; exact h (List.cons.inj z).1
abbrev PFi (b : List Nat) (ρ : En) : Prop := ∃ x1 x2 x3 x4 x5, ρ = [some (.str b), x1, x2, x3, x4, x5]
theorem findS_map {α β γ : Type} (f : α → Option β) (g : β → γ) : ∀ l : List α, l.findSome? (fun k => (f k).map g) = (l.findSome? f).map g
  | [] => rfl
  | k :: r => by
    rw [List.findSome?_cons, List.findSome?_cons]
    cases f k with
    | none => exact findS_map f g r
    | some v => rfl
def dPr (p : List Nat × List Nat) : D := .tup [.str p.1, .str p.2]
theorem figure_in_eq {ks b : List Nat} (hl : b.length ≤ 1000) (h : LH) : g_figure_in [.str b, .str ks] h = .ok (dPr (fi ks b)) h := by
  refine fn_rt rfl ?_
  show m_figure_in [some (.str b), some (.str ks), none, none, none, none] h = _
  have q := for_rt (h := h) (g := gNm 2) (m := (sSeq (sAsg (eIf (bTest (eBin dEq (eVar 2) (eC (.str [71])))) (eRevX (eVar 0)) (eVar 0)) (gNm 3)) (sSeq (sAsg (eIf (bTest (eBin dEq (eVar 2) (eC (.str [76])))) (eVar 3) (eFlp 3 5)) (gNm 4)) (sIf (bTest (eBin dIn (eVar 4) (eC con_LEFT))) (sRet (eTup (aCons (eCall (bRes bStr) (aCons (eTIdx con_LEFTl (eVar 4)) aNil)) (aCons (eVar 2) aNil)))) sNil))))
    (fun c : Nat => D.str [c]) ks (PFi b) (fun k => (fiF b k).map dPr) (fun k hk ρ ⟨x1, x2, x3, x4, x5, eρ⟩ => by
      subst eρ
      refine ⟨_, rfl, ?_⟩
      show (match (fiF b k).map dPr with
        | some d => (_ : Sv) [some (.str b), x1, some (.str [k]), x3, x4, x5] h = .rt d h
        | none => ∃ ρ2, (_ : Sv) [some (.str b), x1, some (.str [k]), x3, x4, x5] h = .nx ρ2 h ∧ PFi b ρ2)
      have s1 : eIf (bTest (eBin dEq (eVar 2) (eC (.str [71])))) (eRevX (eVar 0)) (eVar 0) [some (.str b), x1, some (.str [k]), x3, x4, x5] h = .ok (.str (hr k b)) h := by
        have z := eif_b (t := bTest (eBin dEq (eVar 2) (eC (.str [71])))) (a := eRevX (eVar 0)) (b := eVar 0) (ρ := [some (.str b), x1, some (.str [k]), x3, x4, x5]) (h := h) (k := decide (k = 71)) (test_of (bin_ok (var_ok rfl) c_ok ev_eqS) (one_beq k 71)) (fun _ => revX_ok (var_ok rfl) (revS (by omega))) (fun _ => var_ok rfl)
        rw [z]; unfold hr
        by_cases e : k = 71
        · rw [if_pos e, decide_eq_true e]; rfl
        · rw [if_neg e, decide_eq_false e]; rfl
      have s2 : eIf (bTest (eBin dEq (eVar 2) (eC (.str [76])))) (eVar 3) (eFlp 3 5) [some (.str b), x1, some (.str [k]), some (.str (hr k b)), x4, x5] h = .ok (.str (lf k b)) h := by
        have z := eif_b (t := bTest (eBin dEq (eVar 2) (eC (.str [76])))) (a := eVar 3) (b := eFlp 3 5) (ρ := [some (.str b), x1, some (.str [k]), some (.str (hr k b)), x4, x5]) (h := h) (k := decide (k = 76)) (test_of (bin_ok (var_ok rfl) c_ok ev_eqS) (one_beq k 76)) (fun _ => var_ok rfl) (fun _ => flp_ok rfl (by simp) (by rw [hr_len]; exact hl))
        rw [z]; unfold lf
        by_cases e : k = 76
        · rw [if_pos e, decide_eq_true e]; rfl
        · rw [if_neg e, decide_eq_false e]; rfl
      have s3 : bTest (eBin dIn (eVar 4) (eC con_LEFT)) [some (.str b), x1, some (.str [k]), some (.str (hr k b)), some (.str (lf k b)), x5] h = .ok ((idxN (lf k b) lefts 0).isSome) h := by
        refine test_of (bin_ok (var_ok rfl) c_ok (z := .bl (lefts.any (· == lf k b))) ?_) (idx_any _ _ _).symm
        show (inB _ (.tup con_LEFTl)).map D.bl = _
        rw [lefts_eq, inTup]; rfl
      unfold fiF
      cases ei : idxN (lf k b) lefts 0 with
      | none =>
        rw [ei] at s3
        exact ⟨_, seq_nx (asg_nm s1) (seq_nx (asg_nm s2) (if_no s3 rfl)), _, _, _, _, _, rfl⟩
      | some j =>
        rw [ei] at s3
        have hj : j < 10 := by have := idx_lt ei; have e10 : lefts.length = 10 := rfl; omega
        exact seq_nx (asg_nm s1) (seq_nx (asg_nm s2) (if_yes s3 (ret_ok (tup_ok (cons_ok (call_ok (cons_ok (tidx_ok (var_ok rfl) (by rw [lefts_eq]; exact strsD_map _) ei) nil_ok) (res_ok (str1 _ hj))) (cons_ok (var_ok rfl) nil_ok)) rfl)))))
    [some (.str b), some (.str ks), none, none, none, none] ⟨_, _, _, _, _, rfl⟩
  unfold fi
  have eq := findS_map (fiF b) dPr ks
  rw [eq] at q
  cases ef : ks.findSome? (fiF b) with
  | some p =>
    rw [ef] at q
    exact seq_rt (for_of (seq_ofS (var_ok rfl)) q)
  | none =>
    rw [ef] at q
    obtain ⟨ρ2, q1, _⟩ := q
    exact seq_nx (for_of (seq_ofS (var_ok rfl)) q1) (ret_ok (tup_ok (cons_ok c_ok (cons_ok c_ok nil_ok)) rfl))
end K19

set_option Elab.async false
set_option linter.all false
set_option maxRecDepth 100000
set_option maxHeartbeats 4000000
namespace K19
open PySem PySem.Spec PyProof.Rows L2 Sh
local macro_rules | `(tactic| walk_at "len") => `(tactic| first | assumption | omega | (simp only [List.length_append, List.length_cons, List.length_nil, List.length_map, List.length_reverse, List.length_take, List.length_drop, List.length_dropLast, List.length_flatten, List.length_replicate, List.length_singleton]; omega) | (simp; omega) | decide)
local macro_rules | `(tactic| walk_at "op") => `(tactic| first
  | (with_reducible exact ev_addI) | (with_reducible apply addS; walk_at "len") | (with_reducible apply addL; walk_at "len")
  | (with_reducible exact ev_iaddI) | (with_reducible apply iaddS; walk_at "len")
  | (with_reducible exact ev_sub) | (with_reducible exact ev_neg)
  | (with_reducible exact ev_eqI) | (with_reducible exact ev_neI) | (with_reducible exact ev_eqS) | (with_reducible exact ev_neS) | (with_reducible exact ev_eqB) | (with_reducible exact ev_neB)
  | (with_reducible exact ev_ltI) | (with_reducible exact ev_leI) | (with_reducible exact ev_gtI) | (with_reducible exact ev_geI)
  | (with_reducible apply ev_modN; omega) | (with_reducible apply ev_mod; omega)
  | (with_reducible apply lenS; walk_at "len") | (with_reducible exact ev_lenL) | (with_reducible exact ev_lenT) | (with_reducible exact ev_lenF)
  | (with_reducible apply slS; walk_at "len") | (with_reducible exact slL)
  | (with_reducible apply revS; walk_at "len"))
local macro_rules | `(tactic| walk_at "val") => `(tactic| first | assumption | rfl | decide | simp [*])
local macro_rules | `(tactic| walk_at "ev") => `(tactic| first
  | (with_reducible assumption)
  | (with_reducible exact c_ok)
  | ((with_reducible apply var_ok); first | assumption | rfl)
  | (with_reducible exact nil_ok) | (with_reducible exact ono_ok)
  | ((with_reducible apply cons_ok); (walk_at "ev"); (walk_at "ev"))
  | ((with_reducible apply oyes_ok); (walk_at "ev"))
  | ((with_reducible apply bin_ok); (walk_at "ev"); (walk_at "ev"); (walk_at "op"))
  | ((with_reducible apply un_ok); (walk_at "ev"); (walk_at "op"))
  | ((with_reducible apply call_ok); (walk_at "ev"); (first | ((with_reducible apply res_ok); (walk_at "op")) | (walk_at "fn")))
  | ((with_reducible apply sl_ok); (walk_at "ev"); (walk_at "ev"); (walk_at "ev"); (walk_at "op"))
  | ((with_reducible apply revX_ok); (walk_at "ev"); (walk_at "op"))
  | ((with_reducible apply tup_ok); (walk_at "ev"); rfl)
  | ((with_reducible apply lst_ok); (walk_at "ev"); rfl)
  | ((with_reducible apply test_of); (walk_at "ev"); (walk_at "val"))
  | ((with_reducible apply or_nn); (walk_at "ev"); (walk_at "ev"))
  | ((with_reducible apply or_yes); (walk_at "ev"))
  | ((with_reducible apply and_yes); (walk_at "ev"); (walk_at "ev"))
  | ((with_reducible apply and_no); (walk_at "ev"))
  | ((with_reducible apply not_of); (walk_at "ev"); (walk_at "val"))
  | ((with_reducible apply eif_yes); (walk_at "ev"); (walk_at "ev"))
  | ((with_reducible apply eif_no); (walk_at "ev"); (walk_at "ev"))
  | ((with_reducible apply chain_ok); (walk_at "ev"); (walk_at "ev"); (walk_at "op"); (walk_at "ev"); (walk_at "op")))

def cutAt (s : List Nat) (i : Nat) : List Nat := (s.take (i + 7)).drop i
abbrev T3 (a b c : List Nat) : Tu Tx := ⟨[⟨a⟩, ⟨b⟩, ⟨c⟩]⟩
def guards (s : List Nat) : Bool := T3 (s.take 3) ((s.take 50).drop 45) (s.drop 92) == T3 [49, 48, 49] [48, 49, 48, 49, 48] [49, 48, 49]
def lft (s : List Nat) : List (List Nat × List Nat) := [3, 10, 17, 24, 31, 38].map fun i => fi [76, 71] (cutAt s i)
def rgt (s : List Nat) : List (List Nat × List Nat) := [50, 57, 64, 71, 78, 85].map fun i => fi [82] (cutAt s i)
def fdig (p : List Nat × List Nat) : Nat := p.1.headD 48 - 48
def rdK (l r : List (List Nat × List Nat)) : List Nat := if (l ++ r).any (fun p => p.1 == []) then [] else match idxN (l.map (·.2)).flatten heads 0 with
  | none => []
  | some j => if ck (j :: (l ++ r).map fdig).dropLast = (j :: (l ++ r).map fdig).getLastD 0 then tx (j :: (l ++ r).map fdig) else []
def rd (s : List Nat) : List Nat := if s.length = 95 ∧ guards s = true then rdK (lft s) (rgt s) else []
theorem fi_or (ks b : List Nat) : fi ks b = ([], []) ∨ ∃ j k, j < 10 ∧ fi ks b = ([48 + j], [k]) := by
  unfold fi
  cases e : ks.findSome? (fiF b) with
  | none => exact .inl rfl
  | some p =>
    obtain ⟨k, _, e2⟩ := List.exists_of_findSome?_eq_some e
    unfold fiF at e2
    cases e3 : idxN (lf k b) lefts 0 with
    | none => rw [e3] at e2; cases e2
    | some j =>
      rw [e3] at e2
      cases e2
      have := idx_lt e3
      have e10 : lefts.length = 10 := rfl
      exact .inr ⟨j, k, by omega, rfl⟩
theorem ok_take {s : List Nat} (h : txOk s = true) (n : Nat) : txOk (s.take n) = true := by
  unfold txOk at *
  rw [List.all_eq_true] at *
  exact fun c hc => h c (List.mem_of_mem_take hc)
theorem ok_drop {s : List Nat} (h : txOk s = true) (n : Nat) : txOk (s.drop n) = true := by
  unfold txOk at *
  rw [List.all_eq_true] at *
  exact fun c hc => h c (List.mem_of_mem_drop hc)
theorem figs_ok {ρ : En} {h : LH} {a b : Nat} {ks s : List Nat} {is : List Nat} (hv : ρ[0]? = some (some (.str s))) (hρ : 2 < ρ.length) (hl : s.length ≤ 1000) (hr : iRng3 (aCons (eC (.int a)) (aCons (eC (.int b)) (aCons (eC (.int 7)) aNil))) ρ h = .ok ⟨is.map fun i => D.int (i : Nat), none⟩ h) (hn : is.length ≤ 100) :
    eLc (iRng3 (aCons (eC (.int a)) (aCons (eC (.int b)) (aCons (eC (.int 7)) aNil)))) [2] (gNm 2) bYes (eCall g_figure_in (aCons (eSl (eVar 0) (oYes (eVar 2)) (oYes (eBin dAdd (eVar 2) (eC (.int 7))))) (aCons (eC (.str ks)) aNil))) ρ h = .ok (.lst (is.map fun i => dPr (fi ks (cutAt s i)))) h := by
  refine elc_of hr ?_
  rw [lc_map (h := h) (fun i : Nat => D.int (i : Nat)) (fun i => dPr (fi ks (cutAt s i))) is [] (fun i hi => ⟨_, rfl, ?_⟩) (by rw [List.length_nil]; omega)]
  · rw [List.nil_append]
  · have v0 : ((wipeD ρ [2]).set 2 (some (.int (i : Nat))))[0]? = some (some (.str s)) := by
      rw [List.getElem?_set_ne (by decide)]
      show (ρ.set 2 none)[0]? = _
      rw [List.getElem?_set_ne (by decide)]; exact hv
    have v2 : ((wipeD ρ [2]).set 2 (some (.int (i : Nat))))[2]? = some (some (.int (i : Nat))) := by
      rw [List.getElem?_set_self (by show 2 < (ρ.set 2 none).length; rw [List.length_set]; exact hρ)]
    refine call_ok (cons_ok (sl_ok (var_ok v0) (oyes_ok (var_ok v2)) (oyes_ok (bin_ok (var_ok v2) c_ok ev_addI)) ((slS (by omega)).trans ?_)) (cons_ok c_ok nil_ok)) (figure_in_eq (b := cutAt s i) (by unfold cutAt; simp only [List.length_drop, List.length_take]; omega) h)
    rw [show ((i : Nat) : Int) + 7 = ((i + 7 : Nat) : Int) by omega, cut_nn]; rfl
theorem lc_snd {h : LH} (ps : List (List Nat × List Nat)) (hn : ps.length ≤ 1000) (x0 x1 x2 x3 x4 x5 x6 x7 : Option D) (me : Ev) (hm : me [x0, x1, x2, x3, x4, x5, x6, x7] h = .ok (.lst (ps.map dPr)) h) :
    eLc (iSeq me) [5, 6] (gTp 2 (gCns (gNm 5) (gCns (gNm 6) gNils))) bYes (eVar 6) [x0, x1, x2, x3, x4, x5, x6, x7] h = .ok (.lst ((ps.map (·.2)).map .str)) h := by
  refine elc_of (seq_of hm) ?_
  rw [lc_map (h := h) dPr (fun p => D.str p.2) ps [] (fun p hp => ⟨_, rfl, var_ok rfl⟩) (by rw [List.length_nil]; omega), List.nil_append, List.map_map]; rfl
theorem lc_fst {h : LH} (ps : List (List Nat × List Nat)) (hn : ps.length ≤ 1000) (x0 x1 x2 x3 x4 x5 x6 x7 : Option D) (me : Ev) (hm : me [x0, x1, x2, x3, x4, x5, x6, x7] h = .ok (.lst (ps.map dPr)) h) :
    eLc (iSeq me) [5, 6] (gTp 2 (gCns (gNm 5) (gCns (gNm 6) gNils))) bYes (eVar 5) [x0, x1, x2, x3, x4, x5, x6, x7] h = .ok (.lst ((ps.map (·.1)).map .str)) h := by
  refine elc_of (seq_of hm) ?_
  rw [lc_map (h := h) dPr (fun p => D.str p.1) ps [] (fun p hp => ⟨_, rfl, var_ok rfl⟩) (by rw [List.length_nil]; omega), List.nil_append, List.map_map]; rfl
theorem sum_le {l : List (List Nat)} (hl : ∀ x ∈ l, x.length ≤ 1) : (l.map List.length).sum ≤ l.length := by
  induction l with
  | nil => simp
  | cons a r ih =>
    rw [List.map_cons, List.sum_cons, List.length_cons]
    have := ih fun x hx => hl x (List.mem_cons_of_mem _ hx)
    have := hl a (List.mem_cons_self ..)
    omega
theorem dg_flat {l : List (List Nat × List Nat)} (hl : ∀ p ∈ l, ∃ j < 10, p.1 = [48 + j]) : (l.map (·.1)).flatten = tx (l.map fdig) ∧ ∀ j ∈ l.map fdig, j < 10 := by
  induction l with
  | nil => exact ⟨rfl, fun j hj => by cases hj⟩
  | cons a r ih =>
    obtain ⟨j, hj, e⟩ := hl a (List.mem_cons_self ..)
    obtain ⟨i1, i2⟩ := ih fun p hp => hl p (List.mem_cons_of_mem _ hp)
    have e2 : fdig a = j := by unfold fdig; rw [e]; simp
    refine ⟨?_, fun k hk => ?_⟩
    · rw [List.map_cons, List.flatten_cons, i1, e, List.map_cons, e2]; rfl
    · rw [List.map_cons, List.mem_cons] at hk
      rcases hk with hk | hk
      · rw [hk, e2]; exact hj
      · exact i2 k hk
theorem heads_len : heads.length = 10 := rfl
theorem tx_last {js : List Nat} (h0 : js ≠ []) : atI (tx js) (-1) = some (48 + js.getLastD 0) := by
  have h1 : tx js ≠ [] := fun z => h0 (List.map_eq_nil_iff.mp z)
  rw [at_m1 _ h1]
  have h2 : (tx js).getLast? = some (48 + js.getLastD 0) := by
    unfold tx
    rw [List.getLast?_map, List.getLastD_eq_getLast?, List.getLast?_eq_some_getLast h0]; rfl
  rw [List.getLast?_eq_some_getLast h1] at h2
  exact h2
theorem tx_drop (js : List Nat) : (tx js).dropLast = tx js.dropLast := (List.map_dropLast ..).symm
theorem rd_eq {s : List Nat} (hs : txOk s = true) (hl : s.length ≤ 1000) (h : LH) : g_read_one_way [.str s] h = .ok (.str (rd s)) h := by
  refine fn_rt rfl ?_
  show m_read_one_way [some (.str s), none, none, none, none, none, none, none] h = _
  have t1 : eBin dNe (eTup (aCons (eSl (eVar 0) oNo (oYes (eC (.int 3)))) (aCons (eSl (eVar 0) (oYes (eC (.int 45))) (oYes (eC (.int 50)))) (aCons (eSl (eVar 0) (oYes (eC (.int 92))) oNo) aNil)))) (eTup (aCons (eC (.str [49, 48, 49])) (aCons (eC (.str [48, 49, 48, 49, 48])) (aCons (eC (.str [49, 48, 49])) aNil))))
      [some (.str s), none, none, none, none, none, none, none] h = .ok (.bl (!(guards s))) h := by
    refine bin_ok (x := .tup [.str (s.take 3), .str ((s.take 50).drop 45), .str (s.drop 92)]) (y := .tup [.str [49, 48, 49], .str [48, 49, 48, 49, 48], .str [49, 48, 49]]) (tup_ok (cons_ok (sl_ok (var_ok rfl) ono_ok (oyes_ok c_ok) ((slS (by omega)).trans (by rw [show (3 : Int) = ((3 : Nat) : Int) from rfl, cut_0n]))) (cons_ok (sl_ok (var_ok rfl) (oyes_ok c_ok) (oyes_ok c_ok) ((slS (by omega)).trans (by rw [show (45 : Int) = ((45 : Nat) : Int) from rfl, show (50 : Int) = ((50 : Nat) : Int) from rfl, cut_nn]))) (cons_ok (sl_ok (var_ok rfl) (oyes_ok c_ok) ono_ok ((slS (by omega)).trans (by rw [show (92 : Int) = ((92 : Nat) : Int) from rfl, cut_n0]))) nil_ok))) rfl) rfl ?_
    exact dNe_e (a := T3 (s.take 3) ((s.take 50).drop 45) (s.drop 92)) (b := T3 [49, 48, 49] [48, 49, 48, 49, 48] [49, 48, 49]) (by show (txOk _ && (txOk _ && (txOk _ && true))) = true; rw [ok_take hs, ok_drop (ok_take hs _), ok_drop hs]; rfl) rfl (by decide)
  by_cases c1 : s.length = 95
  · cases c2 : guards s with
    | false =>
      unfold rd
      rw [if_neg (by rw [c2]; simp)]
      refine seq_rt (if_yes (or_no (test_of (by walk_at "ev") ?_) (test_of t1 (by rw [c2]; rfl))) (ret_ok c_ok))
      rw [c1]; rfl
    | true =>
      unfold rd
      rw [if_pos ⟨c1, c2⟩]
      refine seq_nx (if_no (or_no (test_of (by walk_at "ev") ?_) (test_of t1 (by rw [c2]; rfl))) rfl) ?_
      · rw [c1]; rfl
      obtain ⟨l, el⟩ : ∃ l, l = lft s := ⟨_, rfl⟩
      obtain ⟨r, er⟩ : ∃ r, r = rgt s := ⟨_, rfl⟩
      have ll : l.length = 6 := by rw [el]; rfl
      have lr : r.length = 6 := by rw [er]; rfl
      have fl : eLc (iRng3 (aCons (eC (.int 3)) (aCons (eC (.int 45)) (aCons (eC (.int 7)) aNil)))) [2] (gNm 2) bYes (eCall g_figure_in (aCons (eSl (eVar 0) (oYes (eVar 2)) (oYes (eBin dAdd (eVar 2) (eC (.int 7))))) (aCons (eC (.str [76, 71])) aNil))) [some (.str s), none, none, none, none, none, none, none] h = .ok (.lst (l.map dPr)) h := by
        rw [el]
        exact figs_ok (is := [3, 10, 17, 24, 31, 38]) rfl (by simp) hl rfl (by decide)
      have fr : eLc (iRng3 (aCons (eC (.int 50)) (aCons (eC (.int 92)) (aCons (eC (.int 7)) aNil)))) [2] (gNm 2) bYes (eCall g_figure_in (aCons (eSl (eVar 0) (oYes (eVar 2)) (oYes (eBin dAdd (eVar 2) (eC (.int 7))))) (aCons (eC (.str [82])) aNil))) [some (.str s), some (.lst (l.map dPr)), none, none, none, none, none, none] h = .ok (.lst (r.map dPr)) h := by
        rw [er]
        exact figs_ok (is := [50, 57, 64, 71, 78, 85]) rfl (by simp) hl rfl (by decide)
      have fo : ∀ p ∈ l ++ r, p = ([], []) ∨ ∃ j k, j < 10 ∧ p = ([48 + j], [k]) := by
        intro p hp
        rw [el, er] at hp
        unfold lft rgt at hp
        rcases List.mem_append.mp hp with hp | hp
        · obtain ⟨i, _, rfl⟩ := List.mem_map.mp hp; exact fi_or _ _
        · obtain ⟨i, _, rfl⟩ := List.mem_map.mp hp; exact fi_or _ _
      rw [← el, ← er]
      refine seq_nx (asg_nm fl) (seq_nx (asg_nm fr) ?_)
      have k1 := lc_snd (h := h) l (by omega) (some (.str s)) (some (.lst (l.map dPr))) none (some (.lst (r.map dPr))) none none none none (eVar 1) (var_ok rfl)
      have l1 : ∀ x ∈ l.map (·.2), x.length ≤ 1 := by
        intro x hx
        obtain ⟨p, hp, rfl⟩ := List.mem_map.mp hx
        rcases fo p (List.mem_append_left _ hp) with e | ⟨j, k, _, e⟩ <;> rw [e] <;> simp
      have l2 : ∀ x ∈ (l ++ r).map (·.1), x.length ≤ 1 := by
        intro x hx
        obtain ⟨p, hp, rfl⟩ := List.mem_map.mp hx
        rcases fo p hp with e | ⟨j, k, _, e⟩ <;> rw [e] <;> simp
      have k2 := join_ok (mo := eC (.str [])) (h := h) c_ok (cons_ok k1 nil_ok) rfl (strs_map _) (by have := sum_le l1; rw [List.length_map] at *; simp only [List.length_nil, Nat.mul_zero]; omega)
      rw [Sh.join_nil] at k2
      refine seq_nx (asg_nm k2) ?_
      have ap : (l.map dPr) ++ (r.map dPr) = (l ++ r).map dPr := List.map_append.symm
      have add : dAdd (.lst (l.map dPr)) (.lst (r.map dPr)) = some (.lst ((l ++ r).map dPr)) := by rw [← ap]; exact addL (by simp; omega)
      have k3 := lc_fst (h := h) (l ++ r) (by simp; omega) (some (.str s)) (some (.lst (l.map dPr))) none (some (.lst (r.map dPr))) (some (.str (l.map (·.2)).flatten)) none none none (eBin dAdd (eVar 1) (eVar 3)) (bin_ok (var_ok rfl) (var_ok rfl) add)
      have t2 : bTest (eBin dIn (eC (.str [])) (eLc (iSeq (eBin dAdd (eVar 1) (eVar 3))) [5, 6] (gTp 2 (gCns (gNm 5) (gCns (gNm 6) gNils))) bYes (eVar 5))) [some (.str s), some (.lst (l.map dPr)), none, some (.lst (r.map dPr)), some (.str (l.map (·.2)).flatten), none, none, none] h = .ok ((l ++ r).any fun p => p.1 == []) h := by
        refine test_of (bin_ok c_ok k3 (z := .bl (((l ++ r).map (·.1)).any (· == []))) ?_) ?_
        · show (inB _ _).map D.bl = _
          rw [inLst]; rfl
        · rw [List.any_map]; rfl
      have t3 : bTest (eBin dNotIn (eVar 4) (eC con_HEADS)) [some (.str s), some (.lst (l.map dPr)), none, some (.lst (r.map dPr)), some (.str (l.map (·.2)).flatten), none, none, none] h = .ok (!(idxN (l.map (·.2)).flatten heads 0).isSome) h := by
        refine test_of (bin_ok (var_ok rfl) c_ok (z := .bl (!(heads.any (· == (l.map (·.2)).flatten)))) ?_) (by rw [idx_any])
        show (inB _ (.tup con_HEADSl)).map (fun k => D.bl (!k)) = _
        rw [heads_eq, inTup]; rfl
      unfold rdK
      cases c3 : (l ++ r).any fun p => p.1 == [] with
      | true =>
        rw [if_pos rfl]
        exact seq_rt (if_yes (or_yes (t2.trans (by rw [c3]))) (ret_ok c_ok))
      | false =>
        rw [if_neg Bool.false_ne_true]
        rw [c3] at t2
        cases c4 : idxN (l.map (·.2)).flatten heads 0 with
        | none =>
          rw [c4] at t3
          exact seq_rt (if_yes (or_no t2 t3) (ret_ok c_ok))
        | some j =>
          rw [c4] at t3
          simp only
          refine seq_nx (if_no (or_no t2 t3) rfl) ?_
          have hj : j < 10 := by have := idx_lt c4; rw [heads_len] at this; omega
          have ne : ∀ p ∈ l ++ r, ∃ j < 10, p.1 = [48 + j] := by
            intro p hp
            rcases fo p hp with e | ⟨j, k, hj, e⟩
            · have := List.any_eq_false.mp c3 p hp
              rw [e] at this; simp at this
            · exact ⟨j, hj, by rw [e]⟩
          obtain ⟨n1, n2⟩ := dg_flat ne
          have k4 := join_ok (mo := eC (.str [])) (h := h) c_ok (cons_ok k3 nil_ok) rfl (strs_map _) (by have := sum_le l2; rw [List.length_map] at *; simp only [List.length_nil, Nat.mul_zero, List.length_append] at *; omega)
          rw [Sh.join_nil, n1] at k4
          obtain ⟨js, ejs⟩ : ∃ js, js = j :: (l ++ r).map fdig := ⟨_, rfl⟩
          have hjs : ∀ i ∈ js, i < 10 := by
            rw [ejs]
            intro i hi
            rcases List.mem_cons.mp hi with e | hi
            · rw [e]; exact hj
            · exact n2 i hi
          have ljs : js.length = 13 := by rw [ejs]; simp; omega
          have lk : (tx ((l ++ r).map fdig)).length = 12 := by rw [tx_len]; simp; omega
          rw [← ejs]
          have ad2 : dAdd (.str [48 + j]) (.str (tx ((l ++ r).map fdig))) = some (.str (tx js)) := by
            rw [addS (by rw [lk]; simp)]
            rw [ejs]; rfl
          refine seq_nx (asg_nm (bin_ok (call_ok (cons_ok (tidx_ok (var_ok rfl) (by rw [heads_eq]; exact strsD_map _) c4) nil_ok) (res_ok (str1 _ hj))) k4 ad2)) ?_
          refine ret_ok ?_
          have dl : js.dropLast.length = 12 := by rw [List.length_dropLast]; omega
          have z := eif_b (t := bTest (eBin dEq (eCall g_good_sign (aCons (eSl (eVar 7) oNo (oYes (eUn dNeg (eC (.int 1))))) aNil)) (eIx (eVar 7) (eUn dNeg (eC (.int 1)))))) (a := eVar 7) (b := eC (.str [])) (ρ := [some (.str s), some (.lst (l.map dPr)), none, some (.lst (r.map dPr)), some (.str (l.map (·.2)).flatten), none, none, some (.str (tx js))]) (h := h) (k := decide (ck js.dropLast = js.getLastD 0))
            (test_of (bin_ok (call_ok (cons_ok (sl_ok (var_ok rfl) ono_ok (oyes_ok (un_ok c_ok ev_neg)) ((slS (by rw [tx_len]; omega)).trans (by rw [cut_0m, tx_drop]))) nil_ok) (good_sign_eq (fun i hi => hjs i (List.dropLast_subset _ hi)) (fun z => by rw [z] at dl; cases dl) (by omega) h)) (ix_ok (var_ok rfl) (un_ok c_ok ev_neg) (ixS_of (by rw [tx_len]; omega) (tx_last (fun z => by rw [z] at ljs; cases ljs)))) ev_eqS) ?_) (fun _ => var_ok rfl) (fun _ => c_ok)
          · refine z.trans ?_
            by_cases e : ck js.dropLast = js.getLastD 0
            · rw [if_pos e, decide_eq_true e]; rfl
            · rw [if_neg e, decide_eq_false e]; rfl
          · rw [one_beq]
            exact decide_eq_decide.mpr (by omega)
  · unfold rd
    rw [if_neg (fun z => c1 z.1)]
    refine seq_rt (if_yes (or_yes (test_of (by walk_at "ev") ?_)) (ret_ok c_ok))
    simp; omega
end K19

set_option Elab.async false
set_option linter.all false
set_option maxRecDepth 100000
set_option maxHeartbeats 4000000
namespace K19
open PySem PySem.Spec PyProof.Rows L2 Sh
/-! ### lists of blocks -/
abbrev Bk := List (List Nat)
theorem fl_drop {bs : Bk} (h : ∀ b ∈ bs, b.length = 7) : ∀ k : Nat, bs.flatten.drop (7 * k) = (bs.drop k).flatten := by
  induction bs with
  | nil => intro k; simp
  | cons b r ih =>
    intro k
    cases k with
    | zero => rfl
    | succ k =>
      have hb := h b (List.mem_cons_self ..)
      rw [List.flatten_cons, show 7 * (k + 1) = b.length + 7 * k by omega, ← List.drop_drop, List.drop_left, List.drop_succ_cons]
      exact ih (fun x hx => h x (List.mem_cons_of_mem _ hx)) k
theorem fl_len {bs : Bk} (h : ∀ b ∈ bs, b.length = 7) : bs.flatten.length = 7 * bs.length := by
  induction bs with
  | nil => rfl
  | cons b r ih =>
    rw [List.flatten_cons, List.length_append, ih fun x hx => h x (List.mem_cons_of_mem _ hx), h b (List.mem_cons_self ..), List.length_cons]; omega
def lay (g1 g2 g3 : List Nat) (L R : Bk) : List Nat := g1 ++ (L.flatten ++ (g2 ++ (R.flatten ++ g3)))
structure LayOk (g1 g2 g3 : List Nat) (L R : Bk) : Prop where
  a : g1.length = 3
  b : g2.length = 5
  c : g3.length = 3
  l : L.length = 6
  r : R.length = 6
  L : ∀ b ∈ L, b.length = 7
  R : ∀ b ∈ R, b.length = 7
theorem cut_of {p s t : List Nat} {i : Nat} (hp : p.length = i) : cutAt (p ++ (s ++ t)) i = (s ++ t).take 7 := by
  unfold cutAt
  rw [show i + 7 = p.length + 7 by omega, List.take_length_add_append, ← hp, List.drop_left]
theorem six {α : Type} {l : List α} (h : l.length = 6) : ∃ a b c d e f, l = [a, b, c, d, e, f] := by
  match l, h with
  | [a, b, c, d, e, f], _ => exact ⟨a, b, c, d, e, f, rfl⟩
section
variable {g1 g2 g3 : List Nat} {L R : Bk}
theorem lay_len (o : LayOk g1 g2 g3 L R) : (lay g1 g2 g3 L R).length = 95 := by
  unfold lay
  simp only [List.length_append, fl_len o.L, fl_len o.R, o.a, o.b, o.c, o.l, o.r]
theorem lay_lft (o : LayOk g1 g2 g3 L R) : lft (lay g1 g2 g3 L R) = L.map (fi [76, 71]) := by
  obtain ⟨h1, h2, h3, h4, h5, h6, h7⟩ := o
  obtain ⟨a, b, c, d, e, f, rfl⟩ := six h4
  have ha := h6 a (by simp); have hb := h6 b (by simp); have hc := h6 c (by simp); have hd := h6 d (by simp); have he := h6 e (by simp); have hf := h6 f (by simp)
  have t : ∀ (x y : List Nat), x.length = 7 → (x ++ y).take 7 = x := fun x y hx => by rw [← hx, List.take_left]
  unfold lft lay
  simp only [List.map_cons, List.map_nil, List.flatten_cons, List.flatten_nil, List.append_nil]
  have e1 : cutAt (g1 ++ ((a ++ (b ++ (c ++ (d ++ (e ++ f))))) ++ (g2 ++ (R.flatten ++ g3)))) 3 = a := by
    rw [List.append_assoc a, cut_of h1, t _ _ ha]
  have e2 : cutAt (g1 ++ ((a ++ (b ++ (c ++ (d ++ (e ++ f))))) ++ (g2 ++ (R.flatten ++ g3)))) 10 = b := by
    rw [show g1 ++ ((a ++ (b ++ (c ++ (d ++ (e ++ f))))) ++ (g2 ++ (R.flatten ++ g3))) = (g1 ++ a) ++ (b ++ ((c ++ (d ++ (e ++ f))) ++ (g2 ++ (R.flatten ++ g3)))) by simp only [List.append_assoc], cut_of (by rw [List.length_append]; omega), t _ _ hb]
  have e3 : cutAt (g1 ++ ((a ++ (b ++ (c ++ (d ++ (e ++ f))))) ++ (g2 ++ (R.flatten ++ g3)))) 17 = c := by
    rw [show g1 ++ ((a ++ (b ++ (c ++ (d ++ (e ++ f))))) ++ (g2 ++ (R.flatten ++ g3))) = (g1 ++ (a ++ b)) ++ (c ++ ((d ++ (e ++ f)) ++ (g2 ++ (R.flatten ++ g3)))) by simp only [List.append_assoc], cut_of (by simp only [List.length_append]; omega), t _ _ hc]
  have e4 : cutAt (g1 ++ ((a ++ (b ++ (c ++ (d ++ (e ++ f))))) ++ (g2 ++ (R.flatten ++ g3)))) 24 = d := by
    rw [show g1 ++ ((a ++ (b ++ (c ++ (d ++ (e ++ f))))) ++ (g2 ++ (R.flatten ++ g3))) = (g1 ++ (a ++ (b ++ c))) ++ (d ++ ((e ++ f) ++ (g2 ++ (R.flatten ++ g3)))) by simp only [List.append_assoc], cut_of (by simp only [List.length_append]; omega), t _ _ hd]
  have e5 : cutAt (g1 ++ ((a ++ (b ++ (c ++ (d ++ (e ++ f))))) ++ (g2 ++ (R.flatten ++ g3)))) 31 = e := by
    rw [show g1 ++ ((a ++ (b ++ (c ++ (d ++ (e ++ f))))) ++ (g2 ++ (R.flatten ++ g3))) = (g1 ++ (a ++ (b ++ (c ++ d)))) ++ (e ++ (f ++ (g2 ++ (R.flatten ++ g3)))) by simp only [List.append_assoc], cut_of (by simp only [List.length_append]; omega), t _ _ he]
  have e6 : cutAt (g1 ++ ((a ++ (b ++ (c ++ (d ++ (e ++ f))))) ++ (g2 ++ (R.flatten ++ g3)))) 38 = f := by
    rw [show g1 ++ ((a ++ (b ++ (c ++ (d ++ (e ++ f))))) ++ (g2 ++ (R.flatten ++ g3))) = (g1 ++ (a ++ (b ++ (c ++ (d ++ e))))) ++ (f ++ (g2 ++ (R.flatten ++ g3))) by simp only [List.append_assoc], cut_of (by simp only [List.length_append]; omega), t _ _ hf]
  rw [e1, e2, e3, e4, e5, e6]
theorem lay_rgt (o : LayOk g1 g2 g3 L R) : rgt (lay g1 g2 g3 L R) = R.map (fi [82]) := by
  have hl := fl_len o.L
  obtain ⟨h1, h2, h3, h4, h5, h6, h7⟩ := o
  obtain ⟨a, b, c, d, e, f, rfl⟩ := six h5
  have ha := h7 a (by simp); have hb := h7 b (by simp); have hc := h7 c (by simp); have hd := h7 d (by simp); have he := h7 e (by simp); have hf := h7 f (by simp)
  have t : ∀ (x y : List Nat), x.length = 7 → (x ++ y).take 7 = x := fun x y hx => by rw [← hx, List.take_left]
  obtain ⟨P, hP⟩ : ∃ P, P = g1 ++ (L.flatten ++ g2) := ⟨_, rfl⟩
  have lP : P.length = 50 := by rw [hP]; simp only [List.length_append]; omega
  have eP : lay g1 g2 g3 L [a, b, c, d, e, f] = P ++ (a ++ (b ++ (c ++ (d ++ (e ++ (f ++ g3)))))) := by
    unfold lay
    rw [hP]
    simp only [List.flatten_cons, List.flatten_nil, List.append_nil, List.append_assoc]
  unfold rgt
  rw [eP]
  simp only [List.map_cons, List.map_nil]
  have e1 : cutAt (P ++ (a ++ (b ++ (c ++ (d ++ (e ++ (f ++ g3))))))) 50 = a := by rw [cut_of lP, t _ _ ha]
  have e2 : cutAt (P ++ (a ++ (b ++ (c ++ (d ++ (e ++ (f ++ g3))))))) 57 = b := by
    rw [show P ++ (a ++ (b ++ (c ++ (d ++ (e ++ (f ++ g3)))))) = (P ++ a) ++ (b ++ (c ++ (d ++ (e ++ (f ++ g3))))) by simp only [List.append_assoc], cut_of (by simp only [List.length_append]; omega), t _ _ hb]
  have e3 : cutAt (P ++ (a ++ (b ++ (c ++ (d ++ (e ++ (f ++ g3))))))) 64 = c := by
    rw [show P ++ (a ++ (b ++ (c ++ (d ++ (e ++ (f ++ g3)))))) = (P ++ (a ++ b)) ++ (c ++ (d ++ (e ++ (f ++ g3)))) by simp only [List.append_assoc], cut_of (by simp only [List.length_append]; omega), t _ _ hc]
  have e4 : cutAt (P ++ (a ++ (b ++ (c ++ (d ++ (e ++ (f ++ g3))))))) 71 = d := by
    rw [show P ++ (a ++ (b ++ (c ++ (d ++ (e ++ (f ++ g3)))))) = (P ++ (a ++ (b ++ c))) ++ (d ++ (e ++ (f ++ g3))) by simp only [List.append_assoc], cut_of (by simp only [List.length_append]; omega), t _ _ hd]
  have e5 : cutAt (P ++ (a ++ (b ++ (c ++ (d ++ (e ++ (f ++ g3))))))) 78 = e := by
    rw [show P ++ (a ++ (b ++ (c ++ (d ++ (e ++ (f ++ g3)))))) = (P ++ (a ++ (b ++ (c ++ d)))) ++ (e ++ (f ++ g3)) by simp only [List.append_assoc], cut_of (by simp only [List.length_append]; omega), t _ _ he]
  have e6 : cutAt (P ++ (a ++ (b ++ (c ++ (d ++ (e ++ (f ++ g3))))))) 85 = f := by
    rw [show P ++ (a ++ (b ++ (c ++ (d ++ (e ++ (f ++ g3)))))) = (P ++ (a ++ (b ++ (c ++ (d ++ e))))) ++ (f ++ g3) by simp only [List.append_assoc], cut_of (by simp only [List.length_append]; omega), t _ _ hf]
  rw [e1, e2, e3, e4, e5, e6]
theorem lay_gd (o : LayOk g1 g2 g3 L R) : guards (lay g1 g2 g3 L R) = (T3 g1 g2 g3 == T3 [49, 48, 49] [48, 49, 48, 49, 48] [49, 48, 49]) := by
  have hl := fl_len o.L
  have hr := fl_len o.R
  have h1 := o.a; have h2 := o.b; have h3 := o.c; have h4 := o.l; have h5 := o.r
  unfold guards
  have e1 : (lay g1 g2 g3 L R).take 3 = g1 := by unfold lay; rw [← h1, List.take_left]
  have e2 : ((lay g1 g2 g3 L R).take 50).drop 45 = g2 := by
    rw [show lay g1 g2 g3 L R = (g1 ++ L.flatten) ++ (g2 ++ (R.flatten ++ g3)) by unfold lay; simp only [List.append_assoc]]
    have l45 : (g1 ++ L.flatten).length = 45 := by rw [List.length_append]; omega
    rw [show (50 : Nat) = (g1 ++ L.flatten).length + 5 by omega, List.take_length_add_append, ← l45, List.drop_left, ← h2, List.take_left]
  have e3 : (lay g1 g2 g3 L R).drop 92 = g3 := by
    rw [show lay g1 g2 g3 L R = (g1 ++ (L.flatten ++ (g2 ++ R.flatten))) ++ g3 by unfold lay; simp only [List.append_assoc]]
    have l92 : (g1 ++ (L.flatten ++ (g2 ++ R.flatten))).length = 92 := by simp only [List.length_append]; omega
    rw [← l92, List.drop_left]
  rw [e1, e2, e3]
theorem lay_rd (o : LayOk g1 g2 g3 L R) : rd (lay g1 g2 g3 L R) = if (T3 g1 g2 g3 == T3 [49, 48, 49] [48, 49, 48, 49, 48] [49, 48, 49]) = true then rdK (L.map (fi [76, 71])) (R.map (fi [82])) else [] := by
  unfold rd
  rw [lay_gd o, lay_lft o, lay_rgt o]
  by_cases h : (T3 g1 g2 g3 == T3 [49, 48, 49] [48, 49, 48, 49, 48] [49, 48, 49]) = true
  · rw [if_pos ⟨lay_len o, h⟩, if_pos h]
  · rw [if_neg fun z => h z.2, if_neg h]
def rv (bs : Bk) : Bk := (bs.map List.reverse).reverse
theorem rv_flat (bs : Bk) : bs.flatten.reverse = (rv bs).flatten := by unfold rv; rw [List.reverse_flatten]
theorem lay_rev : (lay g1 g2 g3 L R).reverse = lay g3.reverse g2.reverse g1.reverse (rv R) (rv L) := by
  unfold lay
  simp only [List.reverse_append, rv_flat, List.append_assoc]
theorem rv_mem {bs : Bk} (h : ∀ b ∈ bs, b.length = 7) : ∀ b ∈ rv bs, b.length = 7 := by
  intro b hb
  unfold rv at hb
  rw [List.mem_reverse] at hb
  obtain ⟨a, ha, rfl⟩ := List.mem_map.mp hb
  rw [List.length_reverse]; exact h a ha
theorem lay_rok (o : LayOk g1 g2 g3 L R) : LayOk g3.reverse g2.reverse g1.reverse (rv R) (rv L) :=
  ⟨by rw [List.length_reverse]; exact o.c, by rw [List.length_reverse]; exact o.b, by rw [List.length_reverse]; exact o.a, by unfold rv; rw [List.length_reverse, List.length_map]; exact o.r, by unfold rv; rw [List.length_reverse, List.length_map]; exact o.l, rv_mem o.R, rv_mem o.L⟩
end
/-! ### one changed -/
def chg (s : List Nat) (p : Nat) : List Nat := s.modify p fl1
theorem chg_app {a b : List Nat} {p : Nat} : chg (a ++ b) p = if p < a.length then chg a p ++ b else a ++ chg b (p - a.length) := by
  unfold chg
  apply List.ext_getElem?
  intro n
  split
  · rename_i h
    rw [List.getElem?_modify]
    by_cases hn : n < a.length
    · rw [List.getElem?_append_left hn, List.getElem?_append_left (by rw [List.length_modify]; exact hn), List.getElem?_modify]
    · rw [List.getElem?_append_right (by omega), List.getElem?_append_right (by rw [List.length_modify]; omega), List.length_modify]
      cases b[n - a.length]? <;> simp <;> omega
  · rename_i h
    rw [List.getElem?_modify]
    by_cases hn : n < a.length
    · rw [List.getElem?_append_left hn, List.getElem?_append_left hn]
      cases a[n]? <;> simp <;> omega
    · rw [List.getElem?_append_right (by omega), List.getElem?_append_right (by omega), List.getElem?_modify]
      congr 1
      by_cases e : p = n
      · subst e; simp
      · have : ¬ (p - a.length = n - a.length) := by omega
        simp [e, this]
theorem chg_flat {bs : Bk} (h : ∀ b ∈ bs, b.length = 7) : ∀ p : Nat, p < 7 * bs.length → chg bs.flatten p = (bs.modify (p / 7) fun b => chg b (p % 7)).flatten := by
  induction bs with
  | nil => intro p hp; simp at hp
  | cons b r ih =>
    intro p hp
    have hb := h b (List.mem_cons_self ..)
    rw [List.length_cons] at hp
    rw [List.flatten_cons, chg_app, hb]
    by_cases hp7 : p < 7
    · rw [if_pos hp7, show p / 7 = 0 by omega, show p % 7 = p by omega]; rfl
    · rw [if_neg hp7, ih (fun x hx => h x (List.mem_cons_of_mem _ hx)) (p - 7) (by omega)]
      rw [show p / 7 = (p - 7) / 7 + 1 by omega, show p % 7 = (p - 7) % 7 by omega]; rfl
theorem chg_len (s : List Nat) (p : Nat) : (chg s p).length = s.length := List.length_modify ..
theorem mod_mem {bs : Bk} {k q : Nat} (h : ∀ b ∈ bs, b.length = 7) : ∀ b ∈ bs.modify k (fun b => chg b q), b.length = 7 := by
  intro b hb
  obtain ⟨i, hi, e⟩ := List.getElem_of_mem hb
  rw [List.getElem_modify] at e
  rw [List.length_modify] at hi
  have := h bs[i] (List.getElem_mem _)
  split at e
  · rw [← e, chg_len]; exact this
  · rw [← e]; exact this
/-- what one changed stripe comes to -/
theorem chg_lay {g1 g2 g3 : List Nat} {L R : Bk} (o : LayOk g1 g2 g3 L R) {p : Nat} (hp : p < 95) :
    (∃ k q, k < 6 ∧ q < 7 ∧ chg (lay g1 g2 g3 L R) p = lay g1 g2 g3 (L.modify k fun b => chg b q) R) ∨ (∃ k q, k < 6 ∧ q < 7 ∧ chg (lay g1 g2 g3 L R) p = lay g1 g2 g3 L (R.modify k fun b => chg b q)) ∨
    (∃ q < 3, chg (lay g1 g2 g3 L R) p = lay (chg g1 q) g2 g3 L R) ∨ (∃ q < 5, chg (lay g1 g2 g3 L R) p = lay g1 (chg g2 q) g3 L R) ∨ ∃ q < 3, chg (lay g1 g2 g3 L R) p = lay g1 g2 (chg g3 q) L R := by
  have hl := fl_len o.L
  have hr := fl_len o.R
  have h1 := o.a; have h2 := o.b; have h3 := o.c; have h4 := o.l; have h5 := o.r
  unfold lay
  rw [chg_app, h1]
  by_cases c1 : p < 3
  · rw [if_pos c1]; exact .inr (.inr (.inl ⟨p, c1, rfl⟩))
  · rw [if_neg c1, chg_app, hl, h4]
    by_cases c2 : p - 3 < 7 * 6
    · rw [if_pos c2, chg_flat o.L _ (by omega)]
      exact .inl ⟨(p - 3) / 7, (p - 3) % 7, by omega, by omega, rfl⟩
    · rw [if_neg c2, chg_app, h2]
      by_cases c3 : p - 3 - 7 * 6 < 5
      · rw [if_pos c3]; exact .inr (.inr (.inr (.inl ⟨_, c3, rfl⟩)))
      · rw [if_neg c3, chg_app, hr, h5]
        by_cases c4 : p - 3 - 7 * 6 - 5 < 7 * 6
        · rw [if_pos c4, chg_flat o.R _ (by omega)]
          exact .inr (.inl ⟨(p - 3 - 7 * 6 - 5) / 7, (p - 3 - 7 * 6 - 5) % 7, by omega, by omega, rfl⟩)
        · rw [if_neg c4]
          exact .inr (.inr (.inr (.inr ⟨_, by omega, rfl⟩)))
end K19

set_option Elab.async false
set_option linter.all false
set_option maxRecDepth 100000
set_option maxHeartbeats 4000000
namespace K19
open PySem PySem.Spec PyProof.Rows L2 Sh
/-! ### what holds of each figure -/
def LG : List Nat := [76, 71]
def fA : Bool := (List.range 10).all fun d => LG.all fun r => fi LG (blk r d) == ([48 + d], [r])
def fR : Bool := (List.range 10).all fun d => fi [82] (blk 82 d) == ([48 + d], [82])
def fB : Bool := (List.range 10).all fun d => LG.all fun r => (List.range 7).all fun q => fi LG (chg (blk r d) q) == ([], []) || (fi LG (chg (blk r d) q)).2 == [147 - r]
def fC : Bool := (List.range 10).all fun d => (List.range 7).all fun q => fi [82] (chg (blk 82 d) q) == ([], [])
def fN : Bool := (List.range 10).all fun d => [76, 71, 82].all fun r => (blk r d).length == 7 && (blk r d).all fun c => c == 48 || c == 49
theorem fA_ok : fA = true := by decide +kernel
theorem fR_ok : fR = true := by decide +kernel
theorem fB_ok : fB = true := by decide +kernel
theorem fC_ok : fC = true := by decide +kernel
theorem fN_ok : fN = true := by decide +kernel
theorem rng_all {f : Nat → Bool} {n : Nat} (h : (List.range n).all f = true) {i : Nat} (hi : i < n) : f i = true := List.all_eq_true.mp h i (List.mem_range.mpr hi)
theorem kA {r d : Nat} (hr : r ∈ LG) (hd : d < 10) : fi LG (blk r d) = ([48 + d], [r]) := by
  have h := rng_all fA_ok hd
  exact eq_of_beq (List.all_eq_true.mp h r hr)
theorem kR {d : Nat} (hd : d < 10) : fi [82] (blk 82 d) = ([48 + d], [82]) := eq_of_beq (rng_all fR_ok hd)
theorem kB {r d q : Nat} (hr : r ∈ LG) (hd : d < 10) (hq : q < 7) : fi LG (chg (blk r d) q) = ([], []) ∨ (fi LG (chg (blk r d) q)).2 = [147 - r] := by
  have h := rng_all (List.all_eq_true.mp (rng_all fB_ok hd) r hr) hq
  rw [Bool.or_eq_true] at h
  rcases h with h | h
  · exact .inl (eq_of_beq h)
  · exact .inr (eq_of_beq h)
theorem kC {d q : Nat} (hd : d < 10) (hq : q < 7) : fi [82] (chg (blk 82 d) q) = ([], []) := eq_of_beq (rng_all (rng_all fC_ok hd) hq)
theorem kN {r d : Nat} (hr : r = 76 ∨ r = 71 ∨ r = 82) (hd : d < 10) : (blk r d).length = 7 ∧ ∀ c ∈ blk r d, c = 48 ∨ c = 49 := by
  have h := List.all_eq_true.mp (rng_all fN_ok hd) r (by rcases hr with rfl | rfl | rfl <;> decide)
  rw [Bool.and_eq_true] at h
  refine ⟨eq_of_beq h.1, fun c hc => ?_⟩
  have := List.all_eq_true.mp h.2 c hc
  simpa using this
theorem rdK_no {l r : List (List Nat × List Nat)} (h : (l ++ r).any (fun p => p.1 == []) = true ∨ heads.any (· == (l.map (·.2)).flatten) = false) : rdK l r = [] := by
  unfold rdK
  rcases h with h | h
  · rw [if_pos h]
  · split
    · rfl
    · rw [← idx_any _ _ 0] at h
      cases e : idxN (l.map (·.2)).flatten heads 0 with
      | none => rfl
      | some j => rw [e] at h; cases h
structure RowOk (row ls : List Nat) : Prop where
  a : row.length = 6
  b : ls.length = 6
  c : ∀ r ∈ row, r ∈ LG
  d : ∀ d ∈ ls, d < 10
theorem map_zip {row ls : List Nat} (hr : ∀ r ∈ row, r ∈ LG) (hd : ∀ d ∈ ls, d < 10) : (List.zipWith blk row ls).map (fi LG) = List.zipWith (fun r d => ([48 + d], [r])) row ls := by
  rw [List.map_zipWith]
  induction row generalizing ls with
  | nil => rfl
  | cons r t ih =>
    cases ls with
    | nil => rfl
    | cons d u =>
      rw [List.zipWith_cons_cons, List.zipWith_cons_cons, kA (hr r (List.mem_cons_self ..)) (hd d (List.mem_cons_self ..)), ih (fun x hx => hr x (List.mem_cons_of_mem _ hx)) (fun x hx => hd x (List.mem_cons_of_mem _ hx))]
theorem snd_zip {row ls : List Nat} (hl : row.length = ls.length) : ((List.zipWith (fun r d => (([48 + d] : List Nat), [r])) row ls).map (·.2)).flatten = row := by
  induction row generalizing ls with
  | nil => rfl
  | cons r t ih =>
    cases ls with
    | nil => cases hl
    | cons d u =>
      rw [List.zipWith_cons_cons, List.map_cons, List.flatten_cons, ih (by simpa using hl)]; rfl
theorem k1 {row ls : List Nat} (o : RowOk row ls) (hh : heads.any (· == row) = false) (r : List (List Nat × List Nat)) : rdK ((List.zipWith blk row ls).map (fi LG)) r = [] :=
  rdK_no (.inr (by rw [map_zip o.c o.d, snd_zip (by rw [o.a, o.b])]; exact hh))
theorem k2 {row ls : List Nat} (o : RowOk row ls) {k q : Nat} (hk : k < 6) (hq : q < 7) (hh : heads.any (· == row.set k (147 - row.getD k 0)) = false) (r : List (List Nat × List Nat)) : rdK (((List.zipWith blk row ls).modify k fun b => chg b q).map (fi LG)) r = [] := by
  obtain ⟨oa, ob, oc, od⟩ := o
  obtain ⟨a0, a1, a2, a3, a4, a5, rfl⟩ := six ob
  obtain ⟨r0, r1, r2, r3, r4, r5, rfl⟩ := six oa
  have A0 := kA (oc r0 (by simp)) (od a0 (by simp)); have A1 := kA (oc r1 (by simp)) (od a1 (by simp)); have A2 := kA (oc r2 (by simp)) (od a2 (by simp))
  have A3 := kA (oc r3 (by simp)) (od a3 (by simp)); have A4 := kA (oc r4 (by simp)) (od a4 (by simp)); have A5 := kA (oc r5 (by simp)) (od a5 (by simp))
  rcases (show k = 0 ∨ k = 1 ∨ k = 2 ∨ k = 3 ∨ k = 4 ∨ k = 5 by omega) with rfl | rfl | rfl | rfl | rfl | rfl
  · show rdK [fi LG (chg (blk r0 a0) q), fi LG (blk r1 a1), fi LG (blk r2 a2), fi LG (blk r3 a3), fi LG (blk r4 a4), fi LG (blk r5 a5)] r = []
    rcases kB (oc r0 (by simp)) (od a0 (by simp)) hq with e | e
    · rw [e]; exact rdK_no (.inl (by simp))
    · rw [A1, A2, A3, A4, A5]; exact rdK_no (.inr (by simp only [List.map_cons, List.map_nil, e]; exact hh))
  · show rdK [fi LG (blk r0 a0), fi LG (chg (blk r1 a1) q), fi LG (blk r2 a2), fi LG (blk r3 a3), fi LG (blk r4 a4), fi LG (blk r5 a5)] r = []
    rcases kB (oc r1 (by simp)) (od a1 (by simp)) hq with e | e
    · rw [e]; exact rdK_no (.inl (by simp))
    · rw [A0, A2, A3, A4, A5]; exact rdK_no (.inr (by simp only [List.map_cons, List.map_nil, e]; exact hh))
  · show rdK [fi LG (blk r0 a0), fi LG (blk r1 a1), fi LG (chg (blk r2 a2) q), fi LG (blk r3 a3), fi LG (blk r4 a4), fi LG (blk r5 a5)] r = []
    rcases kB (oc r2 (by simp)) (od a2 (by simp)) hq with e | e
    · rw [e]; exact rdK_no (.inl (by simp))
    · rw [A0, A1, A3, A4, A5]; exact rdK_no (.inr (by simp only [List.map_cons, List.map_nil, e]; exact hh))
  · show rdK [fi LG (blk r0 a0), fi LG (blk r1 a1), fi LG (blk r2 a2), fi LG (chg (blk r3 a3) q), fi LG (blk r4 a4), fi LG (blk r5 a5)] r = []
    rcases kB (oc r3 (by simp)) (od a3 (by simp)) hq with e | e
    · rw [e]; exact rdK_no (.inl (by simp))
    · rw [A0, A1, A2, A4, A5]; exact rdK_no (.inr (by simp only [List.map_cons, List.map_nil, e]; exact hh))
  · show rdK [fi LG (blk r0 a0), fi LG (blk r1 a1), fi LG (blk r2 a2), fi LG (blk r3 a3), fi LG (chg (blk r4 a4) q), fi LG (blk r5 a5)] r = []
    rcases kB (oc r4 (by simp)) (od a4 (by simp)) hq with e | e
    · rw [e]; exact rdK_no (.inl (by simp))
    · rw [A0, A1, A2, A3, A5]; exact rdK_no (.inr (by simp only [List.map_cons, List.map_nil, e]; exact hh))
  · show rdK [fi LG (blk r0 a0), fi LG (blk r1 a1), fi LG (blk r2 a2), fi LG (blk r3 a3), fi LG (blk r4 a4), fi LG (chg (blk r5 a5) q)] r = []
    rcases kB (oc r5 (by simp)) (od a5 (by simp)) hq with e | e
    · rw [e]; exact rdK_no (.inl (by simp))
    · rw [A0, A1, A2, A3, A4]; exact rdK_no (.inr (by simp only [List.map_cons, List.map_nil, e]; exact hh))
abbrev gA : List Nat := [49, 48, 49]
abbrev gB : List Nat := [48, 49, 48, 49, 48]
def std : Bool := (List.range 3).all (fun q => !(T3 (chg gA q) gB gA == T3 gA gB gA) && !(T3 gA gB (chg gA q) == T3 gA gB gA)) && (List.range 5).all fun q => !(T3 gA (chg gB q) gA == T3 gA gB gA)
theorem std_ok : std = true := by decide +kernel
/-- one changed is not read -/
theorem chg_no {row ls : List Nat} {R : Bk} (o : RowOk row ls) (y : LayOk gA gB gA (List.zipWith blk row ls) R) (h1 : ∀ k < 6, heads.any (· == row.set k (147 - row.getD k 0)) = false) (h2 : ∀ k q, k < 6 → q < 7 → rdK ((List.zipWith blk row ls).map (fi LG)) ((R.modify k fun b => chg b q).map (fi [82])) = [])
    {p : Nat} (hp : p < 95) : rd (chg (lay gA gB gA (List.zipWith blk row ls) R) p) = [] := by
  have sd := std_ok
  unfold std at sd
  rw [Bool.and_eq_true] at sd
  obtain ⟨ya, yb, yc, yl, yr, yL, yR⟩ := y
  rcases chg_lay (⟨ya, yb, yc, yl, yr, yL, yR⟩ : LayOk gA gB gA _ R) hp with ⟨k, q, hk, hq, e⟩ | ⟨k, q, hk, hq, e⟩ | ⟨q, hq, e⟩ | ⟨q, hq, e⟩ | ⟨q, hq, e⟩
  · rw [e, lay_rd ⟨ya, yb, yc, by rw [List.length_modify]; exact yl, yr, mod_mem yL, yR⟩, if_pos (by decide)]
    exact k2 o hk hq (h1 k hk) _
  · rw [e, lay_rd ⟨ya, yb, yc, yl, by rw [List.length_modify]; exact yr, yL, mod_mem yR⟩, if_pos (by decide)]
    exact h2 k q hk hq
  · have := rng_all sd.1 hq
    rw [Bool.and_eq_true] at this
    rw [e, lay_rd ⟨by rw [chg_len]; rfl, yb, yc, yl, yr, yL, yR⟩, if_neg (by simpa using this.1)]
  · have := rng_all sd.2 hq
    rw [e, lay_rd ⟨ya, by rw [chg_len]; rfl, yc, yl, yr, yL, yR⟩, if_neg (by simpa using this)]
  · have := rng_all sd.1 hq
    rw [Bool.and_eq_true] at this
    rw [e, lay_rd ⟨ya, yb, by rw [chg_len]; rfl, yl, yr, yL, yR⟩, if_neg (by simpa using this.2)]
theorem chg_rev {s : List Nat} {p : Nat} (hp : p < s.length) : (chg s p).reverse = chg s.reverse (s.length - 1 - p) := by
  unfold chg
  apply List.ext_getElem?
  intro n
  by_cases hn : n < s.length
  · rw [List.getElem?_reverse (by rw [List.length_modify]; exact hn), List.length_modify, List.getElem?_modify, List.getElem?_modify, List.getElem?_reverse hn]
    have e : (p = s.length - 1 - n) = (s.length - 1 - p = n) := propext (by omega)
    simp only [e]
  · rw [List.getElem?_eq_none (by rw [List.length_reverse, List.length_modify]; omega), List.getElem?_eq_none (by rw [List.length_modify, List.length_reverse]; omega)]
/-! ### a good's stripes -/
structure Js where
  d : Nat
  ls : List Nat
  rs : List Nat
structure Js.Ok (j : Js) : Prop where
  d : j.d < 10
  l : j.ls.length = 6
  r : j.rs.length = 6
  L : ∀ d ∈ j.ls, d < 10
  R : ∀ d ∈ j.rs, d < 10
def Js.js (j : Js) : List Nat := j.d :: (j.ls ++ j.rs)
def Js.row (j : Js) : List Nat := heads.getD j.d []
def Js.S (j : Js) : List Nat := lay gA gB gA (List.zipWith blk j.row j.ls) (j.rs.map (blk 82))
def fH : Bool := (List.range 10).all fun d => (heads.getD d []).length == 6 && (heads.getD d []).all (fun r => LG.contains r) && idxN (heads.getD d []) heads 0 == some d && (List.range 6).all fun k => !(heads.any (· == (heads.getD d []).set k (147 - (heads.getD d []).getD k 0)))
theorem fH_ok : fH = true := by decide +kernel
def g6 : List Nat := [71, 71, 71, 71, 71, 71]
theorem g6_no : heads.any (· == g6) = false := by decide +kernel
theorem g6_set : ∀ k < 6, heads.any (· == g6.set k (147 - g6.getD k 0)) = false := by decide +kernel
section
variable {j : Js} (o : j.Ok)
include o
theorem Js.Ok.rowF : j.row.length = 6 ∧ (∀ r ∈ j.row, r ∈ LG) ∧ idxN j.row heads 0 = some j.d ∧ ∀ k < 6, heads.any (· == j.row.set k (147 - j.row.getD k 0)) = false := by
  have h := rng_all fH_ok o.d
  simp only [Bool.and_eq_true] at h
  obtain ⟨⟨⟨h1, h2⟩, h3⟩, h4⟩ := h
  refine ⟨eq_of_beq h1, fun r hr => ?_, eq_of_beq h3, fun k hk => ?_⟩
  · have := List.all_eq_true.mp h2 r hr
    simpa using this
  · have := rng_all h4 hk
    rw [Bool.not_eq_true'] at this
    exact this
theorem Js.Ok.row : RowOk j.row j.ls := ⟨o.rowF.1, o.l, o.rowF.2.1, o.L⟩
theorem Js.Ok.lay : LayOk gA gB gA (List.zipWith blk j.row j.ls) (j.rs.map (blk 82)) := by
  refine ⟨rfl, rfl, rfl, by rw [List.length_zipWith, o.rowF.1, o.l]; rfl, by rw [List.length_map, o.r], fun b hb => ?_, fun b hb => ?_⟩
  · obtain ⟨i, hi, e⟩ := List.getElem_of_mem hb
    rw [List.getElem_zipWith] at e
    rw [List.length_zipWith] at hi
    have h1 := o.rowF.2.1 _ (List.getElem_mem (l := j.row) (n := i) (by omega))
    rw [← e]
    refine (kN ?_ (o.L _ (List.getElem_mem _))).1
    unfold LG at h1
    simp only [List.mem_cons, List.mem_nil_iff, or_false] at h1
    rcases h1 with h1 | h1
    · exact .inl h1
    · exact .inr (.inl h1)
  · obtain ⟨d, hd, rfl⟩ := List.mem_map.mp hb
    exact (kN (.inr (.inr rfl)) (o.R d hd)).1
theorem rgt_map : (j.rs.map (blk 82)).map (fi [82]) = j.rs.map fun d => (([48 + d] : List Nat), ([82] : List Nat)) := by
  rw [List.map_map]
  exact List.map_congr_left fun d hd => kR (o.R d hd)
theorem fd_zip {row ls : List Nat} (hl : row.length = ls.length) : (List.zipWith (fun r d => (([48 + d] : List Nat), ([r] : List Nat))) row ls).map fdig = ls := by
  clear o
  induction row generalizing ls with
  | nil =>
    cases ls with
    | nil => rfl
    | cons d u => cases hl
  | cons r t ih =>
    cases ls with
    | nil => cases hl
    | cons d u =>
      rw [List.zipWith_cons_cons, List.map_cons, ih (by simpa using hl)]
      unfold fdig
      simp
theorem fd_map (rs : List Nat) : (rs.map fun d => (([48 + d] : List Nat), ([82] : List Nat))).map fdig = rs := by
  clear o
  induction rs with
  | nil => rfl
  | cons d u ih =>
    rw [List.map_cons, List.map_cons, ih]
    unfold fdig
    simp
theorem rd_good (hc : ck j.js.dropLast = j.js.getLastD 0) : rd j.S = tx j.js := by
  unfold Js.S
  rw [lay_rd o.lay, if_pos (by decide)]
  show rdK ((List.zipWith blk j.row j.ls).map (fi LG)) _ = _
  rw [map_zip o.row.c o.row.d, rgt_map o]
  have hl : j.row.length = j.ls.length := by rw [o.row.a, o.row.b]
  have hany : ((List.zipWith (fun r d => (([48 + d] : List Nat), ([r] : List Nat))) j.row j.ls) ++ (j.rs.map fun d => (([48 + d] : List Nat), ([82] : List Nat)))).any (fun p => p.1 == []) = false := by
    rw [List.any_eq_false]
    intro p hp
    rcases List.mem_append.mp hp with hp | hp
    · obtain ⟨i, hi, e⟩ := List.getElem_of_mem hp
      rw [List.getElem_zipWith] at e
      rw [← e]; simp
    · obtain ⟨d, _, rfl⟩ := List.mem_map.mp hp
      simp
  unfold rdK
  rw [if_neg (by rw [hany]; simp), snd_zip hl, o.rowF.2.2.1]
  simp only [List.map_append]
  rw [fd_zip o hl, fd_map o]
  exact if_pos hc
theorem S_rev : j.S.reverse = lay gA gB gA (List.zipWith blk g6 j.rs.reverse) (rv (List.zipWith blk j.row j.ls)) := by
  unfold Js.S
  rw [lay_rev]
  have e : rv (j.rs.map (blk 82)) = List.zipWith blk g6 j.rs.reverse := by
    obtain ⟨a, b, c, d, e, f, h⟩ := six o.r
    rw [h]
    unfold rv
    rfl
  rw [e]; rfl
theorem rowR : RowOk g6 j.rs.reverse := ⟨rfl, by rw [List.length_reverse]; exact o.r, by decide, fun d hd => o.R d (List.mem_reverse.mp hd)⟩
theorem layR : LayOk gA gB gA (List.zipWith blk g6 j.rs.reverse) (rv (List.zipWith blk j.row j.ls)) := by
  have h := lay_rok o.lay
  have e : rv (j.rs.map (blk 82)) = List.zipWith blk g6 j.rs.reverse := by
    obtain ⟨a, b, c, d, e, f, h⟩ := six o.r
    rw [h]
    unfold rv
    rfl
  rw [e] at h
  exact h
theorem rd_rev : rd j.S.reverse = [] := by
  rw [S_rev o, lay_rd (layR o), if_pos (by decide)]
  exact k1 (rowR o) g6_no _
theorem S_len : j.S.length = 95 := lay_len o.lay
theorem rd_chg {p : Nat} (hp : p < 95) : rd (chg j.S p) = [] := by
  refine chg_no o.row o.lay o.rowF.2.2.2 (fun k q hk hq => ?_) hp
  refine rdK_no (.inl ?_)
  rw [List.any_append, Bool.or_eq_true]
  right
  rw [List.any_eq_true]
  obtain ⟨d0, d1, d2, d3, d4, d5, h⟩ := six o.r
  have hR := o.R
  rw [h] at hR ⊢
  rcases (show k = 0 ∨ k = 1 ∨ k = 2 ∨ k = 3 ∨ k = 4 ∨ k = 5 by omega) with rfl | rfl | rfl | rfl | rfl | rfl
  · exact ⟨_, List.mem_of_getElem? (i := 0) rfl, by show ((fi [82] (chg (blk 82 d0) q)).1 == []) = true; rw [kC (hR _ (by simp)) hq]; rfl⟩
  · exact ⟨_, List.mem_of_getElem? (i := 1) rfl, by show ((fi [82] (chg (blk 82 d1) q)).1 == []) = true; rw [kC (hR _ (by simp)) hq]; rfl⟩
  · exact ⟨_, List.mem_of_getElem? (i := 2) rfl, by show ((fi [82] (chg (blk 82 d2) q)).1 == []) = true; rw [kC (hR _ (by simp)) hq]; rfl⟩
  · exact ⟨_, List.mem_of_getElem? (i := 3) rfl, by show ((fi [82] (chg (blk 82 d3) q)).1 == []) = true; rw [kC (hR _ (by simp)) hq]; rfl⟩
  · exact ⟨_, List.mem_of_getElem? (i := 4) rfl, by show ((fi [82] (chg (blk 82 d4) q)).1 == []) = true; rw [kC (hR _ (by simp)) hq]; rfl⟩
  · exact ⟨_, List.mem_of_getElem? (i := 5) rfl, by show ((fi [82] (chg (blk 82 d5) q)).1 == []) = true; rw [kC (hR _ (by simp)) hq]; rfl⟩
theorem rd_chg_rev {p : Nat} (hp : p < 95) : rd (chg j.S p).reverse = [] := by
  rw [chg_rev (by rw [K19.S_len o]; exact hp), K19.S_len o, S_rev o]
  exact chg_no (rowR o) (layR o) g6_set (fun k q hk hq => k1 (rowR o) g6_no _) (by omega)
end
end K19

set_option Elab.async false
set_option linter.all false
set_option maxRecDepth 100000
set_option maxHeartbeats 4000000
namespace K19
open PySem PySem.Spec PyProof.Rows L2 Sh
local macro_rules | `(tactic| walk_at "len") => `(tactic| first | assumption | omega | (simp only [List.length_append, List.length_cons, List.length_nil, List.length_map, List.length_reverse, List.length_take, List.length_drop, List.length_dropLast, List.length_flatten, List.length_replicate, List.length_singleton]; omega) | (simp; omega) | decide)
local macro_rules | `(tactic| walk_at "op") => `(tactic| first
  | (with_reducible exact ev_addI) | (with_reducible apply addS; walk_at "len") | (with_reducible apply addL; walk_at "len")
  | (with_reducible exact ev_iaddI) | (with_reducible apply iaddS; walk_at "len")
  | (with_reducible exact ev_sub) | (with_reducible exact ev_neg)
  | (with_reducible exact ev_eqI) | (with_reducible exact ev_neI) | (with_reducible exact ev_eqS) | (with_reducible exact ev_neS) | (with_reducible exact ev_eqB) | (with_reducible exact ev_neB)
  | (with_reducible exact ev_ltI) | (with_reducible exact ev_leI) | (with_reducible exact ev_gtI) | (with_reducible exact ev_geI)
  | (with_reducible apply ev_modN; omega) | (with_reducible apply ev_mod; omega)
  | (with_reducible apply lenS; walk_at "len") | (with_reducible exact ev_lenL) | (with_reducible exact ev_lenT) | (with_reducible exact ev_lenF)
  | (with_reducible apply slS; walk_at "len") | (with_reducible exact slL)
  | (with_reducible apply revS; walk_at "len"))
local macro_rules | `(tactic| walk_at "val") => `(tactic| first | assumption | rfl | decide | simp [*])
local macro_rules | `(tactic| walk_at "ev") => `(tactic| first
  | (with_reducible assumption)
  | (with_reducible exact c_ok)
  | ((with_reducible apply var_ok); first | assumption | rfl)
  | (with_reducible exact nil_ok) | (with_reducible exact ono_ok)
  | ((with_reducible apply cons_ok); (walk_at "ev"); (walk_at "ev"))
  | ((with_reducible apply oyes_ok); (walk_at "ev"))
  | ((with_reducible apply bin_ok); (walk_at "ev"); (walk_at "ev"); (walk_at "op"))
  | ((with_reducible apply un_ok); (walk_at "ev"); (walk_at "op"))
  | ((with_reducible apply call_ok); (walk_at "ev"); (first | ((with_reducible apply res_ok); (walk_at "op")) | (walk_at "fn")))
  | ((with_reducible apply sl_ok); (walk_at "ev"); (walk_at "ev"); (walk_at "ev"); (walk_at "op"))
  | ((with_reducible apply revX_ok); (walk_at "ev"); (walk_at "op"))
  | ((with_reducible apply tup_ok); (walk_at "ev"); rfl)
  | ((with_reducible apply lst_ok); (walk_at "ev"); rfl)
  | ((with_reducible apply test_of); (walk_at "ev"); (walk_at "val"))
  | ((with_reducible apply or_nn); (walk_at "ev"); (walk_at "ev"))
  | ((with_reducible apply or_yes); (walk_at "ev"))
  | ((with_reducible apply and_yes); (walk_at "ev"); (walk_at "ev"))
  | ((with_reducible apply and_no); (walk_at "ev"))
  | ((with_reducible apply not_of); (walk_at "ev"); (walk_at "val"))
  | ((with_reducible apply eif_yes); (walk_at "ev"); (walk_at "ev"))
  | ((with_reducible apply eif_no); (walk_at "ev"); (walk_at "ev"))
  | ((with_reducible apply chain_ok); (walk_at "ev"); (walk_at "ev"); (walk_at "op"); (walk_at "ev"); (walk_at "op")))

theorem for_cons_rt {g : Gv} {m : Sv} {ρ ρ1 : En} {h h1 h2 : LH} {x d : D} {ds : List D} (hg : g x ρ h = some (ρ1, h1)) (hm : m ρ1 h1 = .rt d h2) : sFor g m (x :: ds) ρ h = .rt d h2 := by
  unfold sFor
  rw [hg]
  simp only
  rw [hm]
/-! ### one turned -/
def Bits (s : List Nat) : Prop := ∀ c ∈ s, c = 48 ∨ c = 49
theorem Bits.ok {s : List Nat} (h : Bits s) : txOk s = true := by
  unfold txOk
  rw [List.all_eq_true]
  intro c hc
  rcases h c hc with rfl | rfl <;> rfl
theorem chg_eq {s : List Nat} {p : Nat} (hp : p < s.length) : chg s p = s.take p ++ (fl1 s[p] :: s.drop (p + 1)) := by
  unfold chg
  apply List.ext_getElem?
  intro n
  rw [List.getElem?_modify]
  by_cases h1 : n < p
  · rw [List.getElem?_append_left (by rw [List.length_take]; omega), List.getElem?_take, if_pos h1]
    have e : ¬ (p = n) := by omega
    simp only [e, if_false]
    cases s[n]? <;> rfl
  · rw [List.getElem?_append_right (by rw [List.length_take]; omega), List.length_take, Nat.min_eq_left (by omega)]
    by_cases h2 : n = p
    · subst h2
      rw [Nat.sub_self, List.getElem?_cons_zero, List.getElem?_eq_getElem hp]
      simp
    · obtain ⟨m, rfl⟩ : ∃ m, n = p + 1 + m := ⟨n - (p + 1), by omega⟩
      rw [show p + 1 + m - p = m + 1 by omega, List.getElem?_cons_succ, List.getElem?_drop]
      have e : ¬ (p = p + 1 + m) := by omega
      simp only [e, if_false]
      cases s[p + 1 + m]? <;> rfl
theorem with_spot_eq {s : List Nat} {p : Nat} (hb : Bits s) (hp : p < s.length) (hl : s.length ≤ 1000) (h : LH) : g_with_spot [.str s, .int (p : Int)] h = .ok (.str (chg s p)) h := by
  refine fn_rt rfl ?_
  show m_with_spot [some (.str s), some (.int (p : Int))] h = _
  have l0 : dLe (.int 0) (.int (p : Int)) = some (.bl true) := by rw [ev_leI, decide_eq_true (by omega)]
  have l1 : dLt (.int (p : Int)) (.int (s.length : Int)) = some (.bl true) := by rw [ev_ltI, decide_eq_true (by omega)]
  refine seq_nx (if_no (not_of (test_ok (chain_ok c_ok (var_ok rfl) l0 (call_ok (cons_ok (var_ok rfl) nil_ok) (res_ok (lenS (by omega)))) l1)) rfl) rfl) ?_
  have hc := hb s[p] (List.getElem_mem hp)
  have eg : s.getD p 0 = s[p] := by rw [List.getD_eq_getElem?_getD, List.getElem?_eq_getElem hp]; rfl
  have m1 : eIf (bTest (eBin dEq (eIx (eVar 0) (eVar 1)) (eC (.str [49])))) (eC (.str [48])) (eC (.str [49])) [some (.str s), some (.int (p : Int))] h = .ok (.str [fl1 s[p]]) h := by
    have z := eif_b (t := bTest (eBin dEq (eIx (eVar 0) (eVar 1)) (eC (.str [49])))) (a := eC (.str [48])) (b := eC (.str [49])) (ρ := [some (.str s), some (.int (p : Int))]) (h := h) (k := decide (s[p] = 49)) (test_of (bin_ok (ix_ok (var_ok rfl) (var_ok rfl) ((ev_ixS hp (by omega)).trans (by rw [eg]))) c_ok ev_eqS) (one_beq _ _)) (fun _ => c_ok) (fun _ => c_ok)
    refine z.trans ?_
    rcases hc with e | e <;> rw [e] <;> rfl
  refine ret_ok ?_
  rw [chg_eq hp]
  have lt : (s.take p).length = p := by rw [List.length_take]; omega
  have ld : (s.drop (p + 1)).length = s.length - (p + 1) := List.length_drop ..
  refine bin_ok (x := .str (s.take p ++ [fl1 s[p]])) (y := .str (s.drop (p + 1))) (bin_ok (sl_ok (var_ok rfl) ono_ok (oyes_ok (var_ok rfl)) ((slS (by omega)).trans (by rw [cut_0n]))) m1 (addS (by rw [lt]; simp; omega))) (sl_ok (var_ok rfl) (oyes_ok (bin_ok (var_ok rfl) c_ok ev_addI)) ono_ok ((slS (by omega)).trans (by rw [show ((p : Nat) : Int) + 1 = ((p + 1 : Nat) : Int) by omega, cut_n0]))) ((addS (by rw [List.length_append, lt, ld]; simp; omega)).trans (by rw [List.append_assoc]; rfl))
theorem chg_bits {s : List Nat} (hb : Bits s) (p : Nat) : Bits (chg s p) := by
  intro c hc
  obtain ⟨i, hi, e⟩ := List.getElem_of_mem hc
  unfold chg at e hi
  rw [List.getElem_modify] at e
  rw [List.length_modify] at hi
  have := hb s[i] (List.getElem_mem _)
  split at e
  · rw [← e]; unfold fl1; split <;> simp
  · rw [← e]; exact this
theorem rev_bits {s : List Nat} (hb : Bits s) : Bits s.reverse := fun c hc => hb c (List.mem_reverse.mp hc)
/-! ### read, either way -/
section
variable {s : List Nat} (hb : txOk s = true) (hl : s.length ≤ 1000) (h : LH)
include hb hl
theorem ok_rev : txOk s.reverse = true := by
  unfold txOk at *
  rw [List.all_eq_true] at *
  exact fun c hc => hb c (List.mem_reverse.mp hc)
theorem two_ways {X : Option D} {ρ : En} (e : ρ[0]? = some (some (.str s))) : iSeq (eTup (aCons (eVar 0) (aCons (eRevX (eVar 0)) aNil))) ρ h = .ok ⟨[.str s, .str s.reverse], none⟩ h :=
  seq_ofT (tup_ok (cons_ok (var_ok e) (cons_ok (revX_ok (var_ok e) (revS (by omega))) nil_ok)) rfl)
theorem neE {x : List Nat} (hx : x ≠ []) : dNe (.str x) (.str []) = some (.bl true) := by
  clear hb hl
  rw [ev_neS, beq_eq_false_iff_ne.mpr hx]; rfl
theorem read_good1 (h1 : rd s ≠ []) : g_read_good [.str s] h = .ok (.str (rd s)) h := by
  refine fn_rt rfl ?_
  show m_read_good [some (.str s), none, none] h = _
  exact seq_rt (for_of (two_ways hb hl h (X := none) rfl) (for_cons_rt rfl (seq_nx (asg_nm (call_ok (cons_ok (var_ok rfl) nil_ok) (rd_eq hb hl h))) (if_yes (test_ok (bin_ok (var_ok rfl) c_ok (neE hb hl h1))) (ret_ok (var_ok rfl))))))
theorem read_good2 (h0 : rd s = []) (h1 : rd s.reverse ≠ []) : g_read_good [.str s] h = .ok (.str (rd s.reverse)) h := by
  refine fn_rt rfl ?_
  show m_read_good [some (.str s), none, none] h = _
  have e0 := rd_eq hb hl h
  rw [h0] at e0
  exact seq_rt (for_of (two_ways hb hl h (X := none) rfl) (for_cons rfl (seq_nx (asg_nm (call_ok (cons_ok (var_ok rfl) nil_ok) e0)) (if_no (test_ok (bin_ok (var_ok rfl) c_ok neS_same)) rfl)) (for_cons_rt rfl (seq_nx (asg_nm (call_ok (cons_ok (var_ok rfl) nil_ok) (rd_eq (ok_rev hb hl) (by rw [List.length_reverse]; exact hl) h))) (if_yes (test_ok (bin_ok (var_ok rfl) c_ok (neE hb hl h1))) (ret_ok (var_ok rfl)))))))
theorem read_good3 (h0 : rd s = []) (h1 : rd s.reverse = []) : g_read_good [.str s] h = .exc "StripeError" h := by
  have e0 := rd_eq hb hl h
  rw [h0] at e0
  have e1 := rd_eq (ok_rev hb hl) (by rw [List.length_reverse]; exact hl) h
  rw [h1] at e1
  refine fn_ex (ρ := [some (.str s), some (.str s.reverse), some (.str [])]) rfl ?_
  show m_read_good [some (.str s), none, none] h = _
  exact seq_nx (for_of (two_ways hb hl h (X := none) rfl) (for_cons rfl (seq_nx (asg_nm (call_ok (cons_ok (var_ok rfl) nil_ok) e0)) (if_no (test_ok (bin_ok (var_ok rfl) c_ok neS_same)) rfl)) (for_cons rfl (seq_nx (asg_nm (call_ok (cons_ok (var_ok rfl) nil_ok) e1)) (if_no (test_ok (bin_ok (var_ok rfl) c_ok neS_same)) rfl)) rfl))) rfl
end
/-! ### a good's stripes -/
theorem any_dig {i j : Nat} {ρ : En} {h : LH} {js : List Nat} (hj : ∀ j ∈ js, j < 10) (hv : ρ[i]? = some (some (.str (tx js)))) (hi : j < ρ.length) : eGx tAnyR (iSeq (eVar i)) [j] (gNm j) bYes (eBin dNotIn (eVar j) (eC (.str digs))) ρ h = .ok (.bl false) h := by
  refine gx_of (seq_ofS (var_ok hv)) ?_
  rw [gx_any (h := h) (fun c => D.str [c]) (fun c => !decide (c ∈ digs)) (tx js) fun c hc => ⟨_, rfl, bin_ok (var_ok (d := .str [c]) ?_) c_ok notin_dig⟩]
  · have e : ((tx js).any fun c => !decide (c ∈ digs)) = false := by
      rw [List.any_eq_false]
      intro c hc
      obtain ⟨j, h1, rfl⟩ := List.mem_map.mp hc
      rw [dig_in (hj j h1)]; simp
    rw [e]
  · rw [List.getElem?_set_self (by show j < (ρ.set j none).length; rw [List.length_set]; exact hi)]
theorem zip_tx (ls row : List Nat) : List.zipWith pairD ((tx ls).map fun c => D.str [c]) (row.map fun c => D.str [c]) = (List.zip ls row).map fun p => pairD (.str [48 + p.1]) (.str [p.2]) := by
  induction ls generalizing row with
  | nil => rfl
  | cons d t ih =>
    cases row with
    | nil => rfl
    | cons r u =>
      have := ih u
      show pairD (.str [48 + d]) (.str [r]) :: List.zipWith pairD ((tx t).map fun c => D.str [c]) (u.map fun c => D.str [c]) = _
      rw [this]; rfl
theorem zip_blk (ls row : List Nat) : (List.zip ls row).map (fun p => blk p.2 p.1) = List.zipWith blk row ls := by
  induction ls generalizing row with
  | nil => cases row <;> rfl
  | cons d t ih =>
    cases row with
    | nil => rfl
    | cons r u => rw [List.zip_cons_cons, List.map_cons, ih, List.zipWith_cons_cons]
theorem sum7 {bs : Bk} (h : ∀ b ∈ bs, b.length = 7) : (bs.map List.length).sum = 7 * bs.length := by
  induction bs with
  | nil => rfl
  | cons b r ih => rw [List.map_cons, List.sum_cons, ih fun x hx => h x (List.mem_cons_of_mem _ hx), h b (List.mem_cons_self ..), List.length_cons]; omega
theorem head_at {d : Nat} (hd : d < 10) : atI con_HEADSl (d : Int) = some (.str (heads.getD d [])) := by
  rcases (show d = 0 ∨ d = 1 ∨ d = 2 ∨ d = 3 ∨ d = 4 ∨ d = 5 ∨ d = 6 ∨ d = 7 ∨ d = 8 ∨ d = 9 by omega) with rfl | rfl | rfl | rfl | rfl | rfl | rfl | rfl | rfl | rfl <;> rfl
theorem left_at {d : Nat} (hd : d < 10) : atI con_LEFTl (d : Int) = some (.str (lefts.getD d [])) := by
  rcases (show d = 0 ∨ d = 1 ∨ d = 2 ∨ d = 3 ∨ d = 4 ∨ d = 5 ∨ d = 6 ∨ d = 7 ∨ d = 8 ∨ d = 9 by omega) with rfl | rfl | rfl | rfl | rfl | rfl | rfl | rfl | rfl | rfl <;> rfl
section
variable {j : Js} (o : j.Ok)
include o
theorem js_len : j.js.length = 13 := by unfold Js.js; rw [List.length_cons, List.length_append, o.l, o.r]
theorem js_lt : ∀ i ∈ j.js, i < 10 := by
  intro i hi
  unfold Js.js at hi
  rcases List.mem_cons.mp hi with e | hi
  · rw [e]; exact o.d
  · rcases List.mem_append.mp hi with hi | hi
    · exact o.L i hi
    · exact o.R i hi
theorem js_ls : ((tx j.js).take 7).drop 1 = tx j.ls := by
  unfold Js.js tx
  rw [← List.map_take, ← List.map_drop, List.take_succ_cons, List.drop_succ_cons, List.drop_zero, show (6 : Nat) = j.ls.length from o.l.symm, List.take_left]
theorem js_rs : (tx j.js).drop 7 = tx j.rs := by
  unfold Js.js tx
  rw [← List.map_drop, List.drop_succ_cons, show (6 : Nat) = j.ls.length from o.l.symm, List.drop_left]
theorem figs2 {ρ : En} {h : LH} {me : Ev} (hρ : ρ.length = 7) (hm : iSeq me ρ h = .ok ⟨(tx j.rs).map fun c => .str [c], none⟩ h) :
    eLc (iSeq me) [4] (gNm 4) bYes (eCall g_figure_stripes (aCons (eVar 4) (aCons (eC (.str [82])) aNil))) ρ h = .ok (.lst ((j.rs.map (blk 82)).map .str)) h := by
  refine elc_of hm ?_
  have e : (tx j.rs).map (fun c => D.str [c]) = j.rs.map fun d => D.str [48 + d] := by unfold tx; rw [List.map_map]; rfl
  rw [e, lc_map (h := h) (fun d => D.str [48 + d]) (fun d => D.str (blk 82 d)) j.rs [] (fun d hd => ⟨_, rfl, call_ok (cons_ok (var_ok (d := .str [48 + d]) ?_) (cons_ok c_ok nil_ok)) (figure_stripes_eq (o.R d hd) (.inr (.inl rfl)) h)⟩) (by rw [List.length_nil, o.r]; omega), List.nil_append, List.map_map]
  · rfl
  · rw [List.getElem?_set_self (by show 4 < (ρ.set 4 none).length; rw [List.length_set]; omega)]
theorem good_stripes_eq (hc : ck j.js.dropLast = j.js.getLastD 0) (h : LH) : g_good_stripes [.str (tx j.js)] h = .ok (.str j.S) h := by
  have hl : (tx j.js).length = 13 := by rw [tx_len, js_len o]
  refine fn_rt rfl ?_
  show m_good_stripes [some (.str (tx j.js)), none, none, none, none, none, none] h = _
  have dl : j.js.dropLast.length = 12 := by rw [List.length_dropLast, js_len o]
  have t1 : bTest (eBin dNe (eCall g_good_sign (aCons (eSl (eVar 0) oNo (oYes (eUn dNeg (eC (.int 1))))) aNil)) (eIx (eVar 0) (eUn dNeg (eC (.int 1))))) [some (.str (tx j.js)), none, none, none, none, none, none] h = .ok false h := by
    refine test_ok (bin_ok (call_ok (cons_ok (sl_ok (var_ok rfl) ono_ok (oyes_ok (un_ok c_ok ev_neg)) ((slS (by omega)).trans (by rw [cut_0m, tx_drop]))) nil_ok) (good_sign_eq (fun i hi => js_lt o i (List.dropLast_subset _ hi)) (fun z => by rw [z] at dl; cases dl) (by omega) h)) (ix_ok (var_ok rfl) (un_ok c_ok ev_neg) (ixS_of (by omega) (tx_last (fun z => by have := js_len o; rw [z] at this; cases this)))) ?_)
    rw [hc]; exact neS_same
  have t2 := any_dig (i := 0) (j := 1) (ρ := [some (.str (tx j.js)), none, none, none, none, none, none]) (h := h) (js_lt o) rfl (by simp)
  refine seq_nx (if_no (or_no (test_of (by walk_at "ev") (by rw [hl]; rfl)) (or_no (test_ok t2) t1)) rfl) ?_
  have c0 : atI (tx j.js) 0 = some (48 + j.d) := ev_at (j := 0) (show 0 < (tx j.js).length by omega)
  refine seq_nx (asg_nm (ix_ok c_ok (call_ok (cons_ok (ix_ok (var_ok rfl) c_ok (ixS_of (by omega) c0)) nil_ok) (res_ok (int1 _ o.d))) (z := .str j.row) (head_at o.d))) ?_
  have ro := o.rowF
  have zl : (List.zip j.ls j.row).length = 6 := by rw [List.length_zip, o.l, ro.1]; rfl
  have z1 : eLc (iZipS (aCons (eSl (eVar 0) (oYes (eC (.int 1))) (oYes (eC (.int 7)))) (aCons (eVar 2) aNil))) [4, 5] (gTp 2 (gCns (gNm 4) (gCns (gNm 5) gNils))) bYes (eCall g_figure_stripes (aCons (eVar 4) (aCons (eVar 5) aNil))) [some (.str (tx j.js)), none, some (.str j.row), none, none, none, none] h = .ok (.lst ((List.zipWith blk j.row j.ls).map .str)) h := by
    have zi : iZipS (aCons (eSl (eVar 0) (oYes (eC (.int 1))) (oYes (eC (.int 7)))) (aCons (eVar 2) aNil)) [some (.str (tx j.js)), none, some (.str j.row), none, none, none, none] h = .ok ⟨(List.zip j.ls j.row).map fun p => pairD (.str [48 + p.1]) (.str [p.2]), none⟩ h := by
      unfold iZipS
      rw [cons_ok (x := .str (tx j.ls)) (sl_ok (var_ok rfl) (oyes_ok c_ok) (oyes_ok c_ok) ((slS (by omega)).trans (by rw [show (1 : Int) = ((1 : Nat) : Int) from rfl, show (7 : Int) = ((7 : Nat) : Int) from rfl, cut_nn, js_ls o]))) (cons_ok (var_ok (d := .str j.row) rfl) nil_ok), ev_b1]
      show Res.ok (⟨List.zipWith pairD ((tx j.ls).map fun c => D.str [c]) (j.row.map fun c => D.str [c]), none⟩ : Sh.Itm) h = _
      rw [zip_tx]
    refine elc_of zi ?_
    rw [lc_map (h := h) (fun p : Nat × Nat => pairD (.str [48 + p.1]) (.str [p.2])) (fun p => D.str (blk p.2 p.1)) (List.zip j.ls j.row) [] (fun p hp => ⟨_, rfl, call_ok (cons_ok (var_ok rfl) (cons_ok (var_ok rfl) nil_ok)) (figure_stripes_eq (o.L _ (List.of_mem_zip hp).1) ?_ h)⟩) (by rw [List.length_nil, zl]; omega), List.nil_append, ← zip_blk, List.map_map]
    · rfl
    · have := ro.2.1 _ (List.of_mem_zip hp).2
      unfold LG at this
      simp only [List.mem_cons, List.mem_nil_iff, or_false] at this
      rcases this with e | e
      · exact .inl e
      · exact .inr (.inr e)
  have ly := o.lay
  have k1 := join_ok (mo := eC (.str [])) (h := h) c_ok (cons_ok z1 nil_ok) rfl (strs_map _) (by rw [sum7 ly.L, ly.l]; simp only [List.length_nil, Nat.mul_zero]; omega)
  rw [Sh.join_nil] at k1
  refine seq_nx (asg_nm k1) ?_
  have z2 := figs2 o (ρ := [some (.str (tx j.js)), none, some (.str j.row), some (.str (List.zipWith blk j.row j.ls).flatten), none, none, none]) (h := h) (me := eSl (eVar 0) (oYes (eC (.int 7))) oNo) rfl (seq_ofS (sl_ok (var_ok rfl) (oyes_ok c_ok) ono_ok ((slS (by omega)).trans (by rw [show (7 : Int) = ((7 : Nat) : Int) from rfl, cut_n0, js_rs o]))))
  have k2 := join_ok (mo := eC (.str [])) (h := h) c_ok (cons_ok z2 nil_ok) rfl (strs_map _) (by rw [sum7 ly.R, ly.r]; simp only [List.length_nil, Nat.mul_zero]; omega)
  rw [Sh.join_nil] at k2
  refine seq_nx (asg_nm k2) ?_
  have e1 := fl_len ly.L
  have e2 := fl_len ly.R
  rw [ly.l] at e1
  rw [ly.r] at e2
  refine ret_ok ?_
  refine bin_ok (bin_ok (bin_ok (bin_ok c_ok (var_ok rfl) (addS (by rw [e1]; decide))) c_ok (addS (by simp only [List.length_append, e1]; decide))) (var_ok rfl) (addS (by simp only [List.length_append, e1, e2]; decide))) c_ok ((addS (by simp only [List.length_append, e1, e2]; decide)).trans ?_)
  unfold Js.S lay
  simp only [List.append_assoc]
end
end K19

set_option Elab.async false
set_option linter.all false
set_option maxRecDepth 100000
set_option maxHeartbeats 4000000
namespace K19
open PySem PySem.Spec PyProof.Rows L2 Sh
local macro_rules | `(tactic| walk_at "len") => `(tactic| first | assumption | omega | (simp only [List.length_append, List.length_cons, List.length_nil, List.length_map, List.length_reverse, List.length_take, List.length_drop, List.length_dropLast, List.length_flatten, List.length_replicate, List.length_singleton]; omega) | (simp; omega) | decide)
local macro_rules | `(tactic| walk_at "op") => `(tactic| first
  | (with_reducible exact ev_addI) | (with_reducible apply addS; walk_at "len") | (with_reducible apply addL; walk_at "len")
  | (with_reducible exact ev_iaddI) | (with_reducible apply iaddS; walk_at "len")
  | (with_reducible exact ev_sub) | (with_reducible exact ev_neg)
  | (with_reducible exact ev_eqI) | (with_reducible exact ev_neI) | (with_reducible exact ev_eqS) | (with_reducible exact ev_neS) | (with_reducible exact ev_eqB) | (with_reducible exact ev_neB)
  | (with_reducible exact ev_ltI) | (with_reducible exact ev_leI) | (with_reducible exact ev_gtI) | (with_reducible exact ev_geI)
  | (with_reducible apply ev_modN; omega) | (with_reducible apply ev_mod; omega)
  | (with_reducible apply lenS; walk_at "len") | (with_reducible exact ev_lenL) | (with_reducible exact ev_lenT) | (with_reducible exact ev_lenF)
  | (with_reducible apply slS; walk_at "len") | (with_reducible exact slL)
  | (with_reducible apply revS; walk_at "len"))
local macro_rules | `(tactic| walk_at "val") => `(tactic| first | assumption | rfl | decide | simp [*])
local macro_rules | `(tactic| walk_at "ev") => `(tactic| first
  | (with_reducible assumption)
  | (with_reducible exact c_ok)
  | ((with_reducible apply var_ok); first | assumption | rfl)
  | (with_reducible exact nil_ok) | (with_reducible exact ono_ok)
  | ((with_reducible apply cons_ok); (walk_at "ev"); (walk_at "ev"))
  | ((with_reducible apply oyes_ok); (walk_at "ev"))
  | ((with_reducible apply bin_ok); (walk_at "ev"); (walk_at "ev"); (walk_at "op"))
  | ((with_reducible apply un_ok); (walk_at "ev"); (walk_at "op"))
  | ((with_reducible apply call_ok); (walk_at "ev"); (first | ((with_reducible apply res_ok); (walk_at "op")) | (walk_at "fn")))
  | ((with_reducible apply sl_ok); (walk_at "ev"); (walk_at "ev"); (walk_at "ev"); (walk_at "op"))
  | ((with_reducible apply revX_ok); (walk_at "ev"); (walk_at "op"))
  | ((with_reducible apply tup_ok); (walk_at "ev"); rfl)
  | ((with_reducible apply lst_ok); (walk_at "ev"); rfl)
  | ((with_reducible apply test_of); (walk_at "ev"); (walk_at "val"))
  | ((with_reducible apply or_nn); (walk_at "ev"); (walk_at "ev"))
  | ((with_reducible apply or_yes); (walk_at "ev"))
  | ((with_reducible apply and_yes); (walk_at "ev"); (walk_at "ev"))
  | ((with_reducible apply and_no); (walk_at "ev"))
  | ((with_reducible apply not_of); (walk_at "ev"); (walk_at "val"))
  | ((with_reducible apply eif_yes); (walk_at "ev"); (walk_at "ev"))
  | ((with_reducible apply eif_no); (walk_at "ev"); (walk_at "ev"))
  | ((with_reducible apply chain_ok); (walk_at "ev"); (walk_at "ev"); (walk_at "op"); (walk_at "ev"); (walk_at "op")))

/-! ### the law's own stripes -/
theorem tx_zip (l : List Nat) : (tx l).zipIdx = l.zipIdx.map fun p => (48 + p.1, p.2) := by
  unfold tx
  apply List.ext_getElem?
  intro n
  simp only [List.getElem?_zipIdx, List.getElem?_map]
  cases l[n]? <;> rfl
theorem ten_flp {i j : Nat} {ρ : En} {h : LH} {s : List Nat} (hb : Bits s) (hv : ρ[i]? = some (some (.str s))) (hj : j < ρ.length) (hl : s.length ≤ 1000) :
    eMt "str" (mJoin) (eC (.str [])) (aCons (eLc (iSeq (eVar i)) [j] (gNm j) bYes (eIx (eC (.str [49, 48])) (eCall (bRes bInt) (aCons (eVar j) aNil)))) aNil) ρ h = .ok (.str (flp s)) h := by
  have e : eLc (iSeq (eVar i)) [j] (gNm j) bYes (eIx (eC (.str [49, 48])) (eCall (bRes bInt) (aCons (eVar j) aNil))) ρ h = .ok (.lst ((s.map fun c => [fl1 c]).map .str)) h := by
    refine elc_of (seq_ofS (var_ok hv)) ?_
    rw [lc_map (h := h) (fun c => D.str [c]) (fun c => D.str [fl1 c]) s [] (fun c hc => ⟨_, rfl, ?_⟩) (by rw [List.length_nil]; omega)]
    · rw [List.nil_append, List.map_map]; rfl
    · have hw : ((wipeD ρ [j]).set j (some (.str [c])))[j]? = some (some (.str [c])) := by
        rw [List.getElem?_set_self (by show j < (ρ.set j none).length; rw [List.length_set]; exact hj)]
      rcases hb c hc with e | e
      · subst e
        exact ix_ok c_ok (call_ok (cons_ok (var_ok hw) nil_ok) (res_ok (int1 0 (by decide)))) rfl
      · subst e
        exact ix_ok c_ok (call_ok (cons_ok (var_ok hw) nil_ok) (res_ok (int1 1 (by decide)))) rfl
  have q := join_ok (mo := eC (.str [])) (ma := aCons (eLc (iSeq (eVar i)) [j] (gNm j) bYes (eIx (eC (.str [49, 48])) (eCall (bRes bInt) (aCons (eVar j) aNil)))) aNil) (ρ := ρ) (h := h) c_ok (cons_ok e nil_ok) rfl (strs_map _) (by rw [sum_one]; simp; omega)
  rw [Sh.join_nil, flat_one] at q
  exact q
theorem dicP_cons {mk mv : Ev} {r : List (Ev × Ev)} {ρ : En} {h h1 h2 h3 : LH} {k v : D} {kvs : List (Key × D)} {key : Key} (hk : mk ρ h = .ok k h1) (hv : mv ρ h1 = .ok v h2) (hr : eDicP r ρ h2 = .ok kvs h3) (e : keyD k = some key) : eDicP ((mk, mv) :: r) ρ h = .ok ((key, v) :: kvs) h3 := by
  unfold eDicP
  rw [hk, ev_b1, hv, ev_b1, hr, ev_b1]
  simp only [e]
theorem dicP_nil {ρ : En} {h : LH} : eDicP [] ρ h = .ok [] h := rfl
/-- {"L": a, "R": b, "G": c}[kind] -/
theorem pick3 {ρ : En} {h : LH} {a b : List Nat} {k : Nat} (hk : k = 76 ∨ k = 71 ∨ k = 82) {ia ib ik : Nat} (va : ρ[ia]? = some (some (.str a))) (vb : ρ[ib]? = some (some (.str b))) (vk : ρ[ik]? = some (some (.str [k]))) (hl : b.length ≤ 1000) :
    eIx (eDic [((eC (.str [76])), (eVar ia)), ((eC (.str [82])), (eVar ib)), ((eC (.str [71])), (eRevX (eVar ib)))]) (eVar ik) ρ h = .ok (.str (if k = 76 then a else if k = 82 then b else b.reverse)) h := by
  have e1 : eDicP [((eC (.str [76])), (eVar ia)), ((eC (.str [82])), (eVar ib)), ((eC (.str [71])), (eRevX (eVar ib)))] ρ h = .ok [(.inr (S [76]), .str a), (.inr (S [82]), .str b), (.inr (S [71]), .str b.reverse)] h := by
    exact dicP_cons c_ok (var_ok va) (dicP_cons c_ok (var_ok vb) (dicP_cons c_ok (revX_ok (var_ok vb) (revS (by omega))) dicP_nil rfl) rfl) rfl
  have e2 : eDic [((eC (.str [76])), (eVar ia)), ((eC (.str [82])), (eVar ib)), ((eC (.str [71])), (eRevX (eVar ib)))] ρ h = .ok (.dic [(.inr (S [76]), .str a), (.inr (S [82]), .str b), (.inr (S [71]), .str b.reverse)]) h := by
    unfold eDic
    rw [e1]; rfl
  refine ix_ok e2 (var_ok vk) ?_
  rcases hk with rfl | rfl | rfl <;> rfl
def kd (row : List Nat) (i : Nat) : Nat := if i < 6 then row.getD i 0 else 82
def stepG (row : List Nat) (found : List Nat) (p : Nat × Nat) : List Nat := (found ++ (if p.2 = 6 then gB else [])) ++ blk (kd row p.2) p.1
abbrev G6 := Option D × Option D × Option D × Option D × Option D × Option D
theorem blk_eq (k d : Nat) : blk k d = if k = 76 then lefts.getD d [] else if k = 82 then flp (lefts.getD d []) else (flp (lefts.getD d [])).reverse := rfl
section
variable {j : Js} (o : j.Ok)
include o
theorem fold_S : (((j.ls ++ j.rs).zipIdx).foldl (stepG j.row) gA) ++ gA = j.S := by
  obtain ⟨a0, a1, a2, a3, a4, a5, e1⟩ := six o.l
  obtain ⟨b0, b1, b2, b3, b4, b5, e2⟩ := six o.r
  obtain ⟨r0, r1, r2, r3, r4, r5, e3⟩ := six o.rowF.1
  unfold Js.S lay
  rw [e1, e2, e3]
  show stepG [r0, r1, r2, r3, r4, r5] (stepG [r0, r1, r2, r3, r4, r5] (stepG [r0, r1, r2, r3, r4, r5] (stepG [r0, r1, r2, r3, r4, r5] (stepG [r0, r1, r2, r3, r4, r5] (stepG [r0, r1, r2, r3, r4, r5] (stepG [r0, r1, r2, r3, r4, r5] (stepG [r0, r1, r2, r3, r4, r5] (stepG [r0, r1, r2, r3, r4, r5] (stepG [r0, r1, r2, r3, r4, r5] (stepG [r0, r1, r2, r3, r4, r5] (stepG [r0, r1, r2, r3, r4, r5] gA (a0, 0)) (a1, 1)) (a2, 2)) (a3, 3)) (a4, 4)) (a5, 5)) (b0, 6)) (b1, 7)) (b2, 8)) (b3, 9)) (b4, 10)) (b5, 11) ++ gA = _
  simp only [stepG, kd, List.zipWith_cons_cons, List.zipWith_nil_left, List.map_cons, List.map_nil, List.flatten_cons, List.flatten_nil, List.append_nil, List.append_assoc]
  rfl
theorem law_good_eq (h : LH) : g_x_law_good [.str (tx j.js)] h = .ok (.str j.S) h := by
  have hl : (tx j.js).length = 13 := by rw [tx_len, js_len o]
  have ro := o.rowF
  refine fn_rt rfl ?_
  show m_x_law_good [some (.str (tx j.js)), none, none, none, none, none, none, none] h = _
  refine seq_nx (asg_nm c_ok) ?_
  have d1 : (tx j.js).drop 1 = tx (j.ls ++ j.rs) := rfl
  have it : iEnumS (aCons (eSl (eVar 0) (oYes (eC (.int 1))) oNo) aNil) [some (.str (tx j.js)), some (.str gA), none, none, none, none, none, none] h = .ok ⟨((j.ls ++ j.rs).zipIdx).map fun p => pairD (.int (p.2 : Nat)) (.str [48 + p.1]), none⟩ h := by
    rw [enumS_ok (cons_ok (sl_ok (var_ok rfl) (oyes_ok c_ok) ono_ok ((slS (by omega)).trans (by rw [show (1 : Int) = ((1 : Nat) : Int) from rfl, cut_n0, d1]))) nil_ok), tx_zip, List.map_map]; rfl
  obtain ⟨ox, e1, e2⟩ := for_ix (g := gTp 2 (gCns (gNm 2) (gCns (gNm 3) gNils))) (m := (sSeq (sAsg (eIx (eC con_LEFT) (eCall (bRes bInt) (aCons (eVar 3) aNil))) (gNm 4)) (sSeq (sAsg (eMt "str" (mJoin) (eC (.str [])) (aCons (eLc (iSeq (eVar 4)) [6] (gNm 6) bYes (eIx (eC (.str [49, 48])) (eCall (bRes bInt) (aCons (eVar 6) aNil)))) aNil)) (gNm 5)) (sSeq (sAsg (eIf (bTest (eBin dLt (eVar 2) (eC (.int 6)))) (eIx (eIx (eC con_HEADS) (eCall (bRes bInt) (aCons (eIx (eVar 0) (eC (.int 0))) aNil))) (eVar 2)) (eC (.str [82]))) (gNm 7)) (sAsg (eBin dAdd (eBin dAdd (eVar 1) (eBin dMul (eC (.str [48, 49, 48, 49, 48])) (eCall (bRes bInt) (aCons (eBin dEq (eVar 2) (eC (.int 6))) aNil)))) (eIx (eDic [((eC (.str [76])), (eVar 4)), ((eC (.str [82])), (eVar 5)), ((eC (.str [71])), (eRevX (eVar 5)))]) (eVar 7))) (gNm 1))))))
    (fun p : Nat × Nat => pairD (.int (p.2 : Nat)) (.str [48 + p.1])) (fun (found : List Nat) (q : G6) => [some (.str (tx j.js)), some (.str found), q.1, q.2.1, q.2.2.1, q.2.2.2.1, q.2.2.2.2.1, q.2.2.2.2.2]) (fun _ => h) (stepG j.row) (fun i b => b.length ≤ 3 + 12 * i) ((j.ls ++ j.rs).zipIdx) 0 gA (none, none, none, none, none, none)
    (fun i p b q hi hp => by
      obtain ⟨q1, q2, q3, q4, q5, q6⟩ := q
      rw [List.getElem?_zipIdx] at hi
      cases ea : (j.ls ++ j.rs)[i]? with
      | none => rw [ea] at hi; cases hi
      | some a =>
        rw [ea] at hi
        have ep : p = (a, i) := by simpa using hi.symm
        subst ep
        have il : i < 12 := by have := (List.getElem?_eq_some_iff.mp ea).1; rw [List.length_append, o.l, o.r] at this; exact this
        have ha : a < 10 := js_lt o a (by unfold Js.js; exact List.mem_cons_of_mem _ (List.mem_of_getElem? ea))
        have hk : kd j.row i = 76 ∨ kd j.row i = 71 ∨ kd j.row i = 82 := by
          unfold kd
          split
          · rename_i h6
            have hr := ro.2.1 (j.row.getD i 0) (by rw [List.getD_eq_getElem?_getD, List.getElem?_eq_getElem (by rw [ro.1]; exact h6)]; exact List.getElem_mem _)
            unfold LG at hr
            simp only [List.mem_cons, List.mem_nil_iff, or_false] at hr
            rcases hr with e | e
            · exact .inl e
            · exact .inr (.inl e)
          · exact .inr (.inr rfl)
        have b7 := (kN hk ha).1
        have hb : b.length ≤ 3 + 12 * i := by simpa using hp
        have nL : Bits (lefts.getD a []) := (kN (r := 76) (.inl rfl) ha).2
        have lL : (lefts.getD a []).length = 7 := (kN (r := 76) (.inl rfl) ha).1
        refine ⟨?_, _, _, (some (.int (i : Nat)), some (.str [48 + a]), some (.str (lefts.getD a [])), some (.str (flp (lefts.getD a []))), q5, some (.str [kd j.row i])), rfl, ?_⟩
        · show (stepG j.row b (a, i)).length ≤ 3 + 12 * (0 + i + 1)
          unfold stepG
          simp only [List.length_append, b7]
          split <;> simp <;> omega
        show (_ : Sv) [some (.str (tx j.js)), some (.str b), some (.int (i : Nat)), some (.str [48 + a]), q3, q4, q5, q6] h = _
        refine seq_nx (asg_nm (ix_ok c_ok (call_ok (cons_ok (var_ok rfl) nil_ok) (res_ok (int1 _ ha))) (z := .str (lefts.getD a [])) (left_at ha))) ?_
        refine seq_nx (asg_nm (ten_flp (s := lefts.getD a []) nL rfl (by simp) (by omega))) ?_
        have s3 : eIf (bTest (eBin dLt (eVar 2) (eC (.int 6)))) (eIx (eIx (eC con_HEADS) (eCall (bRes bInt) (aCons (eIx (eVar 0) (eC (.int 0))) aNil))) (eVar 2)) (eC (.str [82])) [some (.str (tx j.js)), some (.str b), some (.int (i : Nat)), some (.str [48 + a]), some (.str (lefts.getD a [])), some (.str (flp (lefts.getD a []))), q5, q6] h = .ok (.str [kd j.row i]) h := by
          have c0 : atI (tx j.js) 0 = some (48 + j.d) := ev_at (j := 0) (show 0 < (tx j.js).length by omega)
          have z := eif_b (t := bTest (eBin dLt (eVar 2) (eC (.int 6)))) (a := (eIx (eIx (eC con_HEADS) (eCall (bRes bInt) (aCons (eIx (eVar 0) (eC (.int 0))) aNil))) (eVar 2))) (b := eC (.str [82])) (ρ := [some (.str (tx j.js)), some (.str b), some (.int (i : Nat)), some (.str [48 + a]), some (.str (lefts.getD a [])), some (.str (flp (lefts.getD a []))), q5, q6]) (h := h) (k := decide ((i : Int) < 6)) (x := .str [j.row.getD i 0]) (y := .str [82]) (test_ok (bin_ok (var_ok rfl) c_ok ev_ltI))
            (fun e => ix_ok (ix_ok c_ok (call_ok (cons_ok (ix_ok (var_ok rfl) c_ok (ixS_of (by omega) c0)) nil_ok) (res_ok (int1 _ o.d))) (z := .str j.row) (head_at o.d)) (var_ok rfl) (ev_ixS (by rw [ro.1]; have := of_decide_eq_true e; omega) (by rw [ro.1]; decide))) (fun _ => c_ok)
          refine z.trans ?_
          unfold kd
          by_cases h6 : i < 6
          · rw [if_pos h6, decide_eq_true (show (i : Int) < 6 by omega)]; rfl
          · rw [if_neg h6, decide_eq_false (show ¬ (i : Int) < 6 by omega)]; rfl
        refine seq_nx (asg_nm s3) ?_
        have m1 : dMul (.str [48, 49, 48, 49, 48]) (.int (if ((i : Int) == 6) = true then 1 else 0)) = some (.str (if i = 6 then gB else [])) := by
          by_cases h6 : i = 6
          · subst h6; rfl
          · rw [if_neg h6, beq_eq_false_iff_ne.mpr (show (i : Int) ≠ 6 by omega)]; rfl
        have ld : (if i = 6 then gB else []).length ≤ 5 := by split <;> simp
        refine asg_nm (bin_ok (bin_ok (var_ok rfl) (bin_ok c_ok (call_ok (cons_ok (bin_ok (var_ok rfl) c_ok ev_eqI) nil_ok) (res_ok ev_intB)) m1) (addS (by omega))) (pick3 (k := kd j.row i) hk (a := lefts.getD a []) (b := flp (lefts.getD a [])) rfl rfl rfl (by rw [flp_len]; omega)) (addS ?_))
        rw [← blk_eq, b7, List.length_append]; omega) (by simp)
  have el := e2
  simp only [List.length_zipIdx, List.length_append, o.l, o.r] at el
  refine seq_nx (for_of it e1) (ret_ok (bin_ok (var_ok rfl) c_ok ((addS (by simp only [List.length_cons, List.length_nil]; omega)).trans (by rw [fold_S o]))))
end
end K19

set_option Elab.async false
set_option linter.all false
set_option maxRecDepth 100000
set_option maxHeartbeats 4000000
namespace K19
open PySem PySem.Spec PyProof.Rows L2 Sh
local macro_rules | `(tactic| walk_at "len") => `(tactic| first | assumption | omega | (simp only [List.length_append, List.length_cons, List.length_nil, List.length_map, List.length_reverse, List.length_take, List.length_drop, List.length_dropLast, List.length_flatten, List.length_replicate, List.length_singleton]; omega) | (simp; omega) | decide)
local macro_rules | `(tactic| walk_at "op") => `(tactic| first
  | (with_reducible exact ev_addI) | (with_reducible apply addS; walk_at "len") | (with_reducible apply addL; walk_at "len")
  | (with_reducible exact ev_iaddI) | (with_reducible apply iaddS; walk_at "len")
  | (with_reducible exact ev_sub) | (with_reducible exact ev_neg)
  | (with_reducible exact ev_eqI) | (with_reducible exact ev_neI) | (with_reducible exact ev_eqS) | (with_reducible exact ev_neS) | (with_reducible exact ev_eqB) | (with_reducible exact ev_neB)
  | (with_reducible exact ev_ltI) | (with_reducible exact ev_leI) | (with_reducible exact ev_gtI) | (with_reducible exact ev_geI)
  | (with_reducible apply ev_modN; omega) | (with_reducible apply ev_mod; omega)
  | (with_reducible apply lenS; walk_at "len") | (with_reducible exact ev_lenL) | (with_reducible exact ev_lenT) | (with_reducible exact ev_lenF)
  | (with_reducible apply slS; walk_at "len") | (with_reducible exact slL)
  | (with_reducible apply revS; walk_at "len"))
local macro_rules | `(tactic| walk_at "val") => `(tactic| first | assumption | rfl | decide | simp [*])
local macro_rules | `(tactic| walk_at "ev") => `(tactic| first
  | (with_reducible assumption)
  | (with_reducible exact c_ok)
  | ((with_reducible apply var_ok); first | assumption | rfl)
  | (with_reducible exact nil_ok) | (with_reducible exact ono_ok)
  | ((with_reducible apply cons_ok); (walk_at "ev"); (walk_at "ev"))
  | ((with_reducible apply oyes_ok); (walk_at "ev"))
  | ((with_reducible apply bin_ok); (walk_at "ev"); (walk_at "ev"); (walk_at "op"))
  | ((with_reducible apply un_ok); (walk_at "ev"); (walk_at "op"))
  | ((with_reducible apply call_ok); (walk_at "ev"); (first | ((with_reducible apply res_ok); (walk_at "op")) | (walk_at "fn")))
  | ((with_reducible apply sl_ok); (walk_at "ev"); (walk_at "ev"); (walk_at "ev"); (walk_at "op"))
  | ((with_reducible apply revX_ok); (walk_at "ev"); (walk_at "op"))
  | ((with_reducible apply tup_ok); (walk_at "ev"); rfl)
  | ((with_reducible apply lst_ok); (walk_at "ev"); rfl)
  | ((with_reducible apply test_of); (walk_at "ev"); (walk_at "val"))
  | ((with_reducible apply or_nn); (walk_at "ev"); (walk_at "ev"))
  | ((with_reducible apply or_yes); (walk_at "ev"))
  | ((with_reducible apply and_yes); (walk_at "ev"); (walk_at "ev"))
  | ((with_reducible apply and_no); (walk_at "ev"))
  | ((with_reducible apply not_of); (walk_at "ev"); (walk_at "val"))
  | ((with_reducible apply eif_yes); (walk_at "ev"); (walk_at "ev"))
  | ((with_reducible apply eif_no); (walk_at "ev"); (walk_at "ev"))
  | ((with_reducible apply chain_ok); (walk_at "ev"); (walk_at "ev"); (walk_at "op"); (walk_at "ev"); (walk_at "op")))

/-! ### mended -/
abbrev kvD (ks : List (List Nat)) : List (Key × D) := ks.map fun k => ((Sum.inr (S k) : Key), D.bl true)
def addK (ks : List (List Nat)) (x : List Nat) : List (List Nat) := if x = [] then ks else if x ∈ ks then ks else ks ++ [x]
theorem addK_mem {ks : List (List Nat)} {x y : List Nat} (h : y ∈ ks) : y ∈ addK ks x := by
  unfold addK
  split
  · exact h
  · split
    · exact h
    · exact List.mem_append_left _ h
theorem addK_self {ks : List (List Nat)} {x : List Nat} (h : x ≠ []) : x ∈ addK ks x := by
  unfold addK
  rw [if_neg h]
  split
  · assumption
  · exact List.mem_append_right _ (List.mem_singleton.mpr rfl)
theorem addK_len (ks : List (List Nat)) (x : List Nat) : (addK ks x).length ≤ ks.length + 1 := by
  unfold addK
  split
  · omega
  · split
    · omega
    · simp
theorem addK_all {P : List Nat → Prop} {ks : List (List Nat)} {x : List Nat} (h : ∀ y ∈ ks, P y) (hx : x = [] ∨ P x) : ∀ y ∈ addK ks x, P y := by
  intro y hy
  unfold addK at hy
  split at hy
  · exact h y hy
  · rename_i h0
    split at hy
    · exact h y hy
    · rcases List.mem_append.mp hy with hy | hy
      · exact h y hy
      · rw [List.mem_singleton.mp hy]
        exact hx.resolve_left h0
theorem kv_any (ks : List (List Nat)) (x : List Nat) : ((kvD ks).any fun kv => decide (kv.1 = (Sum.inr (S x) : Key))) = decide (x ∈ ks) := by
  induction ks with
  | nil => rfl
  | cons a r ih =>
    show (decide ((Sum.inr (S a) : Key) = Sum.inr (S x)) || (kvD r).any _) = _
    rw [ih]
    by_cases h : a = x
    · subst h; simp
    · have h1 : ¬ ((Sum.inr (S a) : Key) = Sum.inr (S x)) := fun z => h (S_inj (Sum.inr.inj z))
      rw [decide_eq_false h1, Bool.false_or]
      exact decide_eq_decide.mpr ⟨fun z => List.mem_cons_of_mem _ z, fun z => by
        rcases List.mem_cons.mp z with e | z
        · exact absurd e.symm h
        · exact z⟩
theorem put_kv {ks : List (List Nat)} {x : List Nat} (hx : x ≠ []) : mergeD (kvD ks) [(Sum.inr (S x), D.bl true)] = kvD (addK ks x) := by
  show putD (kvD ks) (Sum.inr (S x)) (D.bl true) = _
  unfold putD addK
  rw [kv_any, if_neg hx]
  by_cases h : x ∈ ks
  · rw [if_pos h, if_pos (decide_eq_true h)]
    unfold kvD
    rw [List.map_map]
    refine List.map_congr_left fun k _ => ?_
    show (if (Sum.inr (S k) : Key) = Sum.inr (S x) then ((Sum.inr (S k) : Key), D.bl true) else (Sum.inr (S k), D.bl true)) = _
    split <;> rfl
  · rw [if_neg h, decide_eq_false h, if_neg Bool.false_ne_true]
    unfold kvD
    rw [List.map_append]; rfl
/-- a text that read_one_way may tell -/
def GoodTx (x : List Nat) : Prop := ∃ js : List Nat, js.length = 13 ∧ (∀ i ∈ js, i < 10) ∧ ck js.dropLast = js.getLastD 0 ∧ x = tx js
theorem rd_good_or (s : List Nat) : rd s = [] ∨ GoodTx (rd s) := by
  by_cases hc : s.length = 95 ∧ guards s = true
  · unfold rd
    rw [if_pos hc]
    unfold rdK
    by_cases h1 : ((lft s ++ rgt s).any fun p => p.1 == []) = true
    · rw [if_pos h1]; exact .inl rfl
    · rw [if_neg h1]
      cases e : idxN ((lft s).map (·.2)).flatten heads 0 with
      | none => exact .inl rfl
      | some j =>
        simp only
        split
        · rename_i hk
          refine .inr ⟨_, ?_, ?_, hk, rfl⟩
          · rfl
          · have hj : j < 10 := by have := idx_lt e; rw [heads_len] at this; omega
            have ne : ∀ p ∈ lft s ++ rgt s, ∃ j < 10, p.1 = [48 + j] := by
              intro p hp
              have fo : p = ([], []) ∨ ∃ j k, j < 10 ∧ p = ([48 + j], [k]) := by
                unfold lft rgt at hp
                rcases List.mem_append.mp hp with hp | hp
                · obtain ⟨i, _, rfl⟩ := List.mem_map.mp hp; exact fi_or _ _
                · obtain ⟨i, _, rfl⟩ := List.mem_map.mp hp; exact fi_or _ _
              rcases fo with e | ⟨j, k, hj, e⟩
              · exact absurd (List.any_eq_true.mpr ⟨p, hp, by rw [e]; rfl⟩) h1
              · exact ⟨j, hj, by rw [e]⟩
            intro i hi
            rcases List.mem_cons.mp hi with e | hi
            · rw [e]; exact hj
            · exact (dg_flat ne).2 i hi
        · exact .inl rfl
  · unfold rd
    rw [if_neg hc]; exact .inl rfl
theorem set_end {h : LH} {o o' : LO} : (h ++ [o]).set h.length o' = h ++ [o'] := by
  rw [List.set_append_right _ _ (Nat.le_refl _), Nat.sub_self]; rfl
theorem get_end {h : LH} {o : LO} : (h ++ [o])[h.length]? = some o := by
  rw [List.getElem?_append_right (Nat.le_refl _), Nat.sub_self]; rfl
abbrev eUpd : Ev := eMt "dict" (mUpdate) (eVar 1) (aCons (eIf (bTest (eBin dNe (eVar 5) (eC (.str [])))) (eDic [((eVar 5), (eC (.bl true)))]) (eC (.dic []))) aNil)
theorem upd_ok {h : LH} {ks : List (List Nat)} {x : List Nat} {ρ : En} (v1 : ρ[1]? = some (some (.obj h.length))) (v5 : ρ[5]? = some (some (.str x))) (hl : ks.length ≤ 1000) : sExpr eUpd ρ (h ++ [.dic (kvD ks)]) = .nx ρ (h ++ [.dic (kvD (addK ks x))]) := by
  have ty : tyD "dict" (.obj h.length) (h ++ [.dic (kvD ks)]) = true := by
    show (match (h ++ [LO.dic (kvD ks)])[h.length]? with
      | some (.lst _) => decide ("dict" = "list")
      | some (.dic _) => decide ("dict" = "dict")
      | some (.dt _) => decide ("dict" = "dict")
      | _ => false) = true
    rw [get_end]; rfl
  have lk : (kvD ks).length = ks.length := List.length_map ..
  by_cases hx : x = []
  · subst hx
    have a1 : (eIf (bTest (eBin dNe (eVar 5) (eC (.str [])))) (eDic [((eVar 5), (eC (.bl true)))]) (eC (.dic []))) ρ (h ++ [.dic (kvD ks)]) = .ok (.dic []) (h ++ [.dic (kvD ks)]) := eif_no (test_ok (bin_ok (var_ok v5) c_ok neS_same)) c_ok
    refine expr_ok (mt_ok (var_ok v1) ty (cons_ok a1 nil_ok) (d := .non) ?_)
    unfold mUpdate
    simp only [get_end]
    rw [if_pos (fits_le (by rw [lk]; simp; omega)), set_end]
    show some (D.non, h ++ [LO.dic (kvD ks)]) = _
    unfold addK
    rw [if_pos rfl]
  · have a0 : eDic [((eVar 5), (eC (.bl true)))] ρ (h ++ [.dic (kvD ks)]) = .ok (.dic [(.inr (S x), .bl true)]) (h ++ [.dic (kvD ks)]) := by
      unfold eDic
      rw [dicP_cons (var_ok v5) c_ok dicP_nil (show keyD (.str x) = some (.inr (S x)) from rfl)]; rfl
    have a1 : (eIf (bTest (eBin dNe (eVar 5) (eC (.str [])))) (eDic [((eVar 5), (eC (.bl true)))]) (eC (.dic []))) ρ (h ++ [.dic (kvD ks)]) = .ok (.dic [(.inr (S x), .bl true)]) (h ++ [.dic (kvD ks)]) := eif_yes (test_ok (bin_ok (var_ok v5) c_ok (by rw [ev_neS, beq_eq_false_iff_ne.mpr hx]; rfl))) a0
    refine expr_ok (mt_ok (var_ok v1) ty (cons_ok a1 nil_ok) (d := .non) ?_)
    unfold mUpdate
    simp only [get_end]
    rw [if_pos (fits_le (by rw [lk]; simp; omega)), set_end, put_kv hx]
theorem keys_kv (ks : List (List Nat)) : keysN (kvD ks) = some ks := by
  induction ks with
  | nil => rfl
  | cons a r ih =>
    show (keysN (kvD r)).map (fun l => (S a).cps.toList :: l) = _
    rw [ih, S_toList]; rfl
def stepM (T : List Nat) (ks : List (List Nat)) (p : Nat) : List (List Nat) := addK (addK ks (rd (chg T p))) (rd (chg T p).reverse)
abbrev G4 := Option D × Option D × Option D × Option D
theorem mended_eq {T : List Nat} (hb : Bits T) (hl : T.length = 95) (h1 : rd T = []) (h2 : rd T.reverse = []) {p : Nat} (hp : p < 95) (hx : rd (chg T p) ≠ []) (h : LH) :
    ∃ ks, g_mended_good [.str T] h = .ok (.tup ((sortN ks).map .str)) (h ++ [.dic (kvD ks)]) ∧ rd (chg T p) ∈ ks ∧ (∀ x ∈ ks, GoodTx x) ∧ ks = (List.range 95).foldl (stepM T) [] := by
  have e1 := rd_eq hb.ok (by omega) h
  rw [h1] at e1
  have e2 := rd_eq (rev_bits hb).ok (by rw [List.length_reverse]; omega) h
  rw [h2] at e2
  obtain ⟨ox, f1, f2⟩ := for_ix (g := gNm 2) (m := sSeq (sAsg (eCall g_with_spot (aCons (eVar 0) (aCons (eVar 2) aNil))) (gNm 3)) (sForI (iSeq (eTup (aCons (eVar 3) (aCons (eRevX (eVar 3)) aNil)))) (gNm 4) (sSeq (sAsg (eCall g_read_one_way (aCons (eVar 4) aNil)) (gNm 5)) (sExpr eUpd))))
    (fun i : Nat => D.int (i : Nat)) (fun (_ : List (List Nat)) (q : G4) => [some (.str T), some (.obj h.length), q.1, q.2.1, q.2.2.1, q.2.2.2]) (fun ks => h ++ [.dic (kvD ks)]) (stepM T) (fun i ks => ks.length ≤ 2 * i ∧ (∀ x ∈ ks, GoodTx x) ∧ (p < i → rd (chg T p) ∈ ks)) (List.range 95) 0 [] (none, none, none, none)
    (fun i a b q hi hP => by
      have ia : a = i ∧ i < 95 := by
        have h3 := (List.getElem?_eq_some_iff.mp hi)
        obtain ⟨h4, h5⟩ := h3
        rw [List.length_range] at h4
        rw [List.getElem_range] at h5
        exact ⟨h5.symm, h4⟩
      obtain ⟨rfl, i95⟩ := ia
      obtain ⟨p1, p2, p3⟩ := hP
      rw [Nat.zero_add] at p1 p3
      have cb := chg_bits hb a
      have cl : (chg T a).length = 95 := by rw [chg_len]; exact hl
      have l1 := addK_len b (rd (chg T a))
      have l2 := addK_len (addK b (rd (chg T a))) (rd (chg T a).reverse)
      refine ⟨⟨?_, ?_, fun hpa => ?_⟩, _, _, (some (.int (a : Nat)), some (.str (chg T a)), some (.str (chg T a).reverse), some (.str (rd (chg T a).reverse))), rfl, ?_⟩
      · unfold stepM; omega
      · exact addK_all (addK_all p2 (rd_good_or _)) (rd_good_or _)
      · rw [Nat.zero_add] at hpa
        by_cases e : p = a
        · subst e
          exact addK_mem (addK_self hx)
        · exact addK_mem (addK_mem (p3 (by omega)))
      show (_ : Sv) [some (.str T), some (.obj h.length), some (.int (a : Nat)), q.2.1, q.2.2.1, q.2.2.2] _ = _
      refine seq_nx (asg_nm (call_ok (cons_ok (var_ok rfl) (cons_ok (var_ok rfl) nil_ok)) (with_spot_eq hb (by omega) (by omega) _))) ?_
      refine for_of (seq_ofT (tup_ok (cons_ok (var_ok rfl) (cons_ok (revX_ok (var_ok rfl) (revS (by rw [cl]; decide))) nil_ok)) rfl)) ?_
      refine for_cons rfl (seq_nx (asg_nm (call_ok (cons_ok (var_ok rfl) nil_ok) (rd_eq cb.ok (by omega) _))) (upd_ok rfl rfl (by omega))) ?_
      refine for_cons rfl (seq_nx (asg_nm (call_ok (cons_ok (var_ok rfl) nil_ok) (rd_eq (rev_bits cb).ok (by rw [List.length_reverse]; omega) _))) (upd_ok rfl rfl (by omega))) ?_
      rfl) ⟨Nat.zero_le _, (fun x hx => by cases hx), fun z => absurd z (Nat.not_lt_zero _)⟩
  obtain ⟨ks, hks⟩ : ∃ ks, ks = (List.range 95).foldl (stepM T) [] := ⟨_, rfl⟩
  rw [← hks] at f1 f2
  obtain ⟨m1, m2, m3⟩ := f2
  rw [List.length_range] at m1 m3
  refine ⟨ks, ?_, m3 (by omega), m2, hks⟩
  refine fn_rt rfl ?_
  show m_mended_good [some (.str T), none, none, none, none, none] h = _
  refine seq_nx (if_no (or_no (test_of (by walk_at "ev") (by rw [hl]; rfl)) (or_no (test_ok (bin_ok (call_ok (cons_ok (var_ok rfl) nil_ok) e1) c_ok neS_same)) (test_ok (bin_ok (call_ok (cons_ok (revX_ok (var_ok rfl) (revS (by omega))) nil_ok) e2) c_ok neS_same)))) rfl) ?_
  refine seq_nx (asg_nm (d := .obj h.length) (h1 := h ++ [.dic []]) rfl) ?_
  have it : iRng1 (aCons (eC (.int 95)) aNil) [some (.str T), some (.obj h.length), none, none, none, none] (h ++ [.dic []]) = .ok ⟨(List.range 95).map fun i : Nat => D.int (i : Nat), none⟩ (h ++ [.dic []]) := by
    refine (rng1N_ok (j := 95) (cons_ok c_ok nil_ok) (by decide)).trans ?_
    congr 2
  refine seq_nx (for_of it f1) ?_
  refine ret_ok (call_ok (cons_ok (call_ok (cons_ok (var_ok rfl) nil_ok) (res_ok (d := .lst ((sortN ks).map .str)) ?_)) nil_ok) (res_ok rfl))
  show bSorted [.obj h.length] (h ++ [.dic (kvD ks)]) = _
  unfold bSorted
  have sq : seqH (h ++ [LO.dic (kvD ks)]) (.obj h.length) = none := by
    show (match (h ++ [LO.dic (kvD ks)])[h.length]? with
      | some (.lst ds) => some (false, ds)
      | _ => none) = none
    rw [get_end]
  simp only [sq, get_end, keys_kv, Option.map_some]
end K19

set_option Elab.async false
set_option linter.all false
set_option maxRecDepth 100000
set_option maxHeartbeats 4000000
namespace K19
open PySem PySem.Spec PyProof.Rows L2 Sh
local macro_rules | `(tactic| walk_at "len") => `(tactic| first | assumption | omega | (simp only [List.length_append, List.length_cons, List.length_nil, List.length_map, List.length_reverse, List.length_take, List.length_drop, List.length_dropLast, List.length_flatten, List.length_replicate, List.length_singleton]; omega) | (simp; omega) | decide)
local macro_rules | `(tactic| walk_at "op") => `(tactic| first
  | (with_reducible exact ev_addI) | (with_reducible apply addS; walk_at "len") | (with_reducible apply addL; walk_at "len")
  | (with_reducible exact ev_iaddI) | (with_reducible apply iaddS; walk_at "len")
  | (with_reducible exact ev_sub) | (with_reducible exact ev_neg)
  | (with_reducible exact ev_eqI) | (with_reducible exact ev_neI) | (with_reducible exact ev_eqS) | (with_reducible exact ev_neS) | (with_reducible exact ev_eqB) | (with_reducible exact ev_neB)
  | (with_reducible exact ev_ltI) | (with_reducible exact ev_leI) | (with_reducible exact ev_gtI) | (with_reducible exact ev_geI)
  | (with_reducible apply ev_modN; omega) | (with_reducible apply ev_mod; omega)
  | (with_reducible apply lenS; walk_at "len") | (with_reducible exact ev_lenL) | (with_reducible exact ev_lenT) | (with_reducible exact ev_lenF)
  | (with_reducible apply slS; walk_at "len") | (with_reducible exact slL)
  | (with_reducible apply revS; walk_at "len"))
local macro_rules | `(tactic| walk_at "val") => `(tactic| first | assumption | rfl | decide | simp [*])
local macro_rules | `(tactic| walk_at "ev") => `(tactic| first
  | (with_reducible assumption)
  | (with_reducible exact c_ok)
  | ((with_reducible apply var_ok); first | assumption | rfl)
  | (with_reducible exact nil_ok) | (with_reducible exact ono_ok)
  | ((with_reducible apply cons_ok); (walk_at "ev"); (walk_at "ev"))
  | ((with_reducible apply oyes_ok); (walk_at "ev"))
  | ((with_reducible apply bin_ok); (walk_at "ev"); (walk_at "ev"); (walk_at "op"))
  | ((with_reducible apply un_ok); (walk_at "ev"); (walk_at "op"))
  | ((with_reducible apply call_ok); (walk_at "ev"); (first | ((with_reducible apply res_ok); (walk_at "op")) | (walk_at "fn")))
  | ((with_reducible apply sl_ok); (walk_at "ev"); (walk_at "ev"); (walk_at "ev"); (walk_at "op"))
  | ((with_reducible apply revX_ok); (walk_at "ev"); (walk_at "op"))
  | ((with_reducible apply tup_ok); (walk_at "ev"); rfl)
  | ((with_reducible apply lst_ok); (walk_at "ev"); rfl)
  | ((with_reducible apply test_of); (walk_at "ev"); (walk_at "val"))
  | ((with_reducible apply or_nn); (walk_at "ev"); (walk_at "ev"))
  | ((with_reducible apply or_yes); (walk_at "ev"))
  | ((with_reducible apply and_yes); (walk_at "ev"); (walk_at "ev"))
  | ((with_reducible apply and_no); (walk_at "ev"))
  | ((with_reducible apply not_of); (walk_at "ev"); (walk_at "val"))
  | ((with_reducible apply eif_yes); (walk_at "ev"); (walk_at "ev"))
  | ((with_reducible apply eif_no); (walk_at "ev"); (walk_at "ev"))
  | ((with_reducible apply chain_ok); (walk_at "ev"); (walk_at "ev"); (walk_at "op"); (walk_at "ev"); (walk_at "op")))

/-! ### runs -/
abbrev Rn := Nat × Nat
def flatR (rs : List Rn) : List Nat := (rs.map fun p => List.replicate p.2 p.1).flatten
def stepR (acc : List Rn) (c : Nat) : List Rn := match acc.getLast? with
  | some p => if p.1 = c then acc.dropLast ++ [(c, p.2 + 1)] else acc ++ [(c, 1)]
  | none => [(c, 1)]
def runs (s : List Nat) : List Rn := s.foldl stepR []
/-- beside each other they differ, none is empty -/
def Alt : List Rn → Prop
  | [] => True
  | [p] => 1 ≤ p.2
  | p :: q :: r => 1 ≤ p.2 ∧ p.1 ≠ q.1 ∧ Alt (q :: r)
theorem stepR_rep (c : Nat) : ∀ (n k : Nat) (acc : List Rn), (List.replicate n c).foldl stepR (acc ++ [(c, k)]) = acc ++ [(c, k + n)]
  | 0, k, acc => rfl
  | n + 1, k, acc => by
    rw [List.replicate_succ, List.foldl_cons]
    have e : stepR (acc ++ [(c, k)]) c = acc ++ [(c, k + 1)] := by
      unfold stepR
      rw [List.getLast?_append]
      simp
    rw [e, stepR_rep c n (k + 1) acc]
    rw [show k + 1 + n = k + (n + 1) by omega]
theorem runs_acc : ∀ (rs : List Rn) (acc : List Rn), Alt rs → (∀ p q, acc.getLast? = some p → rs.head? = some q → p.1 ≠ q.1) → (flatR rs).foldl stepR acc = acc ++ rs
  | [], acc, _, _ => by show acc = acc ++ []; rw [List.append_nil]
  | p :: r, acc, h, hd => by
    have h1 : 1 ≤ p.2 := by
      cases r with
      | nil => exact h
      | cons q r => exact h.1
    have hr : Alt r := by
      cases r with
      | nil => trivial
      | cons q r => exact h.2.2
    obtain ⟨n, hn⟩ : ∃ n, p.2 = n + 1 := ⟨p.2 - 1, by omega⟩
    have e1 : stepR acc p.1 = acc ++ [(p.1, 1)] := by
      unfold stepR
      cases e : acc.getLast? with
      | none => rw [List.getLast?_eq_none_iff.mp e]; rfl
      | some z =>
        simp only
        rw [if_neg (hd z p e rfl)]
    have e2 : flatR (p :: r) = List.replicate p.2 p.1 ++ flatR r := rfl
    rw [e2, List.foldl_append, hn, List.replicate_succ, List.foldl_cons, e1, stepR_rep, runs_acc r _ hr ?_]
    · rw [List.append_assoc, show 1 + n = n + 1 by omega, ← hn]; rfl
    · intro z q ez eq
      rw [List.getLast?_append] at ez
      have ez : z = (p.1, 1 + n) := by simpa using ez.symm
      cases r with
      | nil => cases eq
      | cons y r =>
        have eq : y = q := by simpa using eq
        rw [ez, ← eq]; exact h.2.1
theorem runs_flat {rs : List Rn} (h : Alt rs) : runs (flatR rs) = rs := by
  unfold runs
  rw [runs_acc rs [] h (fun p q e => by cases e), List.nil_append]
theorem alt_append : ∀ {a b : List Rn}, Alt a → Alt b → (∀ p q, a.getLast? = some p → b.head? = some q → p.1 ≠ q.1) → Alt (a ++ b)
  | [], b, _, hb, _ => hb
  | [p], b, ha, hb, h => by
    cases b with
    | nil => exact ha
    | cons q r => exact ⟨ha, h p q rfl rfl, hb⟩
  | p :: q :: r, b, ha, hb, h => ⟨ha.1, ha.2.1, alt_append (a := q :: r) ha.2.2 hb fun x y e => h x y (by rw [List.getLast?_cons_cons]; exact e)⟩
theorem alt_rev : ∀ {a : List Rn}, Alt a → Alt a.reverse
  | [], _ => trivial
  | [p], h => h
  | p :: q :: r, h => by
    rw [List.reverse_cons]
    refine alt_append (alt_rev (a := q :: r) h.2.2) h.1 fun x y e1 e2 => ?_
    rw [List.getLast?_reverse] at e1
    have e1 : q = x := by simpa using e1
    have e2 : p = y := by simpa using e2
    rw [← e1, ← e2]; exact Ne.symm h.2.1
theorem flat_rev (a : List Rn) : (flatR a).reverse = flatR a.reverse := by
  unfold flatR
  rw [List.reverse_flatten, List.map_reverse, List.map_map]
  congr 2
  refine List.map_congr_left fun p _ => ?_
  show (List.replicate p.2 p.1).reverse = _
  rw [List.reverse_replicate]
theorem flat_app (a b : List Rn) : flatR (a ++ b) = flatR a ++ flatR b := by
  unfold flatR
  rw [List.map_append, List.flatten_append]
/-! ### the program's runs -/
def dR (p : Rn) : D := .tup [.str [p.1], .int (p.2 : Nat)]
theorem neNil {acc : List Rn} (hc : ∀ p ∈ acc, p.1 < 0x110000) : dNe (.lst (acc.map dR)) (.lst []) = some (.bl (decide (acc ≠ []))) := by
  have h := dNe_e (a := acc.map fun p => ((⟨[p.1]⟩ : Tx), (p.2 : Nat))) (b := []) (by
    show List.all _ _ = true
    rw [List.all_map, List.all_eq_true]
    intro p hp
    show (txOk [p.1] && true) = true
    unfold txOk
    simp [hc p hp]) rfl (by decide)
  have e : Py.e (acc.map fun p => ((⟨[p.1]⟩ : Tx), (p.2 : Nat))) = D.lst (acc.map dR) := by
    show D.lst _ = _
    rw [List.map_map]; rfl
  rw [e] at h
  refine h.trans ?_
  cases acc <;> rfl
theorem eqNil {acc : List Rn} (hc : ∀ p ∈ acc, p.1 < 0x110000) : dEq (.lst (acc.map dR)) (.lst []) = some (.bl (decide (acc = []))) := by
  have h := dEq_e (a := acc.map fun p => ((⟨[p.1]⟩ : Tx), (p.2 : Nat))) (b := []) (by
    show List.all _ _ = true
    rw [List.all_map, List.all_eq_true]
    intro p hp
    show (txOk [p.1] && true) = true
    unfold txOk
    simp [hc p hp]) rfl (by decide)
  have e : Py.e (acc.map fun p => ((⟨[p.1]⟩ : Tx), (p.2 : Nat))) = D.lst (acc.map dR) := by
    show D.lst _ = _
    rw [List.map_map]; rfl
  rw [e] at h
  refine h.trans ?_
  cases acc <;> rfl
theorem last_dR {acc : List Rn} {p : Rn} (e : acc.getLast? = some p) : atI (acc.map dR) (-1) = some (dR p) := by
  have h0 : acc.map dR ≠ [] := by
    intro z
    rw [List.map_eq_nil_iff] at z
    rw [z] at e; cases e
  rw [at_m1 _ h0]
  have h2 : (acc.map dR).getLast? = some (dR p) := by rw [List.getLast?_map, e]; rfl
  rw [List.getLast?_eq_some_getLast h0] at h2
  exact h2
theorem last_get {acc : List Rn} {p : Rn} (e : acc.getLast? = some p) : acc = acc.dropLast ++ [p] := by
  have h0 : acc ≠ [] := by intro z; rw [z] at e; cases e
  rw [List.getLast?_eq_some_getLast h0] at e
  rw [← Option.some.inj e]
  exact (List.dropLast_concat_getLast h0).symm
theorem stepR_ok {acc : List Rn} {c : Nat} {s : List Nat} (h1 : ∀ p ∈ acc, p.1 ∈ s) (h2 : c ∈ s) : (∀ p ∈ stepR acc c, p.1 ∈ s) ∧ (stepR acc c).length ≤ acc.length + 1 := by
  unfold stepR
  cases e : acc.getLast? with
  | none => exact ⟨(fun p hp => by have : p = (c, 1) := by simpa using hp
                                   rw [this]; exact h2), by simp⟩
  | some z =>
    simp only
    split
    · refine ⟨fun p hp => ?_, ?_⟩
      · rcases List.mem_append.mp hp with hp | hp
        · exact h1 p (List.dropLast_subset _ hp)
        · rw [List.mem_singleton.mp hp]; exact h2
      · rw [List.length_append, List.length_dropLast, List.length_singleton]; omega
    · refine ⟨fun p hp => ?_, by simp⟩
      rcases List.mem_append.mp hp with hp | hp
      · exact h1 p hp
      · rw [List.mem_singleton.mp hp]; exact h2
theorem subH_ok {mo mi : Ev} {ρ : En} {h h1 h2 h3 : LH} {n : Nat} {k d : D} (ho : mo ρ h = .ok (.obj n) h1) (hi : mi ρ h1 = .ok k h2) (hs : setH n k d h2 = some h3) : gSubH mo mi d ρ h = some (ρ, h3) := by
  unfold gSubH
  rw [ho]
  simp only
  rw [hi]
  simp only
  rw [hs]; rfl
theorem setH_m1 {n : Nat} {d y : D} {xs : List D} {h : LH} (e : h[n]? = some (.lst (xs ++ [y]))) : setH n (.int (-1)) d h = some (h.set n (.lst (xs ++ [d]))) := by
  unfold setH
  rw [e]
  simp only
  have e1 : ixN (xs ++ [y]).length (-1) = some xs.length := by
    unfold ixN
    rw [if_neg (by omega), if_pos (by rw [List.length_append, List.length_singleton]; omega)]
    rw [List.length_append, List.length_singleton]
    congr 1; omega
  rw [e1, Option.map_some, List.set_append_right _ _ (Nat.le_refl _), Nat.sub_self]; rfl
theorem ev_m1 {ρ : En} {h : LH} : eUn dNeg (eC (.int 1)) ρ h = .ok (.int (-1)) h := rfl
theorem runs_eq {s : List Nat} (hs : ∀ c ∈ s, c < 0x110000) (hl : s.length ≤ 10000) (h : LH) : g_runs_in_stripes [.str s] h = .ok (.lst ((runs s).map dR)) (h ++ [.gone]) := by
  refine fn_rt rfl ?_
  show m_runs_in_stripes [some (.str s), none, none] h = _
  refine seq_nx (asg_nm (d := .obj h.length) (h1 := h ++ [.lst []]) rfl) ?_
  obtain ⟨ox, f1, f2⟩ := for_ix (g := gNm 2) (m := sIf (bAnd (bTest (eBinH dNe (eVar 1) (eLst aNil))) (bTest (eBin dEq (eIx (eIx (eVar 1) (eUn dNeg (eC (.int 1)))) (eC (.int 0))) (eVar 2)))) (sAsg (eTup (aCons (eVar 2) (aCons (eBin dAdd (eIx (eIx (eVar 1) (eUn dNeg (eC (.int 1)))) (eC (.int 1))) (eC (.int 1))) aNil))) (gSubH (eVar 1) (eUn dNeg (eC (.int 1))))) (sExpr (eMt "list" (mAppend) (eVar 1) (aCons (eTup (aCons (eVar 2) (aCons (eC (.int 1)) aNil))) aNil))))
    (fun c : Nat => D.str [c]) (fun (_ : List Rn) (q : Option D) => [some (.str s), some (.obj h.length), q]) (fun acc => h ++ [.lst (acc.map dR)]) stepR (fun i acc => acc.length ≤ i ∧ ∀ p ∈ acc, p.1 ∈ s) s 0 [] none
    (fun i c acc q hi hP => by
      obtain ⟨p1, p2⟩ := hP
      rw [Nat.zero_add] at p1
      have hc := List.mem_of_getElem? hi
      have hil : i < s.length := (List.getElem?_eq_some_iff.mp hi).1
      obtain ⟨k1, k2⟩ := stepR_ok p2 hc
      have hcp : ∀ p ∈ acc, p.1 < 0x110000 := fun p hp => hs _ (p2 p hp)
      refine ⟨⟨by omega, k1⟩, _, _, some (.str [c]), rfl, ?_⟩
      show (_ : Sv) [some (.str s), some (.obj h.length), some (.str [c])] (h ++ [.lst (acc.map dR)]) = _
      have tp : topL (h ++ [LO.lst (acc.map dR)]) (.obj h.length) = .lst (acc.map dR) := by
        show (match (h ++ [LO.lst (acc.map dR)])[h.length]? with
          | some (.lst xs) => D.lst xs
          | _ => D.obj h.length) = _
        rw [get_end]
      have t1 : bTest (eBinH dNe (eVar 1) (eLst aNil)) [some (.str s), some (.obj h.length), some (.str [c])] (h ++ [.lst (acc.map dR)]) = .ok (decide (acc ≠ [])) (h ++ [.lst (acc.map dR)]) := by
        refine test_ok (binH_ok (var_ok rfl) (lst_ok nil_ok rfl) ?_)
        rw [tp, topL_id (fun n z => by cases z)]
        exact neNil hcp
      have la : (acc.map dR).length = acc.length := List.length_map ..
      have mapp : sExpr (eMt "list" (mAppend) (eVar 1) (aCons (eTup (aCons (eVar 2) (aCons (eC (.int 1)) aNil))) aNil)) [some (.str s), some (.obj h.length), some (.str [c])] (h ++ [.lst (acc.map dR)]) = .nx [some (.str s), some (.obj h.length), some (.str [c])] (h ++ [.lst ((acc ++ [(c, 1)]).map dR)]) := by
        refine (expr_ok (append_ok (var_ok rfl) (cons_ok (tup_ok (cons_ok (var_ok rfl) (cons_ok c_ok nil_ok)) rfl) nil_ok) ⟨_, get_end⟩ get_end (fits_le (by rw [la]; omega)))).trans ?_
        rw [set_end, List.map_append]; rfl
      cases el : acc.getLast? with
      | none =>
        have ea := List.getLast?_eq_none_iff.mp el
        subst ea
        exact if_no (and_no t1) mapp
      | some z =>
        have ne : acc ≠ [] := by intro y; rw [y] at el; cases el
        rw [decide_eq_true ne] at t1
        have lz := last_dR el
        have ix1 : dIx (h ++ [LO.lst (acc.map dR)]) (.obj h.length) (.int (-1)) = some (dR z) := (ev_ixO get_end).trans lz
        have g0 : dIx (h ++ [LO.lst (acc.map dR)]) (dR z) (.int 0) = some (.str [z.1]) := rfl
        have g1 : dIx (h ++ [LO.lst (acc.map dR)]) (dR z) (.int 1) = some (.int (z.2 : Nat)) := rfl
        have t2 : bTest (eBin dEq (eIx (eIx (eVar 1) (eUn dNeg (eC (.int 1)))) (eC (.int 0))) (eVar 2)) [some (.str s), some (.obj h.length), some (.str [c])] (h ++ [.lst (acc.map dR)]) = .ok (decide (z.1 = c)) (h ++ [.lst (acc.map dR)]) :=
          test_of (bin_ok (ix_ok (ix_ok (var_ok rfl) ev_m1 ix1) c_ok g0) (var_ok rfl) ev_eqS) (one_beq _ _)
        by_cases hz : z.1 = c
        · rw [decide_eq_true hz] at t2
          refine if_yes (and_yes t1 t2) (asg_g (d := dR (c, z.2 + 1)) (tup_ok (cons_ok (var_ok rfl) (cons_ok (bin_ok (ix_ok (ix_ok (var_ok rfl) ev_m1 ix1) c_ok g1) c_ok ev_addI) nil_ok)) rfl) ?_)
          have es : stepR acc c = acc.dropLast ++ [(c, z.2 + 1)] := by unfold stepR; rw [el]; simp only; rw [if_pos hz]
          rw [es]
          have e9 := last_get el
          have ln : acc.length = acc.dropLast.length + 1 := by rw [List.length_dropLast]; have := List.length_pos_iff.mpr ne; omega
          have em : acc.map dR = acc.dropLast.map dR ++ [dR z] := by
            have q := congrArg (List.map dR) e9
            rw [List.map_append] at q
            exact q
          refine (subH_ok (var_ok rfl) ev_m1 (setH_m1 (xs := acc.dropLast.map dR) (y := dR z) (by rw [get_end, em]))).trans ?_
          rw [set_end, List.map_append]; rfl
        · rw [decide_eq_false hz] at t2
          have es : stepR acc c = acc ++ [(c, 1)] := by unfold stepR; rw [el]; simp only; rw [if_neg hz]
          rw [es]
          exact if_no (and_yes t1 t2) mapp) ⟨Nat.zero_le _, fun p hp => by cases hp⟩
  refine seq_nx (for_of (seq_ofS (var_ok rfl)) f1) ?_
  refine retF_ok (var_ok rfl) ?_
  unfold frzD
  simp only [get_end]
  rw [set_end]; rfl
end K19

set_option Elab.async false
set_option linter.all false
set_option maxRecDepth 100000
set_option maxHeartbeats 4000000
namespace K19
open PySem PySem.Spec PyProof.Rows L2 Sh
local macro_rules | `(tactic| walk_at "len") => `(tactic| first | assumption | omega | (simp only [List.length_append, List.length_cons, List.length_nil, List.length_map, List.length_reverse, List.length_take, List.length_drop, List.length_dropLast, List.length_flatten, List.length_replicate, List.length_singleton]; omega) | (simp; omega) | decide)
local macro_rules | `(tactic| walk_at "op") => `(tactic| first
  | (with_reducible exact ev_addI) | (with_reducible apply addS; walk_at "len") | (with_reducible apply addL; walk_at "len")
  | (with_reducible exact ev_iaddI) | (with_reducible apply iaddS; walk_at "len")
  | (with_reducible exact ev_sub) | (with_reducible exact ev_neg)
  | (with_reducible exact ev_eqI) | (with_reducible exact ev_neI) | (with_reducible exact ev_eqS) | (with_reducible exact ev_neS) | (with_reducible exact ev_eqB) | (with_reducible exact ev_neB)
  | (with_reducible exact ev_ltI) | (with_reducible exact ev_leI) | (with_reducible exact ev_gtI) | (with_reducible exact ev_geI)
  | (with_reducible apply ev_modN; omega) | (with_reducible apply ev_mod; omega)
  | (with_reducible apply lenS; walk_at "len") | (with_reducible exact ev_lenL) | (with_reducible exact ev_lenT) | (with_reducible exact ev_lenF)
  | (with_reducible apply slS; walk_at "len") | (with_reducible exact slL)
  | (with_reducible apply revS; walk_at "len"))
local macro_rules | `(tactic| walk_at "val") => `(tactic| first | assumption | rfl | decide | simp [*])
local macro_rules | `(tactic| walk_at "ev") => `(tactic| first
  | (with_reducible assumption)
  | (with_reducible exact c_ok)
  | ((with_reducible apply var_ok); first | assumption | rfl)
  | (with_reducible exact nil_ok) | (with_reducible exact ono_ok)
  | ((with_reducible apply cons_ok); (walk_at "ev"); (walk_at "ev"))
  | ((with_reducible apply oyes_ok); (walk_at "ev"))
  | ((with_reducible apply bin_ok); (walk_at "ev"); (walk_at "ev"); (walk_at "op"))
  | ((with_reducible apply un_ok); (walk_at "ev"); (walk_at "op"))
  | ((with_reducible apply call_ok); (walk_at "ev"); (first | ((with_reducible apply res_ok); (walk_at "op")) | (walk_at "fn")))
  | ((with_reducible apply sl_ok); (walk_at "ev"); (walk_at "ev"); (walk_at "ev"); (walk_at "op"))
  | ((with_reducible apply revX_ok); (walk_at "ev"); (walk_at "op"))
  | ((with_reducible apply tup_ok); (walk_at "ev"); rfl)
  | ((with_reducible apply lst_ok); (walk_at "ev"); rfl)
  | ((with_reducible apply test_of); (walk_at "ev"); (walk_at "val"))
  | ((with_reducible apply or_nn); (walk_at "ev"); (walk_at "ev"))
  | ((with_reducible apply or_yes); (walk_at "ev"))
  | ((with_reducible apply and_yes); (walk_at "ev"); (walk_at "ev"))
  | ((with_reducible apply and_no); (walk_at "ev"))
  | ((with_reducible apply not_of); (walk_at "ev"); (walk_at "val"))
  | ((with_reducible apply eif_yes); (walk_at "ev"); (walk_at "ev"))
  | ((with_reducible apply eif_no); (walk_at "ev"); (walk_at "ev"))
  | ((with_reducible apply chain_ok); (walk_at "ev"); (walk_at "ev"); (walk_at "op"); (walk_at "ev"); (walk_at "op")))

/-! ### signs by nines -/
def sgs : List Nat := tab_NINES.map fun p => p.1.headD 0
def pat (c : Nat) : List Nat := match lookN tab_NINES [c] with
  | some (.str s) => s
  | _ => []
def runC (c : Nat) : List Rn := (pat c).zipIdx.map fun p => (if p.2 % 2 = 0 then 49 else 48, p.1 - 48 + 1)
def altB : List Rn → Bool
  | [] => true
  | [p] => decide (1 ≤ p.2)
  | p :: q :: r => decide (1 ≤ p.2) && !(p.1 == q.1) && altB (q :: r)
theorem altB_ok : ∀ {l : List Rn}, altB l = true → Alt l
  | [], _ => trivial
  | [p], h => show 1 ≤ p.2 from of_decide_eq_true h
  | p :: q :: r, h => by
    unfold altB at h
    simp only [Bool.and_eq_true, Bool.not_eq_true', beq_eq_false_iff_ne, decide_eq_true_eq] at h
    exact ⟨h.1.1, h.1.2, altB_ok h.2⟩
/-- the table as signs and parts -/
def nt : List (Nat × List Nat) := sgs.map fun c => (c, pat c)
theorem nt_eq : tab_NINES = nt.map fun p => ([p.1], .str p.2) := by kernel_rfl
def fS : Bool := sgs.all fun c => altB (runC c) && (runC c).length == 9 && (runC c).head?.map (·.1) == some 49 && (runC c).getLast?.map (·.1) == some 49 && (runC c).all (fun p => decide (1 ≤ p.2) && decide (p.2 ≤ 2)) && decide (c < 128) &&
  (runC c).map (fun p => p.2 - 1 + 48) == pat c && (nt.filter fun p => p.2 == pat c).map (·.1) == [c] && (lookN tab_NINES [c]).isSome
theorem fS_ok : fS = true := by decide +kernel
structure SgOk (c : Nat) : Prop where
  alt : Alt (runC c)
  len : (runC c).length = 9
  hd : ∃ k, (runC c).head? = some (49, k)
  lst : ∃ k, (runC c).getLast? = some (49, k)
  two : ∀ p ∈ runC c, 1 ≤ p.2 ∧ p.2 ≤ 2
  low : c < 128
  wid : (runC c).map (fun p => p.2 - 1 + 48) = pat c
  able : (nt.filter fun p => p.2 == pat c).map (·.1) = [c]
  look : lookN tab_NINES [c] = some (.str (pat c))
theorem map_fst {o : Option Rn} (h : (o.map (·.1) == some 49) = true) : ∃ k, o = some (49, k) := by
  have h := eq_of_beq h
  cases o with
  | none => cases h
  | some p =>
    obtain ⟨a, b⟩ := p
    have : a = 49 := Option.some.inj h
    exact ⟨b, by rw [this]⟩
theorem lookN_str {c : Nat} : ∀ {l : List (Nat × List Nat)}, (lookN (l.map fun p => ([p.1], D.str p.2)) [c]).isSome = true → ∃ s, lookN (l.map fun p => ([p.1], D.str p.2)) [c] = some (.str s)
  | [], h => by cases h
  | p :: r, h => by
    rw [List.map_cons] at h ⊢
    unfold lookN at h ⊢
    by_cases e : ([p.1] : List Nat) = [c]
    · rw [if_pos e]; exact ⟨_, rfl⟩
    · rw [if_neg e] at h ⊢
      exact lookN_str h
theorem sg_ok {c : Nat} (hc : c ∈ sgs) : SgOk c := by
  have h := List.all_eq_true.mp fS_ok c hc
  simp only [Bool.and_eq_true] at h
  obtain ⟨⟨⟨⟨⟨⟨⟨⟨h1, h2⟩, h3⟩, h4⟩, h5⟩, h6⟩, h7⟩, h8⟩, h9⟩ := h
  refine ⟨altB_ok h1, eq_of_beq h2, map_fst h3, map_fst h4, fun p hp => ?_, of_decide_eq_true h6, eq_of_beq h7, eq_of_beq h8, ?_⟩
  · have := List.all_eq_true.mp h5 p hp
    rw [Bool.and_eq_true] at this
    exact ⟨of_decide_eq_true this.1, of_decide_eq_true this.2⟩
  · rw [nt_eq] at h9
    obtain ⟨s, e⟩ := lookN_str h9
    rw [← nt_eq] at e
    have : pat c = s := by unfold pat; rw [e]
    rw [this]; exact e
def seg (c : Nat) : List Nat := flatR (runC c)
/-- the runs of signs one behind another -/
def RR : List Nat → List Rn
  | [] => []
  | [c] => runC c
  | c :: d :: r => runC c ++ ((48, 1) :: RR (d :: r))
def NN (full : List Nat) : List Nat := joinN [48] (full.map seg)
theorem NN_flat : ∀ full : List Nat, NN full = flatR (RR full)
  | [] => rfl
  | [c] => rfl
  | c :: d :: r => by
    have ih := NN_flat (d :: r)
    show seg c ++ ([48] ++ NN (d :: r)) = flatR (runC c ++ ([(48, 1)] ++ RR (d :: r)))
    rw [flat_app, flat_app, ih]; rfl
section
theorem RR_len : ∀ {full : List Nat}, (∀ c ∈ full, c ∈ sgs) → full ≠ [] → (RR full).length + 1 = 10 * full.length
  | [], _, h => absurd rfl h
  | [c], h, _ => by show (runC c).length + 1 = 10; rw [(sg_ok (h c (by simp))).len]
  | c :: d :: r, h, _ => by
    have ih := RR_len (full := d :: r) (fun x hx => h x (List.mem_cons_of_mem _ hx)) (by simp)
    show (runC c ++ ((48, 1) :: RR (d :: r))).length + 1 = _
    rw [List.length_append, (sg_ok (h c (by simp))).len, List.length_cons, List.length_cons]; omega
theorem RR_head : ∀ {full : List Nat}, (∀ c ∈ full, c ∈ sgs) → full ≠ [] → ∃ k, (RR full).head? = some (49, k)
  | [], _, h => absurd rfl h
  | [c], h, _ => (sg_ok (h c (by simp))).hd
  | c :: d :: r, h, _ => by
    obtain ⟨k, e⟩ := (sg_ok (h c (by simp))).hd
    refine ⟨k, ?_⟩
    show (runC c ++ ((48, 1) :: RR (d :: r))).head? = _
    rw [List.head?_append, e]; rfl
theorem RR_alt : ∀ {full : List Nat}, (∀ c ∈ full, c ∈ sgs) → Alt (RR full)
  | [], _ => trivial
  | [c], h => (sg_ok (h c (by simp))).alt
  | c :: d :: r, h => by
    have h2 : ∀ x ∈ d :: r, x ∈ sgs := fun x hx => h x (List.mem_cons_of_mem _ hx)
    have ih := RR_alt h2
    obtain ⟨k, ek⟩ := RR_head h2 (by simp)
    obtain ⟨l, el⟩ := (sg_ok (h c (by simp))).lst
    have a2 : Alt ((48, 1) :: RR (d :: r)) := by
      cases e : RR (d :: r) with
      | nil => rw [e] at ek; cases ek
      | cons q t =>
        rw [e] at ih ek
        have eq : q = (49, k) := by simpa using ek
        exact ⟨Nat.le_refl 1, by rw [eq]; show (48 : Nat) ≠ 49; decide, ih⟩
    exact alt_append (sg_ok (h c (by simp))).alt a2 fun p q e1 e2 => by
      rw [el] at e1
      have e1 : (49, l) = p := Option.some.inj e1
      have e2 : ((48, 1) : Rn) = q := Option.some.inj e2
      rw [← e1, ← e2]; show (49 : Nat) ≠ 48; decide
theorem RR_two : ∀ {full : List Nat}, (∀ c ∈ full, c ∈ sgs) → ∀ p ∈ RR full, 1 ≤ p.2 ∧ p.2 ≤ 2
  | [], _, p, hp => by cases hp
  | [c], h, p, hp => (sg_ok (h c (by simp))).two p hp
  | c :: d :: r, h, p, hp => by
    have hp : p ∈ runC c ++ ((48, 1) :: RR (d :: r)) := hp
    rcases List.mem_append.mp hp with hp | hp
    · exact (sg_ok (h c (by simp))).two p hp
    · rcases List.mem_cons.mp hp with e | hp
      · rw [e]; exact ⟨Nat.le_refl 1, by decide⟩
      · exact RR_two (fun x hx => h x (List.mem_cons_of_mem _ hx)) p hp
theorem RR_at : ∀ {full : List Nat}, (∀ c ∈ full, c ∈ sgs) → ∀ i c, full[i]? = some c → ((RR full).take (10 * i + 9)).drop (10 * i) = runC c ∧ (i + 1 < full.length → (RR full)[10 * i + 9]? = some (48, 1))
  | [], _, i, c, e => by simp at e
  | [a], h, i, c, e => by
    cases i with
    | zero =>
      have e : a = c := by simpa using e
      subst e
      refine ⟨?_, fun z => absurd z (by simp)⟩
      show ((runC a).take 9).drop 0 = runC a
      rw [List.drop_zero, List.take_of_length_le (by rw [(sg_ok (h a (by simp))).len]; exact Nat.le_refl 9)]
    | succ i => simp at e
  | a :: d :: r, h, i, c, e => by
    have la := (sg_ok (h a (by simp))).len
    have ih := RR_at (full := d :: r) fun x hx => h x (List.mem_cons_of_mem _ hx)
    show ((runC a ++ ((48, 1) :: RR (d :: r))).take (10 * i + 9)).drop (10 * i) = runC c ∧ (_ → (runC a ++ ((48, 1) :: RR (d :: r)))[10 * i + 9]? = some (48, 1))
    cases i with
    | zero =>
      have e : a = c := by simpa using e
      subst e
      refine ⟨?_, fun _ => ?_⟩
      · rw [Nat.mul_zero, List.drop_zero, Nat.zero_add, ← la, List.take_left]
      · rw [Nat.mul_zero, Nat.zero_add, List.getElem?_append_right (by omega), la]; rfl
    | succ i =>
      have e : (d :: r)[i]? = some c := e
      obtain ⟨i1, i2⟩ := ih i c e
      have l10 : (runC a ++ [(48, 1)]).length = 10 := by rw [List.length_append, la]; rfl
      have ea : runC a ++ ((48, 1) :: RR (d :: r)) = (runC a ++ [(48, 1)]) ++ RR (d :: r) := by rw [List.append_assoc]; rfl
      rw [ea]
      refine ⟨?_, fun hl => ?_⟩
      · rw [show 10 * (i + 1) + 9 = (runC a ++ [(48, 1)]).length + (10 * i + 9) by omega, List.take_length_add_append, show 10 * (i + 1) = (runC a ++ [(48, 1)]).length + 10 * i by omega, ← List.drop_drop, List.drop_left]
        exact i1
      · rw [List.getElem?_append_right (by omega), l10, show 10 * (i + 1) + 9 - 10 = 10 * i + 9 by omega]
        exact i2 (by simpa using hl)
end
/-! ### nine_stripes, the law's own -/
theorem inner_ok {c : Nat} (hc : c ∈ sgs) (x0 x2 x4 x5 : Option D) (h : LH) : ∃ y4 y5, sForI (iEnumS (aCons (eKix tab_NINES (eVar 1)) aNil)) (gTp 2 (gCns (gNm 4) (gCns (gNm 5) gNils))) (sAug dIAdd 3 (eBin dMul (eIx (eC (.str [49, 48])) (eBin dMod (eVar 4) (eC (.int 2)))) (eIf (bTest (eBin dEq (eVar 5) (eC (.str [49])))) (eC (.int 2)) (eC (.int 1)))))
    [x0, some (.str [c]), x2, some (.str []), x4, x5] h = .nx [x0, some (.str [c]), x2, some (.str (seg c)), y4, y5] h := by
  refine ⟨some (.int 8), some (.str [(pat c).getD 8 0]), ?_⟩
  simp only [sgs, tab_NINES, List.map_cons, List.map_nil, List.headD_cons, List.mem_cons, List.mem_nil_iff, or_false] at hc
  rcases hc with rfl | rfl | rfl | rfl | rfl | rfl | rfl | rfl | rfl | rfl | rfl | rfl | rfl | rfl | rfl | rfl | rfl | rfl <;> kernel_rfl
theorem part_ok {c : Nat} (hc : c ∈ sgs) (x0 x1 x3 x4 : Option D) (h : LH) : eMt "str" (mJoin) (eC (.str [])) (aCons (eLc (iEnumS (aCons (eKix tab_NINES (eVar 2)) aNil)) [3, 4] (gTp 2 (gCns (gNm 3) (gCns (gNm 4) gNils))) bYes (eBin dMul (eIx (eC (.str [49, 48])) (eBin dMod (eVar 3) (eC (.int 2)))) (eBin dAdd (eC (.int 1)) (eCall (bRes bInt) (aCons (eVar 4) aNil))))) aNil)
    [x0, x1, some (.str [c]), x3, x4] h = .ok (.str (seg c)) h := by
  simp only [sgs, tab_NINES, List.map_cons, List.map_nil, List.headD_cons, List.mem_cons, List.mem_nil_iff, or_false] at hc
  rcases hc with rfl | rfl | rfl | rfl | rfl | rfl | rfl | rfl | rfl | rfl | rfl | rfl | rfl | rfl | rfl | rfl | rfl | rfl <;> kernel_rfl
theorem seg_len {c : Nat} (hc : c ∈ sgs) : (seg c).length ≤ 18 ∧ ∀ x ∈ seg c, x = 48 ∨ x = 49 := by
  have : sgs.all (fun c => decide ((seg c).length ≤ 18) && (seg c).all fun x => x == 48 || x == 49) = true := by decide +kernel
  have h := List.all_eq_true.mp this c hc
  rw [Bool.and_eq_true] at h
  refine ⟨of_decide_eq_true h.1, fun x hx => ?_⟩
  have := List.all_eq_true.mp h.2 x hx
  simpa using this
theorem sumS {l : List Nat} (h : ∀ c ∈ l, c ∈ sgs) : ((l.map seg).map List.length).sum ≤ 18 * l.length := by
  induction l with
  | nil => simp
  | cons a r ih =>
    have := (seg_len (h a (by simp))).1
    have := ih fun x hx => h x (List.mem_cons_of_mem _ hx)
    rw [List.map_cons, List.map_cons, List.sum_cons, List.length_cons]; omega
structure WOk (ws : List Nat) : Prop where
  a : ∀ c ∈ ws, c ∈ sgs
  b : ∀ c ∈ ws, c ≠ 42
  n : ws ≠ []
  l : ws.length ≤ 40
def full (ws : List Nat) : List Nat := [42] ++ ws ++ [42]
section
variable {ws : List Nat} (o : WOk ws)
include o
theorem full_ok : ∀ c ∈ full ws, c ∈ sgs := by
  intro c hc
  unfold full at hc
  have s42 : (42 : Nat) ∈ sgs := by decide +kernel
  simp only [List.mem_append, List.mem_singleton] at hc
  rcases hc with (rfl | hc) | rfl
  · exact s42
  · exact o.a c hc
  · exact s42
theorem full_len : (full ws).length = ws.length + 2 := by unfold full; simp
theorem star_txt {i : Nat} {ρ : En} {h : LH} (hv : ρ[i]? = some (some (.str ws))) : iSeq (eBin dAdd (eBin dAdd (eC (.str [42])) (eVar i)) (eC (.str [42]))) ρ h = .ok ⟨(full ws).map fun c => .str [c], none⟩ h := by
  have := o.l
  exact seq_ofS (bin_ok (bin_ok c_ok (var_ok hv) (addS (by simp; omega))) c_ok (addS (by simp; omega)))
theorem nine_eq (h : LH) : ∃ G, g_nine_stripes [.str ws] h = .ok (.str (NN (full ws))) (h ++ G) := by
  have ol := o.l
  have on := List.length_pos_iff.mpr o.n
  refine ⟨[.lst ((full ws).map fun c => D.str (seg c))], fn_rt rfl ?_⟩
  show m_nine_stripes [some (.str ws), none, none, none, none, none] h = _
  have t1 : bTest (eChain dLe dLe (eC (.int 1)) (eCall (bRes bLen) (aCons (eVar 0) aNil)) (eC (.int 40))) [some (.str ws), none, none, none, none, none] h = .ok true h :=
    test_ok (chain_ok c_ok (call_ok (cons_ok (var_ok rfl) nil_ok) (res_ok (lenS (by omega)))) (by rw [ev_leI, decide_eq_true (by omega)]) c_ok (by rw [ev_leI, decide_eq_true (by omega)]))
  have t2 : bTest (eGx tAnyR (iSeq (eVar 0)) [1] (gNm 1) bYes (eOr (eKin true tab_NINES (eVar 1)) (eBin dEq (eVar 1) (eC (.str [42]))))) [some (.str ws), none, none, none, none, none] h = .ok false h := by
    refine test_of (gx_of (seq_ofS (var_ok rfl)) (gx_any (h := h) (fun c => D.str [c]) (fun _ => false) ws fun c hc => ⟨_, rfl, ?_⟩)) (by rw [List.any_eq_false]; intro _ _; simp)
    refine eor_f ((kin_ok (var_ok rfl)).trans ?_) (bin_ok (var_ok rfl) c_ok (ev_eqS.trans ?_))
    · rw [(sg_ok (o.a c hc)).look]; rfl
    · rw [one_beq, decide_eq_false (o.b c hc)]
  refine seq_nx (if_no (or_no (not_of t1 rfl) t2) rfl) ?_
  refine seq_nx (asg_nm (d := .obj h.length) (h1 := h ++ [.lst []]) rfl) ?_
  obtain ⟨ox, f1, f2⟩ := for_ix (g := gNm 1) (m := (sSeq (sAsg (eC (.str [])) (gNm 3)) (sSeq (sForI (iEnumS (aCons (eKix tab_NINES (eVar 1)) aNil)) (gTp 2 (gCns (gNm 4) (gCns (gNm 5) gNils))) (sAug dIAdd 3 (eBin dMul (eIx (eC (.str [49, 48])) (eBin dMod (eVar 4) (eC (.int 2)))) (eIf (bTest (eBin dEq (eVar 5) (eC (.str [49])))) (eC (.int 2)) (eC (.int 1)))))) (sExpr (eMt "list" (mAppend) (eVar 2) (aCons (eVar 3) aNil))))))
    (fun c : Nat => D.str [c]) (fun (_ : List D) (q : G4) => [some (.str ws), q.1, some (.obj h.length), q.2.1, q.2.2.1, q.2.2.2]) (fun acc => h ++ [.lst acc]) (fun acc c => acc ++ [D.str (seg c)]) (fun i acc => acc.length = i) (full ws) 0 [] (none, none, none, none)
    (fun i c acc q hi hP => by
      have hc := full_ok o c (List.mem_of_getElem? hi)
      have hil : i < (full ws).length := (List.getElem?_eq_some_iff.mp hi).1
      rw [full_len o] at hil
      rw [Nat.zero_add] at hP
      obtain ⟨y4, y5, ei⟩ := inner_ok hc (some (.str ws)) (some (.obj h.length)) q.2.2.1 q.2.2.2 (h ++ [.lst acc])
      refine ⟨by rw [List.length_append, hP, List.length_singleton, Nat.zero_add], _, _, (some (.str [c]), some (.str (seg c)), y4, y5), rfl, ?_⟩
      show (_ : Sv) [some (.str ws), some (.str [c]), some (.obj h.length), q.2.1, q.2.2.1, q.2.2.2] (h ++ [.lst acc]) = _
      refine seq_nx (asg_nm c_ok) (seq_nx ei ?_)
      refine (expr_ok (append_ok (var_ok rfl) (cons_ok (var_ok rfl) nil_ok) ⟨_, get_end⟩ get_end (fits_le (by omega)))).trans ?_
      rw [set_end]) rfl
  have ef : ∀ (l : List Nat) (acc : List D), l.foldl (fun acc c => acc ++ [D.str (seg c)]) acc = acc ++ l.map fun c => D.str (seg c) := by
    intro l
    induction l with
    | nil => intro acc; simp
    | cons a r ih => intro acc; rw [List.foldl_cons, ih, List.append_assoc]; rfl
  rw [ef, List.nil_append] at f1
  refine seq_nx (for_of (star_txt o rfl) f1) (ret_ok ?_)
  have e2 : ((full ws).map fun c => D.str (seg c)) = ((full ws).map seg).map .str := by rw [List.map_map]; rfl
  have sq : seqH (h ++ [LO.lst ((full ws).map fun c => D.str (seg c))]) (.obj h.length) = some (false, ((full ws).map seg).map .str) := by
    show (match (h ++ [LO.lst ((full ws).map fun c => D.str (seg c))])[h.length]? with
      | some (.lst ds) => some (false, ds)
      | _ => none) = _
    rw [get_end, e2]
  refine join_ok c_ok (cons_ok (var_ok rfl) nil_ok) sq (strs_map _) ?_
  have := sumS (full_ok o)
  rw [full_len o] at this
  rw [List.length_map, full_len o]
  show _ + (ws.length + 2) * 1 ≤ _
  omega
theorem law_nines_eq (h : LH) : g_x_law_nines [.str ws] h = .ok (.str (NN (full ws))) h := by
  have ol := o.l
  refine fn_rt rfl ?_
  show m_x_law_nines [some (.str ws), none, none, none, none] h = _
  refine seq_nx (asg_nm (d := .lst []) rfl) ?_
  obtain ⟨ox, f1, f2⟩ := for_ix (g := gNm 2) (m := (sAsg (eBin dAdd (eVar 1) (eLst (aCons (eMt "str" (mJoin) (eC (.str [])) (aCons (eLc (iEnumS (aCons (eKix tab_NINES (eVar 2)) aNil)) [3, 4] (gTp 2 (gCns (gNm 3) (gCns (gNm 4) gNils))) bYes (eBin dMul (eIx (eC (.str [49, 48])) (eBin dMod (eVar 3) (eC (.int 2)))) (eBin dAdd (eC (.int 1)) (eCall (bRes bInt) (aCons (eVar 4) aNil))))) aNil)) aNil))) (gNm 1)))
    (fun c : Nat => D.str [c]) (fun (acc : List D) (q : Option D × Option D × Option D) => [some (.str ws), some (.lst acc), q.1, q.2.1, q.2.2]) (fun _ => h) (fun acc c => acc ++ [D.str (seg c)]) (fun i acc => acc.length = i) (full ws) 0 [] (none, none, none)
    (fun i c acc q hi hP => by
      have hc := full_ok o c (List.mem_of_getElem? hi)
      have hil : i < (full ws).length := (List.getElem?_eq_some_iff.mp hi).1
      rw [full_len o] at hil
      rw [Nat.zero_add] at hP
      refine ⟨by rw [List.length_append, hP, List.length_singleton, Nat.zero_add], _, _, (some (.str [c]), q.2.1, q.2.2), rfl, ?_⟩
      show (_ : Sv) [some (.str ws), some (.lst acc), some (.str [c]), q.2.1, q.2.2] h = _
      exact asg_nm (bin_ok (var_ok rfl) (lst_ok (cons_ok (part_ok hc _ _ _ _ _) nil_ok) rfl) (addL (by simp; omega)))) rfl
  have ef : ∀ (l : List Nat) (acc : List D), l.foldl (fun acc c => acc ++ [D.str (seg c)]) acc = acc ++ l.map fun c => D.str (seg c) := by
    intro l
    induction l with
    | nil => intro acc; simp
    | cons a r ih => intro acc; rw [List.foldl_cons, ih, List.append_assoc]; rfl
  rw [ef, List.nil_append] at f1
  refine seq_nx (for_of (star_txt o rfl) f1) (ret_ok ?_)
  have e2 : ((full ws).map fun c => D.str (seg c)) = ((full ws).map seg).map .str := by rw [List.map_map]; rfl
  rw [e2]
  refine join_ok c_ok (cons_ok (var_ok rfl) nil_ok) rfl (strs_map _) ?_
  have := sumS (full_ok o)
  rw [full_len o] at this
  rw [List.length_map, full_len o]
  show _ + (ws.length + 2) * 1 ≤ _
  omega
end
end K19

set_option Elab.async false
set_option linter.all false
set_option maxRecDepth 100000
set_option maxHeartbeats 4000000
namespace K19
open PySem PySem.Spec PyProof.Rows L2 Sh
local macro_rules | `(tactic| walk_at "len") => `(tactic| first | assumption | omega | (simp only [List.length_append, List.length_cons, List.length_nil, List.length_map, List.length_reverse, List.length_take, List.length_drop, List.length_dropLast, List.length_flatten, List.length_replicate, List.length_singleton]; omega) | (simp; omega) | decide)
local macro_rules | `(tactic| walk_at "op") => `(tactic| first
  | (with_reducible exact ev_addI) | (with_reducible apply addS; walk_at "len") | (with_reducible apply addL; walk_at "len")
  | (with_reducible exact ev_iaddI) | (with_reducible apply iaddS; walk_at "len")
  | (with_reducible exact ev_sub) | (with_reducible exact ev_neg)
  | (with_reducible exact ev_eqI) | (with_reducible exact ev_neI) | (with_reducible exact ev_eqS) | (with_reducible exact ev_neS) | (with_reducible exact ev_eqB) | (with_reducible exact ev_neB)
  | (with_reducible exact ev_ltI) | (with_reducible exact ev_leI) | (with_reducible exact ev_gtI) | (with_reducible exact ev_geI)
  | (with_reducible apply ev_modN; omega) | (with_reducible apply ev_mod; omega)
  | (with_reducible apply lenS; walk_at "len") | (with_reducible exact ev_lenL) | (with_reducible exact ev_lenT) | (with_reducible exact ev_lenF)
  | (with_reducible apply slS; walk_at "len") | (with_reducible exact slL)
  | (with_reducible apply revS; walk_at "len"))
local macro_rules | `(tactic| walk_at "val") => `(tactic| first | assumption | rfl | decide | simp [*])
local macro_rules | `(tactic| walk_at "ev") => `(tactic| first
  | (with_reducible assumption)
  | (with_reducible exact c_ok)
  | ((with_reducible apply var_ok); first | assumption | rfl)
  | (with_reducible exact nil_ok) | (with_reducible exact ono_ok)
  | ((with_reducible apply cons_ok); (walk_at "ev"); (walk_at "ev"))
  | ((with_reducible apply oyes_ok); (walk_at "ev"))
  | ((with_reducible apply bin_ok); (walk_at "ev"); (walk_at "ev"); (walk_at "op"))
  | ((with_reducible apply un_ok); (walk_at "ev"); (walk_at "op"))
  | ((with_reducible apply call_ok); (walk_at "ev"); (first | ((with_reducible apply res_ok); (walk_at "op")) | (walk_at "fn")))
  | ((with_reducible apply sl_ok); (walk_at "ev"); (walk_at "ev"); (walk_at "ev"); (walk_at "op"))
  | ((with_reducible apply revX_ok); (walk_at "ev"); (walk_at "op"))
  | ((with_reducible apply tup_ok); (walk_at "ev"); rfl)
  | ((with_reducible apply lst_ok); (walk_at "ev"); rfl)
  | ((with_reducible apply test_of); (walk_at "ev"); (walk_at "val"))
  | ((with_reducible apply or_nn); (walk_at "ev"); (walk_at "ev"))
  | ((with_reducible apply or_yes); (walk_at "ev"))
  | ((with_reducible apply and_yes); (walk_at "ev"); (walk_at "ev"))
  | ((with_reducible apply and_no); (walk_at "ev"))
  | ((with_reducible apply not_of); (walk_at "ev"); (walk_at "val"))
  | ((with_reducible apply eif_yes); (walk_at "ev"); (walk_at "ev"))
  | ((with_reducible apply eif_no); (walk_at "ev"); (walk_at "ev"))
  | ((with_reducible apply chain_ok); (walk_at "ev"); (walk_at "ev"); (walk_at "op"); (walk_at "ev"); (walk_at "op")))

/-! ### nines read -/
structure RsOk (rs : List Rn) : Prop where
  alt : Alt rs
  two : ∀ p ∈ rs, 1 ≤ p.2 ∧ p.2 ≤ 2
  bit : ∀ p ∈ rs, p.1 = 48 ∨ p.1 = 49
  len : rs.length ≤ 500
theorem RsOk.low {rs : List Rn} (o : RsOk rs) : ∀ p ∈ rs, p.1 < 0x110000 := fun p hp => by rcases o.bit p hp with e | e <;> rw [e] <;> decide
theorem flat_len {rs : List Rn} (h : ∀ p ∈ rs, 1 ≤ p.2 ∧ p.2 ≤ 2) : (flatR rs).length ≤ 2 * rs.length := by
  induction rs with
  | nil => exact Nat.le_refl 0
  | cons p r ih =>
    have := ih fun q hq => h q (List.mem_cons_of_mem _ hq)
    have := (h p (List.mem_cons_self ..)).2
    show (List.replicate p.2 p.1 ++ flatR r).length ≤ _
    rw [List.length_append, List.length_replicate, List.length_cons]; omega
theorem flat_mem {rs : List Rn} {c : Nat} (hc : c ∈ flatR rs) : ∃ p ∈ rs, c = p.1 := by
  unfold flatR at hc
  rw [List.mem_flatten] at hc
  obtain ⟨l, hl, hc⟩ := hc
  obtain ⟨p, hp, rfl⟩ := List.mem_map.mp hl
  exact ⟨p, hp, (List.mem_replicate.mp hc).2⟩
section
variable {rs : List Rn} (o : RsOk rs) (h : LH)
include o
theorem runs_rs : g_runs_in_stripes [.str (flatR rs)] h = .ok (.lst (rs.map dR)) (h ++ [.gone]) := by
  have q := runs_eq (s := flatR rs) (fun c hc => by
    obtain ⟨p, hp, rfl⟩ := flat_mem hc
    exact o.low p hp) (by have := flat_len o.two; have := o.len; omega) h
  rw [runs_flat o.alt] at q
  exact q
theorem t_nil {X : LH} {x0 x2 x3 x4 x5 x6 x7 x8 x9 : Option D} : bTest (eBin dEq (eVar 1) (eLst aNil)) [x0, some (.lst (rs.map dR)), x2, x3, x4, x5, x6, x7, x8, x9] X = .ok (decide (rs = [])) X :=
  test_ok (bin_ok (var_ok rfl) (lst_ok nil_ok rfl) (eqNil o.low))
theorem t_len {X : LH} {x0 x2 x3 x4 x5 x6 x7 x8 x9 : Option D} : bTest (eBin dNe (eBin dMod (eBin dAdd (eCall (bRes bLen) (aCons (eVar 1) aNil)) (eC (.int 1))) (eC (.int 10))) (eC (.int 0))) [x0, some (.lst (rs.map dR)), x2, x3, x4, x5, x6, x7, x8, x9] X = .ok (decide ((rs.length + 1) % 10 ≠ 0)) X := by
  refine test_of (bin_ok (bin_ok (bin_ok (call_ok (cons_ok (var_ok rfl) nil_ok) (res_ok ev_lenL)) c_ok ev_addI) c_ok (ev_mod (by decide))) c_ok ev_neI) ?_
  rw [List.length_map]
  by_cases e : (rs.length + 1) % 10 = 0
  · rw [decide_eq_false (fun z => z e), beq_iff_eq.mpr (by omega)]; rfl
  · rw [decide_eq_true e, beq_eq_false_iff_ne.mpr (by omega)]; rfl
theorem now_a (hk : (rs.length + 1) % 10 ≠ 0) : g_nines_one_way [.str (flatR rs)] h = .ok (.str []) (h ++ [.gone]) := by
  refine fn_rt rfl ?_
  show m_nines_one_way [some (.str (flatR rs)), none, none, none, none, none, none, none, none, none] h = _
  refine seq_nx (asg_nm (call_ok (cons_ok (var_ok rfl) nil_ok) (runs_rs o h))) ?_
  by_cases e : rs = []
  · exact seq_rt (if_yes (or_yes ((t_nil o).trans (by rw [decide_eq_true e]))) (ret_ok c_ok))
  · exact seq_rt (if_yes (or_no ((t_nil o).trans (by rw [decide_eq_false e])) (or_yes ((t_len o).trans (by rw [decide_eq_true hk])))) (ret_ok c_ok))
theorem t_rest {X : LH} {x0 x2 x3 x4 x5 x6 x7 x8 x9 : Option D} (hd : ∃ k, rs.head? = some (49, k)) : bOr (bTest (eBin dNe (eIx (eIx (eVar 1) (eC (.int 0))) (eC (.int 0))) (eC (.str [49])))) (bTest (eGx tAnyR (iSeq (eVar 1)) [2, 3] (gTp 2 (gCns (gNm 2) (gCns (gNm 3) gNils))) bYes (eBin dGt (eVar 3) (eC (.int 2))))) [x0, some (.lst (rs.map dR)), x2, x3, x4, x5, x6, x7, x8, x9] X = .ok false X := by
  obtain ⟨k, ek⟩ := hd
  cases rs with
  | nil => cases ek
  | cons p r =>
    have ep : p = (49, k) := by simpa using ek
    refine or_no (test_ok (bin_ok (ix_ok (ix_ok (var_ok rfl) c_ok (z := dR p) (ev_ixL.trans (ev_at (j := 0) (by simp)))) c_ok (z := .str [49]) (by rw [ep]; rfl)) c_ok neS_same)) ?_
    refine test_of (gx_of (seq_of (var_ok rfl)) (gx_any (h := X) dR (fun q : Rn => decide ((2 : Int) < (q.2 : Nat))) (p :: r) fun q hq => ⟨_, rfl, bin_ok (var_ok rfl) c_ok ev_gtI⟩)) ?_
    rw [List.any_eq_false]
    intro q hq
    have := (o.two q hq).2
    simp; omega
theorem now_head {k : Nat} (hk : rs.length + 1 = 10 * k) (hd : ∃ k, rs.head? = some (49, k)) {x0 x2 x3 x4 x5 x6 x7 x8 x9 : Option D} {X : LH} : bOr (bTest (eBin dEq (eVar 1) (eLst aNil))) (bOr (bTest (eBin dNe (eBin dMod (eBin dAdd (eCall (bRes bLen) (aCons (eVar 1) aNil)) (eC (.int 1))) (eC (.int 10))) (eC (.int 0)))) (bOr (bTest (eBin dNe (eIx (eIx (eVar 1) (eC (.int 0))) (eC (.int 0))) (eC (.str [49])))) (bTest (eGx tAnyR (iSeq (eVar 1)) [2, 3] (gTp 2 (gCns (gNm 2) (gCns (gNm 3) gNils))) bYes (eBin dGt (eVar 3) (eC (.int 2))))))) [x0, some (.lst (rs.map dR)), x2, x3, x4, x5, x6, x7, x8, x9] X = .ok false X := by
  refine or_no (h1 := X) ((t_nil o).trans ?_) (or_no (h1 := X) ((t_len o).trans ?_) (t_rest o hd))
  · rw [decide_eq_false]
    intro z
    rw [z] at hk
    have : 0 + 1 = 10 * k := hk
    omega
  · rw [decide_eq_false (by omega)]
/-- range(0, len(runs), 10) -/
theorem rng_rs {k : Nat} (hk : rs.length + 1 = 10 * k) {x0 x2 x3 x4 x5 x6 x7 x8 x9 : Option D} {X : LH} : iRng3 (aCons (eC (.int 0)) (aCons (eCall (bRes bLen) (aCons (eVar 1) aNil)) (aCons (eC (.int 10)) aNil))) [x0, some (.lst (rs.map dR)), x2, x3, x4, x5, x6, x7, x8, x9] X = .ok ⟨(List.range k).map fun i => D.int ((10 * i : Nat) : Int), none⟩ X := by
  have hl := o.len
  have q := rng3_ok (ma := aCons (eC (.int 0)) (aCons (eCall (bRes bLen) (aCons (eVar 1) aNil)) (aCons (eC (.int 10)) aNil))) (ρ := [x0, some (.lst (rs.map dR)), x2, x3, x4, x5, x6, x7, x8, x9]) (h := X) (n := rs.length) (c := 10) (cons_ok c_ok (cons_ok ((call_ok (cons_ok (var_ok rfl) nil_ok) (res_ok ev_lenL)).trans (by rw [List.length_map])) (cons_ok c_ok nil_ok))) (by decide) (by decide) (by omega)
  rw [show (rs.length + 10 - 1) / 10 = k by omega] at q
  exact q
/-- the widths of nine runs -/
def wds (q : List Rn) : List Nat := q.map fun p => p.2 - 1 + 48
theorem wides_ok {i : Nat} {X : LH} {x0 x2 x3 x4 x6 x7 x8 x9 : Option D} : eMt "str" (mJoin) (eC (.str [])) (aCons (eLc (iSeq (eSl (eVar 1) (oYes (eVar 5)) (oYes (eBin dAdd (eVar 5) (eC (.int 9)))))) [2, 3] (gTp 2 (gCns (gNm 2) (gCns (gNm 3) gNils))) bYes (eCall (bRes bStr) (aCons (eBin dSub (eVar 3) (eC (.int 1))) aNil))) aNil)
    [x0, some (.lst (rs.map dR)), x2, x3, x4, some (.int ((10 * i : Nat) : Int)), x6, x7, x8, x9] X = .ok (.str (wds ((rs.take (10 * i + 9)).drop (10 * i)))) X := by
  obtain ⟨q, hq⟩ : ∃ q, q = (rs.take (10 * i + 9)).drop (10 * i) := ⟨_, rfl⟩
  have hm : ∀ p ∈ q, p ∈ rs := fun p hp => by rw [hq] at hp; exact List.mem_of_mem_take (List.mem_of_mem_drop hp)
  have lq : q.length ≤ 9 := by rw [hq, List.length_drop, List.length_take]; omega
  rw [← hq]
  have sl : eSl (eVar 1) (oYes (eVar 5)) (oYes (eBin dAdd (eVar 5) (eC (.int 9)))) [x0, some (.lst (rs.map dR)), x2, x3, x4, some (.int ((10 * i : Nat) : Int)), x6, x7, x8, x9] X = .ok (.lst (q.map dR)) X := by
    refine sl_ok (var_ok rfl) (oyes_ok (var_ok rfl)) (oyes_ok (bin_ok (var_ok rfl) c_ok ev_addI)) (slL.trans ?_)
    rw [show ((10 * i : Nat) : Int) + 9 = ((10 * i + 9 : Nat) : Int) by omega, cut_nn, hq, List.map_drop, List.map_take]
  have lc : eLc (iSeq (eSl (eVar 1) (oYes (eVar 5)) (oYes (eBin dAdd (eVar 5) (eC (.int 9)))))) [2, 3] (gTp 2 (gCns (gNm 2) (gCns (gNm 3) gNils))) bYes (eCall (bRes bStr) (aCons (eBin dSub (eVar 3) (eC (.int 1))) aNil)) [x0, some (.lst (rs.map dR)), x2, x3, x4, some (.int ((10 * i : Nat) : Int)), x6, x7, x8, x9] X = .ok (.lst ((q.map fun p => [p.2 - 1 + 48]).map .str)) X := by
    refine elc_of (seq_of sl) ?_
    rw [lc_map (h := X) dR (fun p => D.str [p.2 - 1 + 48]) q [] (fun p hp => ⟨_, rfl, ?_⟩) (by rw [List.length_nil]; omega)]
    · rw [List.nil_append, List.map_map]; rfl
    · have := o.two p (hm p hp)
      have e : ((p.2 : Nat) : Int) - 1 = ((p.2 - 1 : Nat) : Int) := by omega
      exact call_ok (cons_ok (bin_ok (var_ok rfl) c_ok (ev_sub.trans (by rw [e]))) nil_ok) (res_ok ((str1 _ (by omega)).trans (by rw [Nat.add_comm])))
  have sm : ((q.map fun p => [p.2 - 1 + 48]).map List.length).sum ≤ 9 := by
    have : ∀ l : List Rn, ((l.map fun p => [p.2 - 1 + 48]).map List.length).sum = l.length := fun l => by
      induction l with
      | nil => rfl
      | cons a r ih => rw [List.map_cons, List.map_cons, List.sum_cons, ih]; simp only [List.length_cons, List.length_nil]; omega
    rw [this]; exact lq
  have k := join_ok (mo := eC (.str [])) (h := X) c_ok (cons_ok lc nil_ok) rfl (strs_map _) (by simp only [List.length_nil, Nat.mul_zero]; omega)
  rw [Sh.join_nil] at k
  have fl : ∀ l : List Rn, (l.map fun p => [p.2 - 1 + 48]).flatten = wds l := fun l => by
    induction l with
    | nil => rfl
    | cons a r ih => rw [List.map_cons, List.flatten_cons, ih]; rfl
  rw [fl] at k
  exact k
omit o in
theorem able_ok {w : List Nat} {X : LH} {x0 x1 x2 x3 x4 x5 x7 x8 x9 : Option D} : eLc (iKki tab_NINES) [2, 8] (gTp 2 (gCns (gNm 2) (gCns (gNm 8) gNils))) (bTest (eBin dEq (eVar 8) (eVar 6))) (eVar 2) [x0, x1, x2, x3, x4, x5, some (.str w), x7, x8, x9] X = .ok (.lst (((nt.filter fun p => p.2 == w).map fun p => [p.1]).map .str)) X := by
  have it : iKki tab_NINES [x0, x1, x2, x3, x4, x5, some (.str w), x7, x8, x9] X = .ok ⟨nt.map fun p => D.tup [.str [p.1], .str p.2], none⟩ X := by
    unfold iKki
    rw [nt_eq, List.map_map]; rfl
  refine elc_of it ?_
  rw [lc_filter (h := X) (fun p : Nat × List Nat => D.tup [.str [p.1], .str p.2]) (fun p => p.2 == w) (fun p => D.str [p.1]) nt [] (fun p hp => ⟨_, rfl, test_ok (bin_ok (var_ok rfl) (var_ok rfl) ev_eqS), fun _ => var_ok rfl⟩) (by decide +kernel), List.nil_append, List.map_map]; rfl
omit o in
theorem eqNilS {l : List Nat} (hl : ∀ c ∈ l, c < 128) : dEq (.lst ((l.map fun c => [c]).map .str)) (.lst []) = some (.bl (decide (l = []))) := by
  have h := dEq_e (a := l.map fun c => (⟨[c]⟩ : Tx)) (b := []) (by
    show List.all _ _ = true
    rw [List.all_map, List.all_eq_true]
    intro c hc
    show txOk [c] = true
    have := hl c hc
    unfold txOk
    simp; omega) rfl (by decide)
  have e : Py.e (l.map fun c => (⟨[c]⟩ : Tx)) = D.lst ((l.map fun c => [c]).map .str) := by
    show D.lst _ = _
    rw [List.map_map, List.map_map]; rfl
  rw [e] at h
  refine h.trans ?_
  cases l <;> rfl
/-- the first sign is none -/
theorem now_b {k : Nat} (hk : rs.length + 1 = 10 * k) (hd : ∃ k, rs.head? = some (49, k)) (hn : (nt.filter fun p => p.2 == wds (rs.take 9)) = []) : g_nines_one_way [.str (flatR rs)] h = .ok (.str []) (h ++ [.gone]) := by
  refine fn_rt rfl ?_
  show m_nines_one_way [some (.str (flatR rs)), none, none, none, none, none, none, none, none, none] h = _
  refine seq_nx (asg_nm (call_ok (cons_ok (var_ok rfl) nil_ok) (runs_rs o h))) ?_
  refine seq_nx (if_no (now_head o hk hd) rfl) (seq_nx (asg_nm c_ok) ?_)
  obtain ⟨m, rfl⟩ : ∃ m, k = m + 1 := ⟨k - 1, by omega⟩
  have rg := rng_rs o hk (X := h ++ [.gone]) (x0 := some (.str (flatR rs))) (x2 := none) (x3 := none) (x4 := some (.str [])) (x5 := none) (x6 := none) (x7 := none) (x8 := none) (x9 := none)
  rw [List.range_succ_eq_map, List.map_cons] at rg
  have w := wides_ok o (i := 0) (X := h ++ [.gone]) (x0 := some (.str (flatR rs))) (x2 := none) (x3 := none) (x4 := some (.str [])) (x6 := none) (x7 := none) (x8 := none) (x9 := none)
  rw [Nat.mul_zero, Nat.zero_add, List.drop_zero] at w
  have a := able_ok (w := wds (rs.take 9)) (X := h ++ [.gone]) (x0 := some (.str (flatR rs))) (x1 := some (.lst (rs.map dR))) (x2 := none) (x3 := none) (x4 := some (.str [])) (x5 := some (.int ((0 : Nat) : Int))) (x7 := none) (x8 := none) (x9 := none)
  rw [hn] at a
  refine seq_rt (for_of rg (for_cons_rt rfl (seq_nx (asg_nm w) (seq_nx (asg_nm a) (seq_rt (if_yes (or_yes (test_ok (bin_ok (var_ok rfl) (lst_ok nil_ok rfl) (eqNilS (l := []) (fun c hc => by cases hc))))) (ret_ok c_ok)))))))
end
end K19

set_option Elab.async false
set_option linter.all false
set_option maxRecDepth 100000
set_option maxHeartbeats 4000000
namespace K19
open PySem PySem.Spec PyProof.Rows L2 Sh
local macro_rules | `(tactic| walk_at "len") => `(tactic| first | assumption | omega | (simp only [List.length_append, List.length_cons, List.length_nil, List.length_map, List.length_reverse, List.length_take, List.length_drop, List.length_dropLast, List.length_flatten, List.length_replicate, List.length_singleton]; omega) | (simp; omega) | decide)
local macro_rules | `(tactic| walk_at "op") => `(tactic| first
  | (with_reducible exact ev_addI) | (with_reducible apply addS; walk_at "len") | (with_reducible apply addL; walk_at "len")
  | (with_reducible exact ev_iaddI) | (with_reducible apply iaddS; walk_at "len")
  | (with_reducible exact ev_sub) | (with_reducible exact ev_neg)
  | (with_reducible exact ev_eqI) | (with_reducible exact ev_neI) | (with_reducible exact ev_eqS) | (with_reducible exact ev_neS) | (with_reducible exact ev_eqB) | (with_reducible exact ev_neB)
  | (with_reducible exact ev_ltI) | (with_reducible exact ev_leI) | (with_reducible exact ev_gtI) | (with_reducible exact ev_geI)
  | (with_reducible apply ev_modN; omega) | (with_reducible apply ev_mod; omega)
  | (with_reducible apply lenS; walk_at "len") | (with_reducible exact ev_lenL) | (with_reducible exact ev_lenT) | (with_reducible exact ev_lenF)
  | (with_reducible apply slS; walk_at "len") | (with_reducible exact slL)
  | (with_reducible apply revS; walk_at "len"))
local macro_rules | `(tactic| walk_at "val") => `(tactic| first | assumption | rfl | decide | simp [*])
local macro_rules | `(tactic| walk_at "ev") => `(tactic| first
  | (with_reducible assumption)
  | (with_reducible exact c_ok)
  | ((with_reducible apply var_ok); first | assumption | rfl)
  | (with_reducible exact nil_ok) | (with_reducible exact ono_ok)
  | ((with_reducible apply cons_ok); (walk_at "ev"); (walk_at "ev"))
  | ((with_reducible apply oyes_ok); (walk_at "ev"))
  | ((with_reducible apply bin_ok); (walk_at "ev"); (walk_at "ev"); (walk_at "op"))
  | ((with_reducible apply un_ok); (walk_at "ev"); (walk_at "op"))
  | ((with_reducible apply call_ok); (walk_at "ev"); (first | ((with_reducible apply res_ok); (walk_at "op")) | (walk_at "fn")))
  | ((with_reducible apply sl_ok); (walk_at "ev"); (walk_at "ev"); (walk_at "ev"); (walk_at "op"))
  | ((with_reducible apply revX_ok); (walk_at "ev"); (walk_at "op"))
  | ((with_reducible apply tup_ok); (walk_at "ev"); rfl)
  | ((with_reducible apply lst_ok); (walk_at "ev"); rfl)
  | ((with_reducible apply test_of); (walk_at "ev"); (walk_at "val"))
  | ((with_reducible apply or_nn); (walk_at "ev"); (walk_at "ev"))
  | ((with_reducible apply or_yes); (walk_at "ev"))
  | ((with_reducible apply and_yes); (walk_at "ev"); (walk_at "ev"))
  | ((with_reducible apply and_no); (walk_at "ev"))
  | ((with_reducible apply not_of); (walk_at "ev"); (walk_at "val"))
  | ((with_reducible apply eif_yes); (walk_at "ev"); (walk_at "ev"))
  | ((with_reducible apply eif_no); (walk_at "ev"); (walk_at "ev"))
  | ((with_reducible apply chain_ok); (walk_at "ev"); (walk_at "ev"); (walk_at "op"); (walk_at "ev"); (walk_at "op")))

theorem RR_bit : ∀ {full : List Nat}, ∀ p ∈ RR full, p.1 = 48 ∨ p.1 = 49
  | [], p, hp => by cases hp
  | [c], p, hp => by
    have hp : p ∈ runC c := hp
    unfold runC at hp
    obtain ⟨q, _, rfl⟩ := List.mem_map.mp hp
    simp only
    split <;> simp
  | c :: d :: r, p, hp => by
    have hp : p ∈ runC c ++ ((48, 1) :: RR (d :: r)) := hp
    rcases List.mem_append.mp hp with hp | hp
    · unfold runC at hp
      obtain ⟨q, _, rfl⟩ := List.mem_map.mp hp
      simp only
      split <;> simp
    · rcases List.mem_cons.mp hp with e | hp
      · rw [e]; exact .inl rfl
      · exact RR_bit p hp
theorem RR_end : ∀ (l : List Nat) (c : Nat), ∃ pre, RR (l ++ [c]) = pre ++ runC c
  | [], c => ⟨[], rfl⟩
  | [a], c => ⟨runC a ++ [(48, 1)], by rw [List.append_assoc]; rfl⟩
  | a :: b :: r, c => by
    obtain ⟨pre, e⟩ := RR_end (b :: r) c
    refine ⟨runC a ++ ((48, 1) :: pre), ?_⟩
    show runC a ++ ((48, 1) :: RR (b :: r ++ [c])) = _
    rw [e, List.append_assoc]; rfl
theorem fq {i k : Nat} (hi : i < k) : ((10 * i : Nat) : Int) + 9 = ((10 * i + 9 : Nat) : Int) := by omega
section
variable {ws : List Nat} (o : WOk ws)
include o
theorem RR_ok : RsOk (RR (full ws)) := by
  have hl := RR_len (full_ok o) (by unfold full; simp)
  rw [full_len o] at hl
  have := o.l
  exact ⟨RR_alt (full_ok o), RR_two (full_ok o), RR_bit, by omega⟩
theorem RR_k : (RR (full ws)).length + 1 = 10 * (ws.length + 2) := by
  have hl := RR_len (full_ok o) (by unfold full; simp)
  rw [full_len o] at hl
  exact hl
theorem now_good (h : LH) : g_nines_one_way [.str (NN (full ws))] h = .ok (.str ws) (h ++ [.gone]) := by
  rw [NN_flat]
  have ro := RR_ok o
  have rk := RR_k o
  have hl := o.l
  have fl := full_len o
  have fo := full_ok o
  have hn := List.length_pos_iff.mpr o.n
  obtain ⟨rs, hrs⟩ : ∃ rs, rs = RR (full ws) := ⟨_, rfl⟩
  have hd := RR_head fo (by unfold full; simp)
  have hat := RR_at fo
  rw [← hrs] at ro rk hd hat ⊢
  refine fn_rt rfl ?_
  show m_nines_one_way [some (.str (flatR rs)), none, none, none, none, none, none, none, none, none] h = _
  refine seq_nx (asg_nm (call_ok (cons_ok (var_ok rfl) nil_ok) (runs_rs ro h))) ?_
  refine seq_nx (if_no (now_head ro rk hd) rfl) (seq_nx (asg_nm c_ok) ?_)
  have rg := rng_rs ro rk (X := h ++ [.gone]) (x0 := some (.str (flatR rs))) (x2 := none) (x3 := none) (x4 := some (.str [])) (x5 := none) (x6 := none) (x7 := none) (x8 := none) (x9 := none)
  obtain ⟨ox, f1, f2⟩ := for_ix (g := gNm 5) (m := (sSeq (sAsg (eMt "str" (mJoin) (eC (.str [])) (aCons (eLc (iSeq (eSl (eVar 1) (oYes (eVar 5)) (oYes (eBin dAdd (eVar 5) (eC (.int 9)))))) [2, 3] (gTp 2 (gCns (gNm 2) (gCns (gNm 3) gNils))) bYes (eCall (bRes bStr) (aCons (eBin dSub (eVar 3) (eC (.int 1))) aNil))) aNil)) (gNm 6)) (sSeq (sAsg (eLc (iKki tab_NINES) [2, 8] (gTp 2 (gCns (gNm 2) (gCns (gNm 8) gNils))) (bTest (eBin dEq (eVar 8) (eVar 6))) (eVar 2)) (gNm 7)) (sSeq (sIf (bOr (bTest (eBin dEq (eVar 7) (eLst aNil))) (bAnd (bTest (eBin dLt (eBin dAdd (eVar 5) (eC (.int 9))) (eCall (bRes bLen) (aCons (eVar 1) aNil)))) (bTest (eBin dNe (eIx (eIx (eVar 1) (eBin dAdd (eVar 5) (eC (.int 9)))) (eC (.int 1))) (eC (.int 1)))))) (sRet (eC (.str []))) sNil) (sAug dIAdd 4 (eIx (eVar 7) (eC (.int 0))))))))
    (fun i : Nat => D.int ((10 * i : Nat) : Int)) (fun (found : List Nat) (q : Option D × Option D × Option D) => [some (.str (flatR rs)), some (.lst (rs.map dR)), none, none, some (.str found), q.1, q.2.1, q.2.2, none, none]) (fun _ => h ++ [.gone]) (fun found i => found ++ [(full ws).getD i 0]) (fun i found => found = (full ws).take i) (List.range (ws.length + 2)) 0 [] (none, none, none)
    (fun i a found q hi hP => by
      have ia : a = i ∧ i < ws.length + 2 := by
        obtain ⟨h4, h5⟩ := List.getElem?_eq_some_iff.mp hi
        rw [List.length_range] at h4
        rw [List.getElem_range] at h5
        exact ⟨h5.symm, h4⟩
      obtain ⟨rfl, il⟩ := ia
      rw [Nat.zero_add] at hP
      have ilf : a < (full ws).length := by omega
      obtain ⟨c, hc⟩ : ∃ c, (full ws)[a]? = some c := ⟨_, List.getElem?_eq_getElem ilf⟩
      have hcs := fo c (List.mem_of_getElem? hc)
      have sg := sg_ok hcs
      have gd : (full ws).getD a 0 = c := by rw [List.getD_eq_getElem?_getD, hc]; rfl
      obtain ⟨r1, r2⟩ := hat a c hc
      refine ⟨?_, _, _, (some (.int ((10 * a : Nat) : Int)), some (.str (pat c)), some (.lst [.str [c]])), rfl, ?_⟩
      · rw [hP, Nat.zero_add, List.take_add_one, hc, gd]; rfl
      rw [gd]
      show (_ : Sv) [some (.str (flatR rs)), some (.lst (rs.map dR)), none, none, some (.str found), some (.int ((10 * a : Nat) : Int)), q.2.1, q.2.2, none, none] (h ++ [.gone]) = _
      have w := wides_ok ro (i := a) (X := h ++ [.gone]) (x0 := some (.str (flatR rs))) (x2 := none) (x3 := none) (x4 := some (.str found)) (x6 := q.2.1) (x7 := q.2.2) (x8 := none) (x9 := none)
      rw [r1, show wds (runC c) = pat c from sg.wid] at w
      have ab := able_ok (w := pat c) (X := h ++ [.gone]) (x0 := some (.str (flatR rs))) (x1 := some (.lst (rs.map dR))) (x2 := none) (x3 := none) (x4 := some (.str found)) (x5 := some (.int ((10 * a : Nat) : Int))) (x7 := q.2.2) (x8 := none) (x9 := none)
      have e1 : ((nt.filter fun p => p.2 == pat c).map fun p => [p.1]) = [[c]] := by
        have := congrArg (List.map fun x => [x]) sg.able
        rw [List.map_map] at this
        exact this
      rw [e1] at ab
      refine seq_nx (asg_nm w) (seq_nx (asg_nm ab) ?_)
      have lr : (rs.map dR).length = rs.length := List.length_map ..
      have t1 : bTest (eBin dEq (eVar 7) (eLst aNil)) [some (.str (flatR rs)), some (.lst (rs.map dR)), none, none, some (.str found), some (.int ((10 * a : Nat) : Int)), some (.str (pat c)), some (.lst [.str [c]]), none, none] (h ++ [.gone]) = .ok false (h ++ [.gone]) :=
        test_ok (bin_ok (var_ok rfl) (lst_ok nil_ok rfl) ((eqNilS (l := [c]) (fun x hx => by rw [List.mem_singleton.mp hx]; exact sg.low)).trans (by rw [decide_eq_false (by simp)])))
      have t2 : bTest (eBin dLt (eBin dAdd (eVar 5) (eC (.int 9))) (eCall (bRes bLen) (aCons (eVar 1) aNil))) [some (.str (flatR rs)), some (.lst (rs.map dR)), none, none, some (.str found), some (.int ((10 * a : Nat) : Int)), some (.str (pat c)), some (.lst [.str [c]]), none, none] (h ++ [.gone]) = .ok (decide (a + 1 < ws.length + 2)) (h ++ [.gone]) := by
        refine test_of (bin_ok (bin_ok (var_ok rfl) c_ok ev_addI) (call_ok (cons_ok (var_ok rfl) nil_ok) (res_ok ev_lenL)) ev_ltI) ?_
        rw [lr]
        exact decide_eq_decide.mpr (by omega)
      have t3 : bAnd (bTest (eBin dLt (eBin dAdd (eVar 5) (eC (.int 9))) (eCall (bRes bLen) (aCons (eVar 1) aNil)))) (bTest (eBin dNe (eIx (eIx (eVar 1) (eBin dAdd (eVar 5) (eC (.int 9)))) (eC (.int 1))) (eC (.int 1)))) [some (.str (flatR rs)), some (.lst (rs.map dR)), none, none, some (.str found), some (.int ((10 * a : Nat) : Int)), some (.str (pat c)), some (.lst [.str [c]]), none, none] (h ++ [.gone]) = .ok false (h ++ [.gone]) := by
        by_cases hlt : a + 1 < ws.length + 2
        · rw [decide_eq_true hlt] at t2
          have r9 := r2 (by omega)
          have l9 : 10 * a + 9 < (rs.map dR).length := by rw [lr]; exact (List.getElem?_eq_some_iff.mp r9).1
          have g9 : atI (rs.map dR) ((10 * a + 9 : Nat) : Int) = some (dR (48, 1)) := by
            rw [ev_at l9, List.getElem_map]
            obtain ⟨_, e9⟩ := List.getElem?_eq_some_iff.mp r9
            rw [e9]
          refine and_yes t2 (test_ok (bin_ok (ix_ok (ix_ok (var_ok rfl) (bin_ok (var_ok rfl) c_ok (ev_addI.trans (by rw [fq il]))) (ev_ixL.trans g9)) c_ok (z := .int 1) rfl) c_ok neI_same))
        · rw [decide_eq_false hlt] at t2
          exact and_no t2
      refine seq_nx (if_no (or_no t1 t3) rfl) ?_
      have lf : found.length ≤ 42 := by rw [hP, List.length_take]; omega
      exact aug_ok (x := .str found) rfl (ix_ok (var_ok rfl) c_ok (z := .str [c]) rfl) (iaddS (by simp; omega))) rfl
  have f2 : (List.range (ws.length + 2)).foldl (fun found i => found ++ [(full ws).getD i 0]) [] = full ws := by
    rw [f2, List.length_range, Nat.zero_add, ← fl, List.take_length]
  rw [f2] at f1
  refine seq_nx (for_of rg f1) ?_
  have c0 : atI (full ws) 0 = some 42 := ev_at (j := 0) (show 0 < (full ws).length by omega)
  have ne : full ws ≠ [] := fun z => by rw [z] at fl; cases fl
  have c1 : atI (full ws) (-1) = some 42 := by
    rw [at_m1 _ ne]
    have : (full ws).getLast? = some 42 := by unfold full; rw [List.getLast?_append]; rfl
    rw [List.getLast?_eq_some_getLast ne] at this
    exact this
  have sl : ∀ x, eSl (eVar 4) (oYes (eC (.int 1))) (oYes (eUn dNeg (eC (.int 1)))) [some (.str (flatR rs)), some (.lst (rs.map dR)), none, none, some (.str (full ws)), ox.1, ox.2.1, ox.2.2, none, x] (h ++ [.gone]) = .ok (.str ws) (h ++ [.gone]) := by
    intro x
    refine sl_ok (var_ok rfl) (oyes_ok c_ok) (oyes_ok ev_m1) ((slS (by omega)).trans ?_)
    refine congrArg (fun z => some (D.str z)) ((cut_nm (full ws) 1).trans ?_)
    have : (full ws).dropLast = 42 :: ws := by unfold full; rw [List.dropLast_concat]; rfl
    rw [this]; rfl
  have t5 : eAnd (eBin dGt (eCall (bRes bLen) (aCons (eVar 4) aNil)) (eC (.int 2))) (eAnd (eBin dEq (eIx (eVar 4) (eC (.int 0))) (eC (.str [42]))) (eAnd (eBin dEq (eIx (eVar 4) (eUn dNeg (eC (.int 1)))) (eC (.str [42]))) (eBin dNotIn (eC (.str [42])) (eSl (eVar 4) (oYes (eC (.int 1))) (oYes (eUn dNeg (eC (.int 1)))))))) [some (.str (flatR rs)), some (.lst (rs.map dR)), none, none, some (.str (full ws)), ox.1, ox.2.1, ox.2.2, none, none] (h ++ [.gone]) = .ok (.bl true) (h ++ [.gone]) := by
    refine eand_t (bin_ok (call_ok (cons_ok (var_ok rfl) nil_ok) (res_ok (lenS (by omega)))) c_ok (ev_gtI.trans (by rw [decide_eq_true (by omega)]))) (eand_t (bin_ok (ix_ok (var_ok rfl) c_ok (ixS_of (by omega) c0)) c_ok rfl) (eand_t (bin_ok (ix_ok (var_ok rfl) ev_m1 (ixS_of (by omega) c1)) c_ok rfl) (bin_ok c_ok (sl none) ?_)))
    unfold dNotIn inB
    simp only [inStr_one, Option.map_some]
    rw [decide_eq_false (fun z => o.b 42 z rfl)]; rfl
  exact seq_nx (asg_nm t5) (ret_ok (eif_yes (test_ok (var_ok rfl)) (sl _)))
/-- read from behind: none -/
theorem now_rev (h : LH) : g_nines_one_way [.str (NN (full ws)).reverse] h = .ok (.str []) (h ++ [.gone]) := by
  rw [NN_flat, flat_rev]
  have ro := RR_ok o
  have rk := RR_k o
  obtain ⟨pre, ep⟩ := RR_end ([42] ++ ws) 42
  have ep : RR (full ws) = pre ++ runC 42 := ep
  have ero : (RR (full ws)).reverse = (runC 42).reverse ++ pre.reverse := by rw [ep, List.reverse_append]
  have ro' : RsOk (RR (full ws)).reverse := ⟨alt_rev ro.alt, fun p hp => ro.two p (List.mem_reverse.mp hp), fun p hp => ro.bit p (List.mem_reverse.mp hp), by rw [List.length_reverse]; exact ro.len⟩
  refine now_b ro' h (k := ws.length + 2) (by rw [List.length_reverse]; exact rk) ?_ ?_
  · rw [ero]; exact ⟨1, rfl⟩
  · have e9 : (RR (full ws)).reverse.take 9 = (runC 42).reverse := by
      rw [ero, show (9 : Nat) = (runC 42).reverse.length from rfl, List.take_left]
    rw [e9]
    decide +kernel
end
theorem alt_split : ∀ {a b : List Rn}, Alt (a ++ b) → Alt a ∧ Alt b ∧ ∀ p q, a.getLast? = some p → b.head? = some q → p.1 ≠ q.1
  | [], b, h => ⟨trivial, h, fun p q e => by cases e⟩
  | [x], b, h => by
    cases b with
    | nil => exact ⟨h, trivial, fun p q _ e => by cases e⟩
    | cons y r => exact ⟨h.1, h.2.2, fun p q e1 e2 => by
        have e1 : x = p := by simpa using e1
        have e2 : y = q := by simpa using e2
        rw [← e1, ← e2]; exact h.2.1⟩
  | x :: y :: r, b, h => by
    obtain ⟨h1, h2, h3⟩ := h
    obtain ⟨i1, i2, i3⟩ := alt_split (a := y :: r) h3
    exact ⟨⟨h1, h2, i1⟩, i2, fun p q e => i3 p q (by rw [List.getLast?_cons_cons] at e; exact e)⟩
/-- what is left of the last sign -/
def cutq (r : Nat) : List Rn := if r = 0 then (runC 42).take 8 else if r = 1 then (runC 42).take 7 else (runC 42).take 6 ++ [(49, 1)]
section
variable {ws : List Nat} (o : WOk ws)
include o
theorem cut_runs {r : Nat} (hr : r < 3) : ∃ pre, RsOk (pre ++ cutq r) ∧ ((pre ++ cutq r).length + 1) % 10 ≠ 0 ∧ (NN (full ws)).take ((NN (full ws)).length - 1 - r) = flatR (pre ++ cutq r) := by
  have ro := RR_ok o
  have rk := RR_k o
  obtain ⟨pre, ep⟩ := RR_end ([42] ++ ws) 42
  have ep : RR (full ws) = pre ++ runC 42 := ep
  have l9 : (runC 42).length = 9 := rfl
  have hp : pre.length = 10 * (ws.length + 1) := by rw [ep, List.length_append, l9] at rk; omega
  have al := ro.alt
  rw [ep] at al
  obtain ⟨a1, a2, a3⟩ := alt_split al
  refine ⟨pre, ?_, ?_, ?_⟩
  · refine ⟨alt_append a1 ?_ fun p q e1 e2 => a3 p q e1 ?_, fun p hp => ?_, fun p hp => ?_, ?_⟩
    · rcases (show r = 0 ∨ r = 1 ∨ r = 2 by omega) with rfl | rfl | rfl <;> exact altB_ok (by decide +kernel)
    · rcases (show r = 0 ∨ r = 1 ∨ r = 2 by omega) with rfl | rfl | rfl <;> exact e2
    · rcases List.mem_append.mp hp with hp | hp
      · exact ro.two p (by rw [ep]; exact List.mem_append_left _ hp)
      · have : ((List.range 3).all fun r => (cutq r).all fun p => decide (1 ≤ p.2) && decide (p.2 ≤ 2)) = true := by decide +kernel
        have := List.all_eq_true.mp (rng_all this hr) p hp
        rw [Bool.and_eq_true] at this
        exact ⟨of_decide_eq_true this.1, of_decide_eq_true this.2⟩
    · rcases List.mem_append.mp hp with hp | hp
      · exact ro.bit p (by rw [ep]; exact List.mem_append_left _ hp)
      · have : ((List.range 3).all fun r => (cutq r).all fun p => p.1 == 48 || p.1 == 49) = true := by decide +kernel
        have := List.all_eq_true.mp (rng_all this hr) p hp
        simpa using this
    · have := ro.len
      rw [ep, List.length_append, l9] at this
      rw [List.length_append]
      rcases (show r = 0 ∨ r = 1 ∨ r = 2 by omega) with rfl | rfl | rfl
      · show pre.length + 8 ≤ 500; omega
      · show pre.length + 7 ≤ 500; omega
      · show pre.length + 7 ≤ 500; omega
  · rw [List.length_append, hp]
    rcases (show r = 0 ∨ r = 1 ∨ r = 2 by omega) with rfl | rfl | rfl
    · show (10 * (ws.length + 1) + 8 + 1) % 10 ≠ 0; omega
    · show (10 * (ws.length + 1) + 7 + 1) % 10 ≠ 0; omega
    · show (10 * (ws.length + 1) + 7 + 1) % 10 ≠ 0; omega
  · rw [NN_flat, ep, flat_app, flat_app]
    have e12 : (flatR (runC 42)).length = 12 := by decide +kernel
    rw [List.length_append, e12, show (flatR pre).length + 12 - 1 - r = (flatR pre).length + (11 - r) by omega, List.take_length_add_append]
    congr 1
    rcases (show r = 0 ∨ r = 1 ∨ r = 2 by omega) with rfl | rfl | rfl <;> decide +kernel
end
/-! ### read_nines -/
theorem two_ways' {s : List Nat} {ρ : En} {h : LH} (hl : s.length ≤ 10000) (e : ρ[0]? = some (some (.str s))) : iSeq (eTup (aCons (eVar 0) (aCons (eRevX (eVar 0)) aNil))) ρ h = .ok ⟨[.str s, .str s.reverse], none⟩ h :=
  seq_ofT (tup_ok (cons_ok (var_ok e) (cons_ok (revX_ok (var_ok e) (revS (by omega))) nil_ok)) rfl)
theorem neE' {x : List Nat} (hx : x ≠ []) : dNe (.str x) (.str []) = some (.bl true) := by
  rw [ev_neS, beq_eq_false_iff_ne.mpr hx]; rfl
theorem read_nines1 {s w : List Nat} {h h1 : LH} (hl : s.length ≤ 10000) (e1 : g_nines_one_way [.str s] h = .ok (.str w) h1) (hw : w ≠ []) : g_read_nines [.str s] h = .ok (.str w) h1 := by
  refine fn_rt rfl ?_
  show m_read_nines [some (.str s), none, none] h = _
  exact seq_rt (for_of (two_ways' hl rfl) (for_cons_rt rfl (seq_nx (asg_nm (call_ok (cons_ok (var_ok rfl) nil_ok) e1)) (if_yes (test_ok (bin_ok (var_ok rfl) c_ok (neE' hw))) (ret_ok (var_ok rfl))))))
theorem read_nines2 {s w : List Nat} {h h1 h2 : LH} (hl : s.length ≤ 10000) (e0 : g_nines_one_way [.str s] h = .ok (.str []) h1) (e1 : g_nines_one_way [.str s.reverse] h1 = .ok (.str w) h2) (hw : w ≠ []) : g_read_nines [.str s] h = .ok (.str w) h2 := by
  refine fn_rt rfl ?_
  show m_read_nines [some (.str s), none, none] h = _
  exact seq_rt (for_of (two_ways' hl rfl) (for_cons rfl (seq_nx (asg_nm (call_ok (cons_ok (var_ok rfl) nil_ok) e0)) (if_no (test_ok (bin_ok (var_ok rfl) c_ok neS_same)) rfl)) (for_cons_rt rfl (seq_nx (asg_nm (call_ok (cons_ok (var_ok rfl) nil_ok) e1)) (if_yes (test_ok (bin_ok (var_ok rfl) c_ok (neE' hw))) (ret_ok (var_ok rfl)))))))
theorem read_nines3 {s : List Nat} {h h1 h2 : LH} (hl : s.length ≤ 10000) (e0 : g_nines_one_way [.str s] h = .ok (.str []) h1) (e1 : g_nines_one_way [.str s.reverse] h1 = .ok (.str []) h2) : g_read_nines [.str s] h = .exc "StripeError" h2 := by
  refine fn_ex (ρ := [some (.str s), some (.str s.reverse), some (.str [])]) rfl ?_
  show m_read_nines [some (.str s), none, none] h = _
  exact seq_nx (for_of (two_ways' hl rfl) (for_cons rfl (seq_nx (asg_nm (call_ok (cons_ok (var_ok rfl) nil_ok) e0)) (if_no (test_ok (bin_ok (var_ok rfl) c_ok neS_same)) rfl)) (for_cons rfl (seq_nx (asg_nm (call_ok (cons_ok (var_ok rfl) nil_ok) e1)) (if_no (test_ok (bin_ok (var_ok rfl) c_ok neS_same)) rfl)) rfl))) rfl
section
variable {ws : List Nat} (o : WOk ws) (h : LH)
include o
theorem NN_len : (NN (full ws)).length ≤ 2000 := by
  rw [NN_flat]
  have := flat_len (RR_two (full_ok o))
  have := (RR_ok o).len
  omega
theorem rn_good : g_read_nines [.str (NN (full ws))] h = .ok (.str ws) (h ++ [.gone]) := read_nines1 (by have := NN_len o; omega) (now_good o h) o.n
theorem rn_rev : g_read_nines [.str (NN (full ws)).reverse] h = .ok (.str ws) ((h ++ [.gone]) ++ [.gone]) :=
  read_nines2 (by have := NN_len o; rw [List.length_reverse]; omega) (now_rev o h) (by rw [List.reverse_reverse]; exact now_good o _) o.n
theorem rn_cut {r : Nat} (hr : r < 3) : g_read_nines [.str ((NN (full ws)).take ((NN (full ws)).length - 1 - r))] h = .exc "StripeError" ((h ++ [.gone]) ++ [.gone]) := by
  obtain ⟨pre, p1, p2, p3⟩ := cut_runs o hr
  rw [p3]
  have lf : (flatR (pre ++ cutq r)).length ≤ 10000 := by have := flat_len p1.two; have := p1.len; omega
  refine read_nines3 lf (now_a p1 h p2) ?_
  rw [flat_rev]
  exact now_a ⟨alt_rev p1.alt, fun p hp => p1.two p (List.mem_reverse.mp hp), fun p hp => p1.bit p (List.mem_reverse.mp hp), by rw [List.length_reverse]; exact p1.len⟩ _ (by rw [List.length_reverse]; exact p2)
end
end K19

set_option Elab.async false
set_option linter.all false
set_option maxRecDepth 100000
set_option maxHeartbeats 4000000
namespace K19
open PySem PySem.Spec PyProof.Rows L2 Sh
local macro_rules | `(tactic| walk_at "len") => `(tactic| first | assumption | omega | (simp only [List.length_append, List.length_cons, List.length_nil, List.length_map, List.length_reverse, List.length_take, List.length_drop, List.length_dropLast, List.length_flatten, List.length_replicate, List.length_singleton]; omega) | (simp; omega) | decide)
local macro_rules | `(tactic| walk_at "op") => `(tactic| first
  | (with_reducible exact ev_addI) | (with_reducible apply addS; walk_at "len") | (with_reducible apply addL; walk_at "len")
  | (with_reducible exact ev_iaddI) | (with_reducible apply iaddS; walk_at "len")
  | (with_reducible exact ev_sub) | (with_reducible exact ev_neg)
  | (with_reducible exact ev_eqI) | (with_reducible exact ev_neI) | (with_reducible exact ev_eqS) | (with_reducible exact ev_neS) | (with_reducible exact ev_eqB) | (with_reducible exact ev_neB)
  | (with_reducible exact ev_ltI) | (with_reducible exact ev_leI) | (with_reducible exact ev_gtI) | (with_reducible exact ev_geI)
  | (with_reducible apply ev_modN; omega) | (with_reducible apply ev_mod; omega)
  | (with_reducible apply lenS; walk_at "len") | (with_reducible exact ev_lenL) | (with_reducible exact ev_lenT) | (with_reducible exact ev_lenF)
  | (with_reducible apply slS; walk_at "len") | (with_reducible exact slL)
  | (with_reducible apply revS; walk_at "len"))
local macro_rules | `(tactic| walk_at "val") => `(tactic| first | assumption | rfl | decide | simp [*])
local macro_rules | `(tactic| walk_at "ev") => `(tactic| first
  | (with_reducible assumption)
  | (with_reducible exact c_ok)
  | ((with_reducible apply var_ok); first | assumption | rfl)
  | (with_reducible exact nil_ok) | (with_reducible exact ono_ok)
  | ((with_reducible apply cons_ok); (walk_at "ev"); (walk_at "ev"))
  | ((with_reducible apply oyes_ok); (walk_at "ev"))
  | ((with_reducible apply bin_ok); (walk_at "ev"); (walk_at "ev"); (walk_at "op"))
  | ((with_reducible apply un_ok); (walk_at "ev"); (walk_at "op"))
  | ((with_reducible apply call_ok); (walk_at "ev"); (first | ((with_reducible apply res_ok); (walk_at "op")) | (walk_at "fn")))
  | ((with_reducible apply sl_ok); (walk_at "ev"); (walk_at "ev"); (walk_at "ev"); (walk_at "op"))
  | ((with_reducible apply revX_ok); (walk_at "ev"); (walk_at "op"))
  | ((with_reducible apply tup_ok); (walk_at "ev"); rfl)
  | ((with_reducible apply lst_ok); (walk_at "ev"); rfl)
  | ((with_reducible apply test_of); (walk_at "ev"); (walk_at "val"))
  | ((with_reducible apply or_nn); (walk_at "ev"); (walk_at "ev"))
  | ((with_reducible apply or_yes); (walk_at "ev"))
  | ((with_reducible apply and_yes); (walk_at "ev"); (walk_at "ev"))
  | ((with_reducible apply and_no); (walk_at "ev"))
  | ((with_reducible apply not_of); (walk_at "ev"); (walk_at "val"))
  | ((with_reducible apply eif_yes); (walk_at "ev"); (walk_at "ev"))
  | ((with_reducible apply eif_no); (walk_at "ev"); (walk_at "ev"))
  | ((with_reducible apply chain_ok); (walk_at "ev"); (walk_at "ev"); (walk_at "op"); (walk_at "ev"); (walk_at "op")))

/-! ### drawn -/
def chs (c : Nat) : Nat := if c = 49 then 35 else 32
def ln (some : List Nat) (w : Nat) : List Nat := (some.map fun c => List.replicate w (chs c)).flatten
def RS (x : List Nat) : List Nat := cp (Txt.rstripChars (S x) (S [32]))
theorem RS_ok {x : List Nat} (h : txOk x = true) : txOk (RS x) = true := by
  unfold txOk at *
  rw [List.all_eq_true] at *
  intro c hc
  refine h c ?_
  unfold RS Txt.rstripChars Txt.stripBy at hc
  split at hc
  · exact hc
  · unfold PySem.stripped at hc
    have hc : c ∈ (Builtin.Str.strSub (S x) _ _).cps.toList := hc
    rw [PySem.StrLaws.strSub_toList] at hc
    exact List.mem_of_mem_drop (List.mem_of_mem_take hc)
theorem gRS {x : List Nat} (h : x.length ≤ 16777216) : gRstripC x [32] = some (.str (RS x)) := by
  unfold gRstripC
  rw [if_pos (fits_le h)]; rfl
theorem len_rep' (w : Nat) (f : Nat → Nat) : ∀ l : List Nat, ((l.map fun c => List.replicate w (f c)).flatten).length = w * l.length
  | [] => rfl
  | a :: r => by rw [List.map_cons, List.flatten_cons, List.length_append, len_rep' w f r, List.length_replicate, List.length_cons, Nat.mul_succ]; omega
theorem ln_len (some : List Nat) (w : Nat) : (ln some w).length = w * some.length := len_rep' w chs some
theorem ln_ok (some : List Nat) (w : Nat) : txOk (ln some w) = true := by
  unfold txOk ln
  rw [List.all_eq_true]
  intro c hc
  rw [List.mem_flatten] at hc
  obtain ⟨l, hl, hc⟩ := hc
  obtain ⟨x, _, rfl⟩ := List.mem_map.mp hl
  rw [(List.mem_replicate.mp hc).2]
  unfold chs
  split <;> decide
theorem sum_rep (w : Nat) : ∀ l : List Nat, ((l.map fun c => List.replicate w (chs c)).map List.length).sum = w * l.length
  | [] => rfl
  | a :: r => by rw [List.map_cons, List.map_cons, List.sum_cons, sum_rep w r, List.length_replicate, List.length_cons, Nat.mul_succ]; omega
abbrev eLine (i j k : Nat) : Ev := eMt "str" (mJoin) (eC (.str [])) (aCons (eLc (iSeq (eVar i)) [j] (gNm j) bYes (eBin dMul (eIf (bTest (eBin dEq (eVar j) (eC (.str [49])))) (eC (.str [35])) (eC (.str [32]))) (eVar k))) aNil)
theorem line_ok {i j k : Nat} {ρ : En} {h : LH} {s : List Nat} {w : Nat} (hv : ρ[i]? = some (some (.str s))) (hk : ρ[k]? = some (some (.int (w : Int)))) (hj : j < ρ.length) (hjk : j ≠ k) (hl : s.length ≤ 1000) (hw : w ≤ 1000) : eLine i j k ρ h = .ok (.str (ln s w)) h := by
  have e : eLc (iSeq (eVar i)) [j] (gNm j) bYes (eBin dMul (eIf (bTest (eBin dEq (eVar j) (eC (.str [49])))) (eC (.str [35])) (eC (.str [32]))) (eVar k)) ρ h = .ok (.lst ((s.map fun c => List.replicate w (chs c)).map .str)) h := by
    refine elc_of (seq_ofS (var_ok hv)) ?_
    rw [lc_map (h := h) (fun c => D.str [c]) (fun c => D.str (List.replicate w (chs c))) s [] (fun c hc => ⟨_, rfl, ?_⟩) (by rw [List.length_nil]; omega)]
    · rw [List.nil_append, List.map_map]; rfl
    · have hw1 : ((wipeD ρ [j]).set j (some (.str [c])))[j]? = some (some (.str [c])) := by
        rw [List.getElem?_set_self (by show j < (ρ.set j none).length; rw [List.length_set]; exact hj)]
      have hw2 : ((wipeD ρ [j]).set j (some (.str [c])))[k]? = some (some (.int (w : Int))) := by
        rw [List.getElem?_set_ne hjk]
        show (ρ.set j none)[k]? = _
        rw [List.getElem?_set_ne hjk]; exact hk
      have z := eif_b (t := bTest (eBin dEq (eVar j) (eC (.str [49])))) (a := eC (.str [35])) (b := eC (.str [32])) (ρ := (wipeD ρ [j]).set j (some (.str [c]))) (h := h) (k := decide (c = 49)) (test_of (bin_ok (var_ok hw1) c_ok ev_eqS) (one_beq _ _)) (fun _ => c_ok) (fun _ => c_ok)
      have z2 : eIf (bTest (eBin dEq (eVar j) (eC (.str [49])))) (eC (.str [35])) (eC (.str [32])) ((wipeD ρ [j]).set j (some (.str [c]))) h = .ok (.str [chs c]) h := by
        rw [z]; unfold chs
        by_cases e : c = 49
        · rw [if_pos e, decide_eq_true e]; rfl
        · rw [if_neg e, decide_eq_false e]; rfl
      exact bin_ok z2 (var_ok hw2) (ev_repl (by omega))
  have q := join_ok (mo := eC (.str [])) (h := h) c_ok (cons_ok e nil_ok) rfl (strs_map _) (by
    rw [sum_rep]
    have := Nat.mul_le_mul hw hl
    simp only [List.length_nil, Nat.mul_zero]; omega)
  rw [Sh.join_nil] at q
  exact q
theorem gx_tup {α : Type} {g : Gv} {me : Ev} {vs : List Nat} {ρ : En} {h : LH} (toD : α → D) (f : α → D) : ∀ (l : List α), (∀ a ∈ l, ∃ ρ2, g (toD a) (wipeD ρ vs) h = some (ρ2, h) ∧ me ρ2 h = .ok (f a) h) →
    Sh.tLst (gxTr vs g bYes me ρ (l.map toD) h) = .ok (l.map f) h
  | [], _ => rfl
  | a :: l, hs => by
    obtain ⟨ρ2, e1, e2⟩ := hs a (List.mem_cons_self ..)
    have ih := gx_tup toD f l fun b hb => hs b (List.mem_cons_of_mem _ hb)
    rw [List.map_cons, gx_cons e1 rfl e2]
    unfold Sh.tLst
    rw [ih]; rfl
theorem map_const {α : Type} (d : D) : ∀ l : List α, l.map (fun _ => d) = List.replicate l.length d
  | [] => rfl
  | a :: r => by rw [List.map_cons, map_const d r, List.length_cons, List.replicate_succ]
theorem rep_flat (d : D) : ∀ n : Nat, (List.replicate n [d]).flatten = List.replicate n d
  | 0 => rfl
  | n + 1 => by rw [List.replicate_succ, List.flatten_cons, rep_flat d n]; rfl
theorem drawn_eq {s : List Nat} {w hi : Nat} (hb : Bits s) (hl : s.length ≤ 1000) (w1 : 1 ≤ w) (w2 : w ≤ 1000) (h1 : 1 ≤ hi) (h2 : hi ≤ 1000) (h : LH) : g_drawn_stripes [.str s, .int (w : Int), .int (hi : Int)] h = .ok (.tup (List.replicate hi (.str (RS (ln s w))))) h := by
  refine fn_rt rfl ?_
  show m_drawn_stripes [some (.str s), some (.int (w : Int)), some (.int (hi : Int)), none, none, none] h = _
  have t1 : bTest (eBin dLt (eCall (bRes bMin) (aCons (eVar 1) (aCons (eVar 2) aNil))) (eC (.int 1))) [some (.str s), some (.int (w : Int)), some (.int (hi : Int)), none, none, none] h = .ok false h := by
    refine test_of (bin_ok (call_ok (cons_ok (var_ok rfl) (cons_ok (var_ok rfl) nil_ok)) (res_ok ev_min)) c_ok ev_ltI) ?_
    rw [decide_eq_false_iff_not]
    split <;> omega
  have t2 : bTest (eGx tAnyR (iSeq (eVar 0)) [3] (gNm 3) bYes (eBin dNotIn (eVar 3) (eC (.str [48, 49])))) [some (.str s), some (.int (w : Int)), some (.int (hi : Int)), none, none, none] h = .ok false h := by
    refine test_of (gx_of (seq_ofS (var_ok rfl)) (gx_any (h := h) (fun c => D.str [c]) (fun c => !decide (c ∈ [48, 49])) s fun c hc => ⟨_, rfl, bin_ok (var_ok rfl) c_ok ?_⟩)) ?_
    · unfold dNotIn inB
      simp only [inStr_one, Option.map_some]
    · rw [List.any_eq_false]
      intro c hc
      rcases hb c hc with e | e <;> rw [e] <;> decide
  refine seq_nx (if_no (or_no t1 t2) rfl) ?_
  have lb := ln_len s w
  have lm : w * s.length ≤ 1000 * 1000 := Nat.mul_le_mul w2 hl
  refine seq_nx (asg_nm (mtS1_ok (line_ok rfl rfl (by simp) (by decide) hl w2) (cons_ok c_ok nil_ok) (gRS (by omega)))) ?_
  refine ret_ok (gx_of (rng1N_ok (j := hi) (cons_ok (var_ok rfl) nil_ok) (by omega)) ?_)
  unfold Sh.tTup rngD
  rw [gx_tup (h := h) (fun i : Nat => D.int (0 + (i : Nat))) (fun _ => D.str (RS (ln s w))) (List.range hi) (fun a ha => ⟨_, rfl, var_ok rfl⟩), ev_b1, map_const, List.length_range]
  rw [if_pos (fits_le (by rw [List.length_replicate]; omega))]
theorem ln_part {w : Nat} : ∀ (s : List Nat) (i c : Nat), s[i]? = some c → ((ln s w).take (w * i + w)).drop (w * i) = List.replicate w (chs c)
  | [], i, c, e => by simp at e
  | a :: r, 0, c, e => by
    have e : a = c := by simpa using e
    subst e
    show ((List.replicate w (chs a) ++ ln r w).take (w * 0 + w)).drop (w * 0) = _
    rw [Nat.mul_zero, Nat.zero_add, List.drop_zero]
    have := List.take_left (l₁ := List.replicate w (chs a)) (l₂ := ln r w)
    rw [List.length_replicate] at this
    exact this
  | a :: r, i + 1, c, e => by
    have ih := ln_part (w := w) r i c (by simpa using e)
    show ((List.replicate w (chs a) ++ ln r w).take (w * (i + 1) + w)).drop (w * (i + 1)) = _
    have lw : (List.replicate w (chs a)).length = w := List.length_replicate ..
    rw [show w * (i + 1) + w = (List.replicate w (chs a)).length + (w * i + w) by rw [lw, Nat.mul_succ]; omega, List.take_length_add_append, show w * (i + 1) = (List.replicate w (chs a)).length + w * i by rw [lw, Nat.mul_succ]; omega, ← List.drop_drop, List.drop_left]
    exact ih
theorem read_drawn_eq {s : List Nat} {w : Nat} (hb : Bits s) (hl : s.length ≤ 1000) (w1 : 1 ≤ w) (w2 : w ≤ 1000) (h : LH) : g_read_drawn [.str (ln s w), .int (w : Int)] h = .ok (.str s) h := by
  have lb := ln_len s w
  have lm : w * s.length ≤ 1000 * 1000 := Nat.mul_le_mul w2 hl
  refine fn_rt rfl ?_
  show m_read_drawn [some (.str (ln s w)), some (.int (w : Int)), none, none, none] h = _
  have t1 : bTest (eBin dLt (eVar 1) (eC (.int 1))) [some (.str (ln s w)), some (.int (w : Int)), none, none, none] h = .ok false h := test_of (bin_ok (var_ok rfl) c_ok ev_ltI) (by rw [decide_eq_false_iff_not]; omega)
  have t2 : bTest (eBin dNe (eBin dMod (eCall (bRes bLen) (aCons (eVar 0) aNil)) (eVar 1)) (eC (.int 0))) [some (.str (ln s w)), some (.int (w : Int)), none, none, none] h = .ok false h := by
    refine test_of (bin_ok (bin_ok (call_ok (cons_ok (var_ok rfl) nil_ok) (res_ok (lenS (by omega)))) (var_ok rfl) (ev_modN (by omega))) c_ok ev_neI) ?_
    rw [lb, Nat.mul_mod_right]; rfl
  refine seq_nx (if_no (or_no t1 t2) rfl) (seq_nx (asg_nm c_ok) ?_)
  have rg := rng3_ok (ma := aCons (eC (.int 0)) (aCons (eCall (bRes bLen) (aCons (eVar 0) aNil)) (aCons (eVar 1) aNil))) (ρ := [some (.str (ln s w)), some (.int (w : Int)), some (.str []), none, none]) (h := h) (n := (ln s w).length) (c := w) (cons_ok c_ok (cons_ok (call_ok (cons_ok (var_ok rfl) nil_ok) (res_ok (lenS (by omega)))) (cons_ok (var_ok rfl) nil_ok))) w1 (by omega) (by omega)
  have ek : ((ln s w).length + w - 1) / w = s.length := by
    rw [lb, show w * s.length + w - 1 = (w - 1) + w * s.length by omega, Nat.add_mul_div_left _ _ (by omega), Nat.div_eq_of_lt (by omega), Nat.zero_add]
  rw [ek] at rg
  obtain ⟨ox, f1, f2⟩ := for_ix (g := gNm 3) (m := (sSeq (sAsg (eSl (eVar 0) (oYes (eVar 3)) (oYes (eBin dAdd (eVar 3) (eVar 1)))) (gNm 4)) (sSeq (sIf (bTest (eBin dNotIn (eVar 4) (eTup (aCons (eBin dMul (eC (.str [35])) (eVar 1)) (aCons (eBin dMul (eC (.str [32])) (eVar 1)) aNil))))) (sRaise "StripeError") sNil) (sAug dIAdd 2 (eIf (bTest (eBin dEq (eIx (eVar 4) (eC (.int 0))) (eC (.str [35])))) (eC (.str [49])) (eC (.str [48])))))))
    (fun i : Nat => D.int ((w * i : Nat) : Int)) (fun (found : List Nat) (q : Option D × Option D) => [some (.str (ln s w)), some (.int (w : Int)), some (.str found), q.1, q.2]) (fun _ => h) (fun found i => found ++ [s.getD i 0]) (fun i found => found = s.take i) (List.range s.length) 0 [] (none, none)
    (fun i a found q hi hP => by
      have ia : a = i ∧ i < s.length := by
        obtain ⟨h4, h5⟩ := List.getElem?_eq_some_iff.mp hi
        rw [List.length_range] at h4
        rw [List.getElem_range] at h5
        exact ⟨h5.symm, h4⟩
      obtain ⟨rfl, il⟩ := ia
      rw [Nat.zero_add] at hP
      obtain ⟨c, hc⟩ : ∃ c, s[a]? = some c := ⟨_, List.getElem?_eq_getElem il⟩
      have gd : s.getD a 0 = c := by rw [List.getD_eq_getElem?_getD, hc]; rfl
      have cb := hb c (List.mem_of_getElem? hc)
      refine ⟨by rw [hP, Nat.zero_add, List.take_add_one, hc, gd]; rfl, _, _, (some (.int ((w * a : Nat) : Int)), some (.str (List.replicate w (chs c)))), rfl, ?_⟩
      rw [gd]
      show (_ : Sv) [some (.str (ln s w)), some (.int (w : Int)), some (.str found), some (.int ((w * a : Nat) : Int)), q.2] h = _
      refine seq_nx (asg_nm (sl_ok (var_ok rfl) (oyes_ok (var_ok rfl)) (oyes_ok (bin_ok (var_ok rfl) (var_ok rfl) ev_addI)) ((slS (by omega)).trans (by rw [show ((w * a : Nat) : Int) + (w : Int) = ((w * a + w : Nat) : Int) by omega, cut_nn, ln_part s a c hc])))) ?_
      have t3 : bTest (eBin dNotIn (eVar 4) (eTup (aCons (eBin dMul (eC (.str [35])) (eVar 1)) (aCons (eBin dMul (eC (.str [32])) (eVar 1)) aNil)))) [some (.str (ln s w)), some (.int (w : Int)), some (.str found), some (.int ((w * a : Nat) : Int)), some (.str (List.replicate w (chs c)))] h = .ok false h := by
        refine test_ok (bin_ok (var_ok rfl) (tup_ok (cons_ok (bin_ok c_ok (var_ok rfl) (ev_repl (by omega))) (cons_ok (bin_ok c_ok (var_ok rfl) (ev_repl (by omega))) nil_ok)) rfl) ?_)
        show (inB _ (.tup ([List.replicate w 35, List.replicate w 32].map .str))).map (fun k => D.bl (!k)) = _
        rw [inTup]
        rcases cb with e | e <;> subst e <;> simp [chs]
      refine seq_nx (if_no t3 rfl) ?_
      have i0 : dIx h (.str (List.replicate w (chs c))) (.int 0) = some (.str [chs c]) := by
        refine ixS_of (by rw [List.length_replicate]; omega) ?_
        have := ev_at (l := List.replicate w (chs c)) (j := 0) (by rw [List.length_replicate]; omega)
        rw [List.getElem_replicate] at this
        exact this
      have z := eif_b (t := bTest (eBin dEq (eIx (eVar 4) (eC (.int 0))) (eC (.str [35])))) (a := eC (.str [49])) (b := eC (.str [48])) (ρ := [some (.str (ln s w)), some (.int (w : Int)), some (.str found), some (.int ((w * a : Nat) : Int)), some (.str (List.replicate w (chs c)))]) (h := h) (k := decide (chs c = 35)) (test_of (bin_ok (ix_ok (var_ok rfl) c_ok i0) c_ok ev_eqS) (one_beq _ _)) (fun _ => c_ok) (fun _ => c_ok)
      have z2 : eIf (bTest (eBin dEq (eIx (eVar 4) (eC (.int 0))) (eC (.str [35])))) (eC (.str [49])) (eC (.str [48])) [some (.str (ln s w)), some (.int (w : Int)), some (.str found), some (.int ((w * a : Nat) : Int)), some (.str (List.replicate w (chs c)))] h = .ok (.str [c]) h := by
        refine z.trans ?_
        rcases cb with e | e <;> subst e <;> rfl
      have lf : found.length ≤ 1000 := by rw [hP, List.length_take]; omega
      exact aug_ok (x := .str found) rfl z2 (iaddS (by simp; omega))) rfl
  have f2 : (List.range s.length).foldl (fun found i => found ++ [s.getD i 0]) [] = s := by
    rw [f2, List.length_range, Nat.zero_add, List.take_length]
  rw [f2] at f1
  exact seq_nx (for_of rg f1) (ret_ok (var_ok rfl))
end K19

set_option Elab.async false
set_option linter.all false
set_option maxRecDepth 100000
set_option maxHeartbeats 4000000
namespace K19
open PySem PySem.Spec PyProof.Rows L2 Sh
local macro_rules | `(tactic| walk_at "len") => `(tactic| first | assumption | omega | (simp only [List.length_append, List.length_cons, List.length_nil, List.length_map, List.length_reverse, List.length_take, List.length_drop, List.length_dropLast, List.length_flatten, List.length_replicate, List.length_singleton]; omega) | (simp; omega) | decide)
local macro_rules | `(tactic| walk_at "op") => `(tactic| first
  | (with_reducible exact ev_addI) | (with_reducible apply addS; walk_at "len") | (with_reducible apply addL; walk_at "len")
  | (with_reducible exact ev_iaddI) | (with_reducible apply iaddS; walk_at "len")
  | (with_reducible exact ev_sub) | (with_reducible exact ev_neg)
  | (with_reducible exact ev_eqI) | (with_reducible exact ev_neI) | (with_reducible exact ev_eqS) | (with_reducible exact ev_neS) | (with_reducible exact ev_eqB) | (with_reducible exact ev_neB)
  | (with_reducible exact ev_ltI) | (with_reducible exact ev_leI) | (with_reducible exact ev_gtI) | (with_reducible exact ev_geI)
  | (with_reducible apply ev_modN; omega) | (with_reducible apply ev_mod; omega)
  | (with_reducible apply lenS; walk_at "len") | (with_reducible exact ev_lenL) | (with_reducible exact ev_lenT) | (with_reducible exact ev_lenF)
  | (with_reducible apply slS; walk_at "len") | (with_reducible exact slL)
  | (with_reducible apply revS; walk_at "len"))
local macro_rules | `(tactic| walk_at "val") => `(tactic| first | assumption | rfl | decide | simp [*])
local macro_rules | `(tactic| walk_at "ev") => `(tactic| first
  | (with_reducible assumption)
  | (with_reducible exact c_ok)
  | ((with_reducible apply var_ok); first | assumption | rfl)
  | (with_reducible exact nil_ok) | (with_reducible exact ono_ok)
  | ((with_reducible apply cons_ok); (walk_at "ev"); (walk_at "ev"))
  | ((with_reducible apply oyes_ok); (walk_at "ev"))
  | ((with_reducible apply bin_ok); (walk_at "ev"); (walk_at "ev"); (walk_at "op"))
  | ((with_reducible apply un_ok); (walk_at "ev"); (walk_at "op"))
  | ((with_reducible apply call_ok); (walk_at "ev"); (first | ((with_reducible apply res_ok); (walk_at "op")) | (walk_at "fn")))
  | ((with_reducible apply sl_ok); (walk_at "ev"); (walk_at "ev"); (walk_at "ev"); (walk_at "op"))
  | ((with_reducible apply revX_ok); (walk_at "ev"); (walk_at "op"))
  | ((with_reducible apply tup_ok); (walk_at "ev"); rfl)
  | ((with_reducible apply lst_ok); (walk_at "ev"); rfl)
  | ((with_reducible apply test_of); (walk_at "ev"); (walk_at "val"))
  | ((with_reducible apply or_nn); (walk_at "ev"); (walk_at "ev"))
  | ((with_reducible apply or_yes); (walk_at "ev"))
  | ((with_reducible apply and_yes); (walk_at "ev"); (walk_at "ev"))
  | ((with_reducible apply and_no); (walk_at "ev"))
  | ((with_reducible apply not_of); (walk_at "ev"); (walk_at "val"))
  | ((with_reducible apply eif_yes); (walk_at "ev"); (walk_at "ev"))
  | ((with_reducible apply eif_no); (walk_at "ev"); (walk_at "ev"))
  | ((with_reducible apply chain_ok); (walk_at "ev"); (walk_at "ev"); (walk_at "op"); (walk_at "ev"); (walk_at "op")))

variable {G : LH}
/-! ### what is drawn -/
theorem all2_fn {α : Type} {Q : α → Prop} {f : α → D} : ∀ {ds ys : List D}, All2 (fun _ y => ∃ n, Q n ∧ y = f n) ds ys → ∃ ns : List α, ys = ns.map f ∧ ns.length = ds.length ∧ ∀ n ∈ ns, Q n
  | _, _, .nil => ⟨[], rfl, rfl, fun n h => by cases h⟩
  | _, _, .cons ⟨n, hq, e⟩ r => by
    obtain ⟨ns, e1, e2, e3⟩ := all2_fn r
    refine ⟨n :: ns, by rw [List.map_cons, e1, e], by rw [List.length_cons, List.length_cons, e2], fun m hm => ?_⟩
    rcases List.mem_cons.mp hm with h | h
    · rw [h]; exact hq
    · exact e3 m h
/-- texts of one sign each, drawn and joined -/
theorem drawn_text {vs : List Nat} {g : Gv} {me : Ev} {ρ : En} {Q : Nat → Prop} {mi : Iv} {ds : List D} {h : LH} {a b c : Int} (hi : mi ρ h = .ok ⟨ds, none⟩ (dice G a b c)) (hl : ds.length ≤ 100)
    (hs : ∀ d ∈ ds, ∀ a b c, ∃ ρ2 n a' b' c', g d (wipeD ρ vs) (dice G a b c) = some (ρ2, dice G a b c) ∧ me ρ2 (dice G a b c) = .ok (.str [n]) (dice G a' b' c') ∧ Q n) :
    ∃ ns a' b' c', eMt "str" (mJoin) (eC (.str [])) (aCons (eLc mi vs g bYes me) aNil) ρ h = .ok (.str ns) (dice G a' b' c') ∧ ns.length = ds.length ∧ ∀ n ∈ ns, Q n := by
  obtain ⟨ys, a', b', c', e, q⟩ := lc_roll (vs := vs) (g := g) (me := me) (ρ := ρ) (G := G) (P := fun _ y => ∃ n, Q n ∧ y = D.str [n]) ds (fun d hd a b c => by
    obtain ⟨ρ2, n, a', b', c', e1, e2, e3⟩ := hs d hd a b c
    exact ⟨ρ2, _, a', b', c', e1, e2, n, e3, rfl⟩) a b c [] (by rw [List.length_nil]; omega)
  obtain ⟨ns, e1, e2, e3⟩ := all2_fn q
  rw [List.nil_append, e1] at e
  have em : (ns.map fun n => D.str [n]) = (ns.map fun n => [n]).map .str := by rw [List.map_map]; rfl
  rw [em] at e
  have k := join_ok (mo := eC (.str [])) (ρ := ρ) (h := h) c_ok (cons_ok (elc_of hi e) nil_ok) rfl (strs_map _) (by rw [sum_one ns (fun c => c)]; simp only [List.length_nil, Nat.mul_zero]; omega)
  rw [Sh.join_nil, flat_one ns (fun c => c), List.map_id'] at k
  exact ⟨ns, a', b', c', k, e2, e3⟩
theorem rng_ok {n : Nat} (hn : n ≤ 1000) {ma : Av} {ρ : En} {h h1 : LH} (ha : ma ρ h = .ok [.int (n : Int)] h1) : iRng1 ma ρ h = .ok ⟨rngD 0 n, none⟩ h1 := rng1N_ok ha (by omega)
theorem rng_len (n : Nat) : (rngD 0 n).length = n := by unfold rngD; rw [List.length_map, List.length_range]
theorem tx_of {s : List Nat} (h : ∀ n ∈ s, ∃ j < 10, n = 48 + j) : ∃ js, s = tx js ∧ ∀ j ∈ js, j < 10 := by
  induction s with
  | nil => exact ⟨[], rfl, fun j h => by cases h⟩
  | cons a r ih =>
    obtain ⟨j, hj, e⟩ := h a (List.mem_cons_self ..)
    obtain ⟨js, e1, e2⟩ := ih fun n hn => h n (List.mem_cons_of_mem _ hn)
    refine ⟨j :: js, by rw [e, e1]; rfl, fun i hi => ?_⟩
    rcases List.mem_cons.mp hi with z | z
    · rw [z]; exact hj
    · exact e2 i z
theorem js_of {js : List Nat} (hl : js.length = 12) (hj : ∀ i ∈ js, i < 10) : ∃ j : Js, j.Ok ∧ j.js = js ++ [ck js] ∧ ck j.js.dropLast = j.js.getLastD 0 := by
  match js, hl, hj with
  | [a0, a1, a2, a3, a4, a5, a6, a7, a8, a9, a10, a11], _, hj =>
    refine ⟨⟨a0, [a1, a2, a3, a4, a5, a6], [a7, a8, a9, a10, a11, ck [a0, a1, a2, a3, a4, a5, a6, a7, a8, a9, a10, a11]]⟩, ⟨hj a0 (by simp), rfl, rfl, fun d hd => ?_, fun d hd => ?_⟩, rfl, rfl⟩
    · have hd : d ∈ [a1, a2, a3, a4, a5, a6] := hd
      simp only [List.mem_cons, List.mem_nil_iff, or_false] at hd
      rcases hd with rfl | rfl | rfl | rfl | rfl | rfl <;> exact hj _ (by simp)
    · have hd : d ∈ [a7, a8, a9, a10, a11, ck [a0, a1, a2, a3, a4, a5, a6, a7, a8, a9, a10, a11]] := hd
      simp only [List.mem_cons, List.mem_nil_iff, or_false] at hd
      rcases hd with rfl | rfl | rfl | rfl | rfl | e
      · exact hj _ (by simp)
      · exact hj _ (by simp)
      · exact hj _ (by simp)
      · exact hj _ (by simp)
      · exact hj _ (by simp)
      · rw [e]; exact ck_lt _
theorem body_drawn {ρ : En} (v1 : ρ[1]? = some (some (.obj 0))) (hl : ρ.length = 24) (a b c : Int) : ∃ js a' b' c', eMt "str" (mJoin) (eC (.str [])) (aCons (eLc (iRng1 (aCons (eC (.int 12)) aNil)) [3] (gNm 3) bYes (eCall (bRes bStr) (aCons (eCall g_x_law_roll (aCons (eVar 1) (aCons (eC (.int 10)) aNil))) aNil))) aNil) ρ (dice G a b c) = .ok (.str (tx js)) (dice G a' b' c') ∧ js.length = 12 ∧ ∀ j ∈ js, j < 10 := by
  obtain ⟨ns, a', b', c', e1, e2, e3⟩ := drawn_text (G := G) (vs := [3]) (g := gNm 3) (me := eCall (bRes bStr) (aCons (eCall g_x_law_roll (aCons (eVar 1) (aCons (eC (.int 10)) aNil))) aNil)) (ρ := ρ) (Q := fun n => ∃ j < 10, n = 48 + j) (mi := iRng1 (aCons (eC (.int 12)) aNil)) (ds := rngD 0 12) (rng_ok (n := 12) (by decide) (cons_ok c_ok nil_ok)) (by rw [rng_len]; decide) (fun d hd a b c => by
    have v : ((wipeD ρ [3]).set 3 (some d))[1]? = some (some (.obj 0)) := by
      rw [List.getElem?_set_ne (by decide)]
      show (ρ.set 3 none)[1]? = _
      rw [List.getElem?_set_ne (by decide)]; exact v1
    obtain ⟨x, a', b', c', r, l⟩ := roll_nat (G := G) (many := 10) (a := a) (b := b) (c := c) v (fun _ => c_ok) (by decide) (by decide)
    exact ⟨_, 48 + x, a', b', c', rfl, call_ok (cons_ok r nil_ok) (res_ok (str1 _ l)), x, l, rfl⟩)
  obtain ⟨js, e4, e5⟩ := tx_of e3
  refine ⟨js, a', b', c', by rw [e1, e4], ?_, e5⟩
  rw [e4, tx_len] at e2
  exact e2.trans (rng_len 12)
def s17 : List Nat := sgs.filter (· != 42)
theorem keys17 {ρ : En} {h : LH} (hl : ρ.length = 24) : eLc (iKk tab_NINES) [11] (gNm 11) (bTest (eBin dNe (eVar 11) (eC (.str [42])))) (eVar 11) ρ h = .ok (.lst (s17.map fun c => .str [c])) h := by
  have it : iKk tab_NINES ρ h = .ok ⟨sgs.map fun c => D.str [c], none⟩ h := rfl
  refine elc_of it ?_
  rw [lc_filter (h := h) (fun c : Nat => D.str [c]) (fun c => c != 42) (fun c => D.str [c]) sgs [] (fun c hc => ⟨_, rfl, ?_, fun _ => var_ok ?_⟩) (by decide +kernel)]
  · rfl
  · have v : ((wipeD ρ [11]).set 11 (some (.str [c])))[11]? = some (some (.str [c])) := by rw [List.getElem?_set_self (by show 11 < (ρ.set 11 none).length; rw [List.length_set]; omega)]
    refine test_of (bin_ok (var_ok v) c_ok ev_neS) ?_
    rw [one_beq]
    by_cases e : c = 42
    · subst e; rfl
    · rw [decide_eq_false e, bne_iff_ne.mpr e]; rfl
  · rw [List.getElem?_set_self (by show 11 < (ρ.set 11 none).length; rw [List.length_set]; omega)]
theorem word_drawn {ρ : En} (v1 : ρ[1]? = some (some (.obj 0))) (hl : ρ.length = 24) (a b c : Int) : ∃ ws a' b' c', eMt "str" (mJoin) (eC (.str [])) (aCons (eLc (iRng1 (aCons (eBin dAdd (eC (.int 1)) (eCall g_x_law_roll (aCons (eVar 1) (aCons (eC (.int 6)) aNil)))) aNil)) [3] (gNm 3) bYes (eIx (eLc (iKk tab_NINES) [11] (gNm 11) (bTest (eBin dNe (eVar 11) (eC (.str [42])))) (eVar 11)) (eCall g_x_law_roll (aCons (eVar 1) (aCons (eC (.int 17)) aNil))))) aNil) ρ (dice G a b c) = .ok (.str ws) (dice G a' b' c') ∧ WOk ws := by
  obtain ⟨x, a1, b1, c1, r, l⟩ := roll_nat (G := G) (many := 6) (a := a) (b := b) (c := c) v1 (fun _ => c_ok) (by decide) (by decide)
  obtain ⟨ns, a', b', c', e1, e2, e3⟩ := drawn_text (G := G) (vs := [3]) (g := gNm 3) (me := eIx (eLc (iKk tab_NINES) [11] (gNm 11) (bTest (eBin dNe (eVar 11) (eC (.str [42])))) (eVar 11)) (eCall g_x_law_roll (aCons (eVar 1) (aCons (eC (.int 17)) aNil)))) (ρ := ρ) (Q := fun n => n ∈ s17) (mi := iRng1 (aCons (eBin dAdd (eC (.int 1)) (eCall g_x_law_roll (aCons (eVar 1) (aCons (eC (.int 6)) aNil)))) aNil)) (ds := rngD 0 (1 + x)) (h := dice G a b c) (rng_ok (n := 1 + x) (by omega) (cons_ok (bin_ok c_ok r (ev_addI.trans (by congr 2))) nil_ok)) (by rw [rng_len]; omega) (fun d hd a b c => by
    have v : ((wipeD ρ [3]).set 3 (some d))[1]? = some (some (.obj 0)) := by
      rw [List.getElem?_set_ne (by decide)]
      show (ρ.set 3 none)[1]? = _
      rw [List.getElem?_set_ne (by decide)]; exact v1
    obtain ⟨y, a', b', c', r, l⟩ := roll_nat (G := G) (many := 17) (a := a) (b := b) (c := c) v (fun _ => c_ok) (by decide) (by decide)
    have l17 : s17.length = 17 := by decide +kernel
    have hk := keys17 (ρ := (wipeD ρ [3]).set 3 (some d)) (h := dice G a b c) (by rw [List.length_set]; show (ρ.set 3 none).length = 24; rw [List.length_set]; exact hl)
    have ly : y < (s17.map fun c => D.str [c]).length := by rw [List.length_map]; omega
    exact ⟨_, s17[y]'(by omega), a', b', c', rfl, ix_ok hk r (ev_ixL.trans ((ev_at ly).trans (by rw [List.getElem_map]))), List.getElem_mem _⟩)
  have e2 := e2.trans (rng_len (1 + x))
  refine ⟨ns, a', b', c', e1, ⟨fun c hc => ?_, fun c hc => ?_, fun z => ?_, by omega⟩⟩
  · have := e3 c hc
    exact (List.mem_filter.mp this).1
  · have := (List.mem_filter.mp (e3 c hc)).2
    exact bne_iff_ne.mp this
  · rw [z] at e2; simp at e2; omega
theorem some_drawn {ρ : En} (v1 : ρ[1]? = some (some (.obj 0))) (hl : ρ.length = 24) (a b c : Int) : ∃ s a' b' c', eMt "str" (mJoin) (eC (.str [])) (aCons (eLc (iRng1 (aCons (eBin dAdd (eC (.int 1)) (eCall g_x_law_roll (aCons (eVar 1) (aCons (eC (.int 20)) aNil)))) aNil)) [3] (gNm 3) bYes (eIx (eC (.str [48, 49])) (eCall g_x_law_roll (aCons (eVar 1) (aCons (eC (.int 2)) aNil))))) aNil) ρ (dice G a b c) = .ok (.str s) (dice G a' b' c') ∧ Bits s ∧ 1 ≤ s.length ∧ s.length ≤ 20 := by
  obtain ⟨x, a1, b1, c1, r, l⟩ := roll_nat (G := G) (many := 20) (a := a) (b := b) (c := c) v1 (fun _ => c_ok) (by decide) (by decide)
  obtain ⟨ns, a', b', c', e1, e2, e3⟩ := drawn_text (G := G) (vs := [3]) (g := gNm 3) (me := eIx (eC (.str [48, 49])) (eCall g_x_law_roll (aCons (eVar 1) (aCons (eC (.int 2)) aNil)))) (ρ := ρ) (Q := fun n => n = 48 ∨ n = 49) (mi := iRng1 (aCons (eBin dAdd (eC (.int 1)) (eCall g_x_law_roll (aCons (eVar 1) (aCons (eC (.int 20)) aNil)))) aNil)) (ds := rngD 0 (1 + x)) (h := dice G a b c) (rng_ok (n := 1 + x) (by omega) (cons_ok (bin_ok c_ok r (ev_addI.trans (by congr 2))) nil_ok)) (by rw [rng_len]; omega) (fun d hd a b c => by
    have v : ((wipeD ρ [3]).set 3 (some d))[1]? = some (some (.obj 0)) := by
      rw [List.getElem?_set_ne (by decide)]
      show (ρ.set 3 none)[1]? = _
      rw [List.getElem?_set_ne (by decide)]; exact v1
    obtain ⟨y, a', b', c', r, l⟩ := roll_nat (G := G) (many := 2) (a := a) (b := b) (c := c) v (fun _ => c_ok) (by decide) (by decide)
    rcases (show y = 0 ∨ y = 1 by omega) with rfl | rfl
    · exact ⟨_, 48, a', b', c', rfl, ix_ok c_ok r rfl, .inl rfl⟩
    · exact ⟨_, 49, a', b', c', rfl, ix_ok c_ok r rfl, .inr rfl⟩)
  have e2 := e2.trans (rng_len (1 + x))
  exact ⟨ns, a', b', c', e1, e3, by omega, by omega⟩
/-! ### sorted twice -/
theorem sort_sort (ks : List (List Nat)) : sortN (sortN ks) = sortN ks :=
  sorted_uniq leN_anti (sort_perm leN _) (sort_pw leN_tot leN_tr _) (sort_pw leN_tot leN_tr _)
theorem mem_sort {ks : List (List Nat)} {x : List Nat} : x ∈ sortN ks ↔ x ∈ ks := (sort_perm leN ks).mem_iff
theorem neSame {l : List (List Nat)} (h : ∀ x ∈ l, txOk x = true) : dNe (.lst (l.map .str)) (.lst (l.map .str)) = some (.bl false) := by
  have e := dNe_same (a := l.map fun x => (⟨x⟩ : Tx)) (by
    show List.all _ _ = true
    rw [List.all_map, List.all_eq_true]
    exact fun x hx => h x hx) (by decide)
  have em : Py.e (l.map fun x => (⟨x⟩ : Tx)) = D.lst (l.map .str) := by
    show D.lst _ = _
    rw [List.map_map]; rfl
  rw [em] at e
  exact e
theorem neSameR {l : List Rn} (h : ∀ p ∈ l, p.1 < 0x110000) : dNe (.lst (l.map dR)) (.lst (l.map dR)) = some (.bl false) := by
  have e := dNe_same (a := l.map fun p => ((⟨[p.1]⟩ : Tx), (p.2 : Nat))) (by
    show List.all _ _ = true
    rw [List.all_map, List.all_eq_true]
    intro p hp
    show (txOk [p.1] && true) = true
    unfold txOk
    simp [h p hp]) (by decide)
  have em : Py.e (l.map fun p => ((⟨[p.1]⟩ : Tx), (p.2 : Nat))) = D.lst (l.map dR) := by
    show D.lst _ = _
    rw [List.map_map]; rfl
  rw [em] at e
  exact e
theorem GoodTx.ok {x : List Nat} (h : GoodTx x) : txOk x = true := by
  obtain ⟨js, h1, h2, h3, rfl⟩ := h
  unfold txOk tx
  rw [List.all_eq_true]
  intro c hc
  obtain ⟨j, hj, rfl⟩ := List.mem_map.mp hc
  have := h2 j hj
  simp; omega
theorem chg_chg {s : List Nat} (hb : Bits s) (p : Nat) : chg (chg s p) p = s := by
  unfold chg
  apply List.ext_getElem?
  intro n
  rw [List.getElem?_modify, List.getElem?_modify]
  cases e : s[n]? with
  | none => rfl
  | some c =>
    have hc := hb c (List.mem_of_getElem? e)
    by_cases h : p = n
    · subst h
      rcases hc with rfl | rfl <;> simp [fl1]
    · simp [h]
section
variable {j : Js} (o : j.Ok)
include o
theorem S_bits : Bits j.S := by
  intro c hc
  unfold Js.S lay at hc
  have kL : ∀ b ∈ List.zipWith blk j.row j.ls, ∀ c ∈ b, c = 48 ∨ c = 49 := by
    intro b hb c hc
    obtain ⟨i, hi, e⟩ := List.getElem_of_mem hb
    rw [List.getElem_zipWith] at e
    rw [List.length_zipWith] at hi
    have h1 := o.rowF.2.1 _ (List.getElem_mem (l := j.row) (n := i) (by omega))
    rw [← e] at hc
    refine (kN ?_ (o.L _ (List.getElem_mem _))).2 c hc
    unfold LG at h1
    simp only [List.mem_cons, List.mem_nil_iff, or_false] at h1
    rcases h1 with h1 | h1
    · exact .inl h1
    · exact .inr (.inl h1)
  simp only [List.mem_append, List.mem_flatten] at hc
  rcases hc with hc | ⟨b, hb, hc⟩ | hc | ⟨b, hb, hc⟩ | hc
  · simp only [List.mem_cons, List.mem_nil_iff, or_false] at hc; omega
  · exact kL b hb c hc
  · simp only [List.mem_cons, List.mem_nil_iff, or_false] at hc; omega
  · obtain ⟨d, hd, rfl⟩ := List.mem_map.mp hb
    exact (kN (.inr (.inr rfl)) (o.R d hd)).2 c hc
  · simp only [List.mem_cons, List.mem_nil_iff, or_false] at hc; omega
end
/-! ### rows -/
theorem rows_step {ρ : En} {h : LH} {acc : List Rn} {c : Nat} (v18 : ρ[18]? = some (some (.lst (acc.map dR)))) (v11 : ρ[11]? = some (some (.str [c]))) (hc : ∀ p ∈ acc, p.1 < 0x110000) (hl : acc.length ≤ 1000) :
    eIf (bAnd (bTest (eBin dNe (eVar 18) (eLst aNil))) (bTest (eBin dEq (eIx (eIx (eVar 18) (eUn dNeg (eC (.int 1)))) (eC (.int 0))) (eVar 11)))) (eBin dAdd (eSl (eVar 18) oNo (oYes (eUn dNeg (eC (.int 1))))) (eLst (aCons (eTup (aCons (eVar 11) (aCons (eBin dAdd (eIx (eIx (eVar 18) (eUn dNeg (eC (.int 1)))) (eC (.int 1))) (eC (.int 1))) aNil))) aNil))) (eBin dAdd (eVar 18) (eLst (aCons (eTup (aCons (eVar 11) (aCons (eC (.int 1)) aNil))) aNil))) ρ h = .ok (.lst ((stepR acc c).map dR)) h := by
  have la : (acc.map dR).length = acc.length := List.length_map ..
  have t1 : bTest (eBin dNe (eVar 18) (eLst aNil)) ρ h = .ok (decide (acc ≠ [])) h := test_ok (bin_ok (var_ok v18) (lst_ok nil_ok rfl) (neNil hc))
  have els : eBin dAdd (eVar 18) (eLst (aCons (eTup (aCons (eVar 11) (aCons (eC (.int 1)) aNil))) aNil)) ρ h = .ok (.lst ((acc ++ [(c, 1)]).map dR)) h := by
    refine bin_ok (var_ok v18) (lst_ok (cons_ok (tup_ok (cons_ok (var_ok v11) (cons_ok c_ok nil_ok)) rfl) nil_ok) rfl) ((addL (by rw [la]; simp; omega)).trans ?_)
    rw [List.map_append]; rfl
  cases el : acc.getLast? with
  | none =>
    have ea := List.getLast?_eq_none_iff.mp el
    subst ea
    exact eif_no (and_no t1) els
  | some z =>
    have ne : acc ≠ [] := by intro y; rw [y] at el; cases el
    rw [decide_eq_true ne] at t1
    have lz := last_dR el
    have g0 : dIx h (dR z) (.int 0) = some (.str [z.1]) := rfl
    have g1 : dIx h (dR z) (.int 1) = some (.int (z.2 : Nat)) := rfl
    have t2 : bTest (eBin dEq (eIx (eIx (eVar 18) (eUn dNeg (eC (.int 1)))) (eC (.int 0))) (eVar 11)) ρ h = .ok (decide (z.1 = c)) h :=
      test_of (bin_ok (ix_ok (ix_ok (var_ok v18) ev_m1 (ev_ixL.trans lz)) c_ok g0) (var_ok v11) ev_eqS) (one_beq _ _)
    by_cases hz : z.1 = c
    · rw [decide_eq_true hz] at t2
      have es : stepR acc c = acc.dropLast ++ [(c, z.2 + 1)] := by unfold stepR; rw [el]; simp only; rw [if_pos hz]
      rw [es]
      refine eif_yes (and_yes t1 t2) (bin_ok (sl_ok (var_ok v18) ono_ok (oyes_ok ev_m1) (slL.trans (by rw [cut_0m]))) (lst_ok (cons_ok (tup_ok (cons_ok (var_ok v11) (cons_ok (bin_ok (ix_ok (ix_ok (var_ok v18) ev_m1 (ev_ixL.trans lz)) c_ok g1) c_ok ev_addI) nil_ok)) rfl) nil_ok) rfl) ((addL (by rw [List.length_dropLast, la]; simp; omega)).trans ?_))
      rw [List.map_append, List.map_dropLast]; rfl
    · rw [decide_eq_false hz] at t2
      have es : stepR acc c = acc ++ [(c, 1)] := by unfold stepR; rw [el]; simp only; rw [if_neg hz]
      rw [es]
      exact eif_no (and_yes t1 t2) els
theorem ev_mulL {xs : List D} {i : Int} : dMul (.lst xs) (.int i) = if decide (-(2 ^ 63) ≤ i) && decide (i < 2 ^ 63) && fits (xs.length * i.toNat) then some (.lst (List.replicate i.toNat xs).flatten) else none := rfl
theorem repL {xs : List D} {k : Nat} (hk : k ≤ 1000) (hl : xs.length ≤ 1000) : dMul (.lst xs) (.int (k : Int)) = some (.lst (List.replicate k xs).flatten) := by
  have hm := Nat.mul_le_mul hl hk
  have e1 : decide (-(2 ^ 63) ≤ (k : Int)) = true := decide_eq_true (by omega)
  have e2 : decide ((k : Int) < 2 ^ 63) = true := decide_eq_true (by omega)
  rw [ev_mulL, e1, e2, Int.toNat_natCast, fits_le (by omega)]
  rfl
/-! ### dark ones, figures -/
def cnt (s : List Nat) : Int := Txt.count (S s) (S [49])
theorem share_of {s : List Nat} (h0 : 1 ≤ s.length) (hl : s.length ≤ 1000) {i : Nat} {ρ : En} {h : LH} (v : ρ[i]? = some (some (.str s))) : eBin dDiv (eBin dMul (eC (.int 1000)) (eMt "str" (mS1 gCount) (eVar i) (aCons (eC (.str [49])) aNil))) (eCall (bRes bLen) (aCons (eVar i) aNil)) ρ h = .ok (.int (1000 * cnt s / (s.length : Int))) h :=
  bin_ok (bin_ok c_ok (mtS1_ok (var_ok v) (cons_ok c_ok nil_ok) rfl) ((ev_mulI).trans (by rw [mul_ok (.inl (by decide))]; rfl))) (call_ok (cons_ok (var_ok v) nil_ok) (res_ok (lenS (by omega)))) (ev_div (by omega) (by have : (s.length : Int).natAbs = s.length := rfl; rw [this]; exact Nat.lt_of_le_of_lt hl (by decide)))
theorem share_eq {s : List Nat} (h0 : 1 ≤ s.length) (hl : s.length ≤ 1000) (h : LH) : g_dark_share [.str s] h = .ok (.int (1000 * cnt s / (s.length : Int))) h := by
  refine fn_rt rfl ?_
  show m_dark_share [some (.str s)] h = _
  refine seq_nx (if_no (test_of (bin_ok (var_ok rfl) c_ok ev_eqS) ?_) rfl) (ret_ok (share_of h0 hl rfl))
  rw [beq_eq_false_iff_ne]
  intro z
  rw [z] at h0; simp at h0
def fK : Bool := (List.range 10).all fun d => [76, 82, 71].all fun k => fi [k] (blk k d) == ([48 + d], [k])
theorem fK_ok : fK = true := by decide +kernel
theorem kK {d k : Nat} (hd : d < 10) (hk : k = 76 ∨ k = 82 ∨ k = 71) : fi [k] (blk k d) = ([48 + d], [k]) := by
  have h := List.all_eq_true.mp (rng_all fK_ok hd) k (by rcases hk with rfl | rfl | rfl <;> decide)
  exact eq_of_beq h
theorem nePair {a b : List Nat} (ha : txOk a = true) (hb : txOk b = true) : dNe (dPr (a, b)) (.tup [.str a, .str b]) = some (.bl false) := dNe_same (a := ((⟨a⟩ : Tx), (⟨b⟩ : Tx))) (by show (txOk a && txOk b) = true; rw [ha, hb]; rfl) (by decide)
theorem fi_none : fi [76, 82, 71] [49, 49, 49, 49, 49, 49, 49] = ([], []) := by decide +kernel
end K19

set_option Elab.async false
set_option linter.all false
set_option maxRecDepth 100000
set_option maxHeartbeats 4000000
namespace K19
open PySem PySem.Spec PyProof.Rows L2 Sh
local macro_rules | `(tactic| walk_at "len") => `(tactic| first | assumption | omega | (simp only [List.length_append, List.length_cons, List.length_nil, List.length_map, List.length_reverse, List.length_take, List.length_drop, List.length_dropLast, List.length_flatten, List.length_replicate, List.length_singleton]; omega) | (simp; omega) | decide)
local macro_rules | `(tactic| walk_at "op") => `(tactic| first
  | (with_reducible exact ev_addI) | (with_reducible apply addS; walk_at "len") | (with_reducible apply addL; walk_at "len")
  | (with_reducible exact ev_iaddI) | (with_reducible apply iaddS; walk_at "len")
  | (with_reducible exact ev_sub) | (with_reducible exact ev_neg)
  | (with_reducible exact ev_eqI) | (with_reducible exact ev_neI) | (with_reducible exact ev_eqS) | (with_reducible exact ev_neS) | (with_reducible exact ev_eqB) | (with_reducible exact ev_neB)
  | (with_reducible exact ev_ltI) | (with_reducible exact ev_leI) | (with_reducible exact ev_gtI) | (with_reducible exact ev_geI)
  | (with_reducible apply ev_modN; omega) | (with_reducible apply ev_mod; omega)
  | (with_reducible apply lenS; walk_at "len") | (with_reducible exact ev_lenL) | (with_reducible exact ev_lenT) | (with_reducible exact ev_lenF)
  | (with_reducible apply slS; walk_at "len") | (with_reducible exact slL)
  | (with_reducible apply revS; walk_at "len"))
local macro_rules | `(tactic| walk_at "val") => `(tactic| first | assumption | rfl | decide | simp [*])
local macro_rules | `(tactic| walk_at "ev") => `(tactic| first
  | (with_reducible assumption)
  | (with_reducible exact c_ok)
  | ((with_reducible apply var_ok); first | assumption | rfl)
  | (with_reducible exact nil_ok) | (with_reducible exact ono_ok)
  | ((with_reducible apply cons_ok); (walk_at "ev"); (walk_at "ev"))
  | ((with_reducible apply oyes_ok); (walk_at "ev"))
  | ((with_reducible apply bin_ok); (walk_at "ev"); (walk_at "ev"); (walk_at "op"))
  | ((with_reducible apply un_ok); (walk_at "ev"); (walk_at "op"))
  | ((with_reducible apply call_ok); (walk_at "ev"); (first | ((with_reducible apply res_ok); (walk_at "op")) | (walk_at "fn")))
  | ((with_reducible apply sl_ok); (walk_at "ev"); (walk_at "ev"); (walk_at "ev"); (walk_at "op"))
  | ((with_reducible apply revX_ok); (walk_at "ev"); (walk_at "op"))
  | ((with_reducible apply tup_ok); (walk_at "ev"); rfl)
  | ((with_reducible apply lst_ok); (walk_at "ev"); rfl)
  | ((with_reducible apply test_of); (walk_at "ev"); (walk_at "val"))
  | ((with_reducible apply or_nn); (walk_at "ev"); (walk_at "ev"))
  | ((with_reducible apply or_yes); (walk_at "ev"))
  | ((with_reducible apply and_yes); (walk_at "ev"); (walk_at "ev"))
  | ((with_reducible apply and_no); (walk_at "ev"))
  | ((with_reducible apply not_of); (walk_at "ev"); (walk_at "val"))
  | ((with_reducible apply eif_yes); (walk_at "ev"); (walk_at "ev"))
  | ((with_reducible apply eif_no); (walk_at "ev"); (walk_at "ev"))
  | ((with_reducible apply chain_ok); (walk_at "ev"); (walk_at "ev"); (walk_at "op"); (walk_at "ev"); (walk_at "op")))

/-! ### small ones, and what cannot be -/
abbrev SE : List Nat := [83, 116, 114, 105, 112, 101, 69, 114, 114, 111, 114]
theorem bad_step {me : Ev} {mes : List Ev} {n : Nat} {ρ : En} {h h1 : LH} {r : Res D} (he : me ρ h = .exc "StripeError" h1) (hr : badGo toldCat toldRet SE mes n ρ h1 = r) : badGo toldCat toldRet SE (me :: mes) n ρ h = r := by
  unfold badGo
  rw [told_ex he (by decide)]
  simp only
  have e : dNe (.str toldRet) (.str SE) = some (.bl false) := neS_same
  rw [e]
  exact hr
def j0 : Js := ⟨4, [0, 0, 6, 3, 8, 1], [3, 3, 3, 9, 3, 1]⟩
theorem o0 : j0.Ok := ⟨by decide, rfl, rfl, by decide, by decide⟩
theorem c0 : ck j0.js.dropLast = j0.js.getLastD 0 := by decide +kernel
abbrev T0 : List Nat := [52, 48, 48, 54, 51, 56, 49, 51, 51, 51, 57, 51, 49]
theorem t0 : tx j0.js = T0 := rfl
theorem x1 (h : LH) : g_figure_stripes [.str [49, 50], .str [76]] h = .exc "StripeError" h := by kernel_rfl
theorem x2 (h : LH) : g_figure_stripes [.str [97], .str [76]] h = .exc "StripeError" h := by kernel_rfl
theorem x3 (h : LH) : g_figure_stripes [.str [49], .str [88]] h = .exc "StripeError" h := by kernel_rfl
theorem x4 (h : LH) : g_good_stripes [.str [49]] h = .exc "StripeError" h := by kernel_rfl
theorem x5 (h : LH) : g_good_stripes [.str [52, 48, 48, 54, 51, 56, 49, 51, 51, 51, 57, 51, 50]] h = .exc "StripeError" h := by kernel_rfl
theorem x6 (h : LH) : g_good_stripes [.str [52, 48, 48, 54, 51, 56, 49, 51, 51, 51, 57, 51, 97]] h = .exc "StripeError" h := by kernel_rfl
theorem x7 (h : LH) : g_read_good [.str []] h = .exc "StripeError" h := by kernel_rfl
theorem x8 (h : LH) : g_read_good [.str (List.replicate 95 49)] h = .exc "StripeError" h := by kernel_rfl
theorem x9 (h : LH) : g_nine_stripes [.str []] h = .exc "StripeError" h := by kernel_rfl
theorem x10 (h : LH) : g_nine_stripes [.str [42]] h = .exc "StripeError" h := by kernel_rfl
theorem x11 (h : LH) : g_nine_stripes [.str [97]] h = .exc "StripeError" h := by kernel_rfl
theorem x12 (h : LH) : g_nine_stripes [.str (List.replicate 41 49)] h = .exc "StripeError" h := by kernel_rfl
theorem rs_no {rs : List Rn} (o : RsOk rs) (hk : (rs.length + 1) % 10 ≠ 0) (h : LH) : g_read_nines [.str (flatR rs)] h = .exc "StripeError" ((h ++ [.gone]) ++ [.gone]) := by
  have lf : (flatR rs).length ≤ 10000 := by have := flat_len o.two; have := o.len; omega
  refine read_nines3 lf (now_a o h hk) ?_
  rw [flat_rev]
  exact now_a ⟨alt_rev o.alt, fun p hp => o.two p (List.mem_reverse.mp hp), fun p hp => o.bit p (List.mem_reverse.mp hp), by rw [List.length_reverse]; exact o.len⟩ _ (by rw [List.length_reverse]; exact hk)
theorem x13 (h : LH) : g_read_nines [.str []] h = .exc "StripeError" ((h ++ [.gone]) ++ [.gone]) := rs_no (rs := []) ⟨trivial, (fun p hp => by cases hp), (fun p hp => by cases hp), by decide⟩ (by decide) h
theorem x14 (h : LH) : g_read_nines [.str [49, 48, 49]] h = .exc "StripeError" ((h ++ [.gone]) ++ [.gone]) := rs_no (rs := [(49, 1), (48, 1), (49, 1)]) ⟨altB_ok (by decide), by decide, by decide, by decide⟩ (by decide) h
theorem x15 (h : LH) : g_drawn_stripes [.str [49], .int 0, .int 1] h = .exc "StripeError" h := by kernel_rfl
theorem x16 (h : LH) : g_drawn_stripes [.str [49], .int 1, .int 0] h = .exc "StripeError" h := by kernel_rfl
theorem x17 (h : LH) : g_drawn_stripes [.str [50], .int 1, .int 1] h = .exc "StripeError" h := by kernel_rfl
theorem x18 (h : LH) : g_read_drawn [.str [35], .int 0] h = .exc "StripeError" h := by kernel_rfl
theorem x19 (h : LH) : g_read_drawn [.str [35, 35, 35], .int 2] h = .exc "StripeError" h := by kernel_rfl
theorem x20 (h : LH) : g_read_drawn [.str [35, 32], .int 2] h = .exc "StripeError" h := by kernel_rfl
theorem x21 (h : LH) : g_dark_share [.str []] h = .exc "StripeError" h := by kernel_rfl
theorem x22 (h : LH) : g_with_spot [.str [49], .int 1] h = .exc "StripeError" h := by kernel_rfl
theorem x23 (h : LH) : g_with_spot [.str [49], .int (-1)] h = .exc "StripeError" h := by kernel_rfl
theorem x24 (h : LH) : g_mended_good [.str j0.S] h = .exc "StripeError" h := by
  have e1 := rd_eq (S_bits o0).ok (by rw [K19.S_len o0]; decide) h
  rw [rd_good o0 c0] at e1
  refine fn_ex (ρ := [some (.str j0.S), none, none, none, none, none]) rfl ?_
  show m_mended_good [some (.str j0.S), none, none, none, none, none] h = _
  refine seq_ex (if_yes (or_no (test_of (bin_ok (call_ok (cons_ok (var_ok rfl) nil_ok) (res_ok (lenS (by rw [K19.S_len o0]; decide)))) c_ok ev_neI) (by rw [K19.S_len o0]; rfl)) (or_yes (test_ok (bin_ok (call_ok (cons_ok (var_ok rfl) nil_ok) e1) c_ok (neE' (by decide)))))) rfl)
theorem x25 (h : LH) : g_mended_good [.str [49]] h = .exc "StripeError" h := by kernel_rfl
/-! what can be -/
theorem w0 : WOk [65, 45, 49, 50] := ⟨by decide +kernel, by decide, by decide, by decide⟩
theorem w1 : WOk [65] := ⟨by decide +kernel, by decide, by decide, by decide⟩
theorem y1 (h : LH) : g_dark_share [.str j0.S] h = .ok (.int 473) h := by kernel_rfl
theorem y2 (h : LH) : g_drawn_stripes [.str [49, 48, 49], .int 2, .int 1] h = .ok (.tup [.str [35, 35, 32, 32, 35, 35]]) h := by kernel_rfl
theorem y3 (h : LH) : g_read_drawn [.str [35, 35, 32, 32, 35, 35], .int 2] h = .ok (.str [49, 48, 49]) h := by kernel_rfl
theorem y4 (h : LH) : g_figure_stripes [.str [51], .str [71]] h = .ok (.str [48, 49, 48, 48, 48, 48, 49]) h := by kernel_rfl
theorem y5 : (NN (full [65])).length = 38 := by decide +kernel
theorem y6 : (List.range 95).foldl (stepM (chg j0.S 10)) [] = [T0] := by decide +kernel
end K19

set_option Elab.async false
set_option linter.all false
set_option maxRecDepth 100000
set_option maxHeartbeats 4000000
namespace K19
open PySem PySem.Spec PyProof.Rows L2 Sh
local macro_rules | `(tactic| walk_at "len") => `(tactic| first | assumption | omega | (simp only [List.length_append, List.length_cons, List.length_nil, List.length_map, List.length_reverse, List.length_take, List.length_drop, List.length_dropLast, List.length_flatten, List.length_replicate, List.length_singleton]; omega) | (simp; omega) | decide)
local macro_rules | `(tactic| walk_at "op") => `(tactic| first
  | (with_reducible exact ev_addI) | (with_reducible apply addS; walk_at "len") | (with_reducible apply addL; walk_at "len")
  | (with_reducible exact ev_iaddI) | (with_reducible apply iaddS; walk_at "len")
  | (with_reducible exact ev_sub) | (with_reducible exact ev_neg)
  | (with_reducible exact ev_eqI) | (with_reducible exact ev_neI) | (with_reducible exact ev_eqS) | (with_reducible exact ev_neS) | (with_reducible exact ev_eqB) | (with_reducible exact ev_neB)
  | (with_reducible exact ev_ltI) | (with_reducible exact ev_leI) | (with_reducible exact ev_gtI) | (with_reducible exact ev_geI)
  | (with_reducible apply ev_modN; omega) | (with_reducible apply ev_mod; omega)
  | (with_reducible apply lenS; walk_at "len") | (with_reducible exact ev_lenL) | (with_reducible exact ev_lenT) | (with_reducible exact ev_lenF)
  | (with_reducible apply slS; walk_at "len") | (with_reducible exact slL)
  | (with_reducible apply revS; walk_at "len"))
local macro_rules | `(tactic| walk_at "val") => `(tactic| first | assumption | rfl | decide | simp [*])
local macro_rules | `(tactic| walk_at "ev") => `(tactic| first
  | (with_reducible assumption)
  | (with_reducible exact c_ok)
  | ((with_reducible apply var_ok); first | assumption | rfl)
  | (with_reducible exact nil_ok) | (with_reducible exact ono_ok)
  | ((with_reducible apply cons_ok); (walk_at "ev"); (walk_at "ev"))
  | ((with_reducible apply oyes_ok); (walk_at "ev"))
  | ((with_reducible apply bin_ok); (walk_at "ev"); (walk_at "ev"); (walk_at "op"))
  | ((with_reducible apply un_ok); (walk_at "ev"); (walk_at "op"))
  | ((with_reducible apply call_ok); (walk_at "ev"); (first | ((with_reducible apply res_ok); (walk_at "op")) | (walk_at "fn")))
  | ((with_reducible apply sl_ok); (walk_at "ev"); (walk_at "ev"); (walk_at "ev"); (walk_at "op"))
  | ((with_reducible apply revX_ok); (walk_at "ev"); (walk_at "op"))
  | ((with_reducible apply tup_ok); (walk_at "ev"); rfl)
  | ((with_reducible apply lst_ok); (walk_at "ev"); rfl)
  | ((with_reducible apply test_of); (walk_at "ev"); (walk_at "val"))
  | ((with_reducible apply or_nn); (walk_at "ev"); (walk_at "ev"))
  | ((with_reducible apply or_yes); (walk_at "ev"))
  | ((with_reducible apply and_yes); (walk_at "ev"); (walk_at "ev"))
  | ((with_reducible apply and_no); (walk_at "ev"))
  | ((with_reducible apply not_of); (walk_at "ev"); (walk_at "val"))
  | ((with_reducible apply eif_yes); (walk_at "ev"); (walk_at "ev"))
  | ((with_reducible apply eif_no); (walk_at "ev"); (walk_at "ev"))
  | ((with_reducible apply chain_ok); (walk_at "ev"); (walk_at "ev"); (walk_at "op"); (walk_at "ev"); (walk_at "op")))

abbrev S0 : List Nat := j0.S
theorem S0_len : S0.length = 95 := K19.S_len o0
theorem bad_ok (h : LH) : badGo toldCat toldRet SE ((((([(eCall g_figure_stripes (aCons (eC (.str [49, 50])) (aCons (eC (.str [76])) aNil))), (eCall g_figure_stripes (aCons (eC (.str [97])) (aCons (eC (.str [76])) aNil))), (eCall g_figure_stripes (aCons (eC (.str [49])) (aCons (eC (.str [88])) aNil))), (eCall g_good_stripes (aCons (eC (.str [49])) aNil))] ++ [(eCall g_good_stripes (aCons (eC (.str [52, 48, 48, 54, 51, 56, 49, 51, 51, 51, 57, 51, 50])) aNil)), (eCall g_good_stripes (aCons (eC (.str [52, 48, 48, 54, 51, 56, 49, 51, 51, 51, 57, 51, 97])) aNil)), (eCall g_read_good (aCons (eC (.str [])) aNil)), (eCall g_read_good (aCons (eBin dMul (eC (.str [49])) (eC (.int 95))) aNil))]) ++ [(eCall g_nine_stripes (aCons (eC (.str [])) aNil)), (eCall g_nine_stripes (aCons (eC (.str [42])) aNil)), (eCall g_nine_stripes (aCons (eC (.str [97])) aNil)), (eCall g_nine_stripes (aCons (eBin dMul (eC (.str [49])) (eC (.int 41))) aNil)), (eCall g_read_nines (aCons (eC (.str [])) aNil))]) ++ [(eCall g_read_nines (aCons (eC (.str [49, 48, 49])) aNil)), (eCall g_drawn_stripes (aCons (eC (.str [49])) (aCons (eC (.int 0)) (aCons (eC (.int 1)) aNil)))), (eCall g_drawn_stripes (aCons (eC (.str [49])) (aCons (eC (.int 1)) (aCons (eC (.int 0)) aNil)))), (eCall g_drawn_stripes (aCons (eC (.str [50])) (aCons (eC (.int 1)) (aCons (eC (.int 1)) aNil))))]) ++ [(eCall g_read_drawn (aCons (eC (.str [35])) (aCons (eC (.int 0)) aNil))), (eCall g_read_drawn (aCons (eC (.str [35, 35, 35])) (aCons (eC (.int 2)) aNil))), (eCall g_read_drawn (aCons (eC (.str [35, 32])) (aCons (eC (.int 2)) aNil))), (eCall g_dark_share (aCons (eC (.str [])) aNil)), (eCall g_with_spot (aCons (eC (.str [49])) (aCons (eC (.int 1)) aNil)))]) ++ [(eCall g_with_spot (aCons (eC (.str [49])) (aCons (eUn dNeg (eC (.int 1))) aNil))), (eCall g_mended_good (aCons (eVar 0) aNil)), (eCall g_mended_good (aCons (eC (.str [49])) aNil))]) 0 [some (.str S0), none, none, none] h = .ok (.lst []) ((((h ++ [.gone]) ++ [.gone]) ++ [.gone]) ++ [.gone]) := by
  have c1 : ∀ {x : D} {ρ : En} {h : LH}, aCons (eC x) aNil ρ h = .ok [x] h := rfl
  have c2 : ∀ {x y : D} {ρ : En} {h : LH}, aCons (eC x) (aCons (eC y) aNil) ρ h = .ok [x, y] h := rfl
  have c3 : ∀ {x y z : D} {ρ : En} {h : LH}, aCons (eC x) (aCons (eC y) (aCons (eC z) aNil)) ρ h = .ok [x, y, z] h := rfl
  refine bad_step (call_ex c2 (x1 _)) (bad_step (call_ex c2 (x2 _)) (bad_step (call_ex c2 (x3 _)) (bad_step (call_ex c1 (x4 _)) ?_)))
  refine bad_step (call_ex c1 (x5 _)) (bad_step (call_ex c1 (x6 _)) (bad_step (call_ex c1 (x7 _)) (bad_step (call_ex (cons_ok (bin_ok c_ok c_ok (ev_repl (k := 95) (by decide))) nil_ok) (x8 _)) ?_)))
  refine bad_step (call_ex c1 (x9 _)) (bad_step (call_ex c1 (x10 _)) (bad_step (call_ex c1 (x11 _)) (bad_step (call_ex (cons_ok (bin_ok c_ok c_ok (ev_repl (k := 41) (by decide))) nil_ok) (x12 _)) (bad_step (call_ex c1 (x13 _)) ?_))))
  refine bad_step (call_ex c1 (x14 _)) (bad_step (call_ex c3 (x15 _)) (bad_step (call_ex c3 (x16 _)) (bad_step (call_ex c3 (x17 _)) ?_)))
  refine bad_step (call_ex c2 (x18 _)) (bad_step (call_ex c2 (x19 _)) (bad_step (call_ex c2 (x20 _)) (bad_step (call_ex c1 (x21 _)) (bad_step (call_ex c2 (x22 _)) ?_))))
  exact bad_step (call_ex (cons_ok c_ok (cons_ok ev_m1 nil_ok)) (x23 _)) (bad_step (call_ex (cons_ok (var_ok rfl) nil_ok) (x24 _)) (bad_step (call_ex c1 (x25 _)) rfl))
theorem plain_ok (h : LH) : ∃ G, g_x_law_plain [] h = .ok (.bl true) (h ++ G) := by
  obtain ⟨h1, e1⟩ : ∃ h1, h1 = (((h ++ [LO.gone]) ++ [.gone]) ++ [.gone]) ++ [.gone] := ⟨_, rfl⟩
  obtain ⟨ks, m1, m2, m3, m4⟩ := mended_eq (T := chg S0 10) (chg_bits (S_bits o0) 10) (by rw [chg_len]; exact S0_len) (rd_chg o0 (by decide)) (rd_chg_rev o0 (by decide)) (p := 10) (by decide) (by rw [chg_chg (S_bits o0), rd_good o0 c0]; decide) h1
  rw [y6] at m4
  subst m4
  obtain ⟨h2, e2⟩ : ∃ h2, h2 = h1 ++ [LO.dic (kvD [T0])] := ⟨_, rfl⟩
  obtain ⟨G1, n1⟩ := nine_eq w0 h2
  obtain ⟨h3, e3⟩ : ∃ h3, h3 = (h2 ++ G1) ++ [LO.gone] := ⟨_, rfl⟩
  obtain ⟨G2, n2⟩ := nine_eq w0 h3
  obtain ⟨h4, e4⟩ : ∃ h4, h4 = ((h3 ++ G2) ++ [LO.gone]) ++ [LO.gone] := ⟨_, rfl⟩
  obtain ⟨G3, n3⟩ := nine_eq w1 h4
  obtain ⟨h5, e5⟩ : ∃ h5, h5 = h4 ++ G3 := ⟨_, rfl⟩
  rw [← e5] at n3
  refine ⟨[.gone, .gone, .gone, .gone] ++ ([LO.dic (kvD [T0])] ++ (G1 ++ ([.gone] ++ (G2 ++ ([.gone, .gone] ++ G3))))), ?_⟩
  have eh : h ++ ([.gone, .gone, .gone, .gone] ++ ([LO.dic (kvD [T0])] ++ (G1 ++ ([.gone] ++ (G2 ++ ([.gone, .gone] ++ G3)))))) = h5 := by
    rw [e5, e4, e3, e2, e1]
    simp only [List.append_assoc, List.cons_append, List.nil_append]
  rw [eh]
  refine fn_rt rfl ?_
  show m_x_law_plain [none, none, none, none] h = _
  have sb := S_bits o0
  have sl := S0_len
  refine seq_nx (asg_nm (call_ok (cons_ok c_ok nil_ok) (good_stripes_eq o0 c0 h))) ?_
  refine seq_nx (ρ1 := [some (.str S0), none, none, none]) (h1 := h) rfl ?_
  have lens : bTest (eBin dNe (eTup (aCons (eCall (bRes bLen) (aCons (eC con_LEFT) aNil)) (aCons (eCall (bRes bLen) (aCons (eC con_HEADS) aNil)) (aCons (eC (.int (tab_NINES.length : Nat))) aNil)))) (eTup (aCons (eC (.int 10)) (aCons (eC (.int 10)) (aCons (eC (.int 18)) aNil))))) [some (.str S0), none, none, none] h1 = .ok false h1 :=
    test_ok (bin_ok (x := .tup [.int 10, .int 10, .int 18]) (y := .tup [.int 10, .int 10, .int 18]) rfl rfl (dNe_same (a := (⟨[10, 10, 18]⟩ : Tu Int)) rfl (by decide)))
  have bad : bTest (eBin dNe (eBad 2 toldCat toldRet SE ((((([(eCall g_figure_stripes (aCons (eC (.str [49, 50])) (aCons (eC (.str [76])) aNil))), (eCall g_figure_stripes (aCons (eC (.str [97])) (aCons (eC (.str [76])) aNil))), (eCall g_figure_stripes (aCons (eC (.str [49])) (aCons (eC (.str [88])) aNil))), (eCall g_good_stripes (aCons (eC (.str [49])) aNil))] ++ [(eCall g_good_stripes (aCons (eC (.str [52, 48, 48, 54, 51, 56, 49, 51, 51, 51, 57, 51, 50])) aNil)), (eCall g_good_stripes (aCons (eC (.str [52, 48, 48, 54, 51, 56, 49, 51, 51, 51, 57, 51, 97])) aNil)), (eCall g_read_good (aCons (eC (.str [])) aNil)), (eCall g_read_good (aCons (eBin dMul (eC (.str [49])) (eC (.int 95))) aNil))]) ++ [(eCall g_nine_stripes (aCons (eC (.str [])) aNil)), (eCall g_nine_stripes (aCons (eC (.str [42])) aNil)), (eCall g_nine_stripes (aCons (eC (.str [97])) aNil)), (eCall g_nine_stripes (aCons (eBin dMul (eC (.str [49])) (eC (.int 41))) aNil)), (eCall g_read_nines (aCons (eC (.str [])) aNil))]) ++ [(eCall g_read_nines (aCons (eC (.str [49, 48, 49])) aNil)), (eCall g_drawn_stripes (aCons (eC (.str [49])) (aCons (eC (.int 0)) (aCons (eC (.int 1)) aNil)))), (eCall g_drawn_stripes (aCons (eC (.str [49])) (aCons (eC (.int 1)) (aCons (eC (.int 0)) aNil)))), (eCall g_drawn_stripes (aCons (eC (.str [50])) (aCons (eC (.int 1)) (aCons (eC (.int 1)) aNil))))]) ++ [(eCall g_read_drawn (aCons (eC (.str [35])) (aCons (eC (.int 0)) aNil))), (eCall g_read_drawn (aCons (eC (.str [35, 35, 35])) (aCons (eC (.int 2)) aNil))), (eCall g_read_drawn (aCons (eC (.str [35, 32])) (aCons (eC (.int 2)) aNil))), (eCall g_dark_share (aCons (eC (.str [])) aNil)), (eCall g_with_spot (aCons (eC (.str [49])) (aCons (eC (.int 1)) aNil)))]) ++ [(eCall g_with_spot (aCons (eC (.str [49])) (aCons (eUn dNeg (eC (.int 1))) aNil))), (eCall g_mended_good (aCons (eVar 0) aNil)), (eCall g_mended_good (aCons (eC (.str [49])) aNil))])) (eLst aNil)) [some (.str S0), none, none, none] h = .ok false h1 := by
    refine test_ok (bin_ok (x := .lst []) (y := .lst []) (h1 := h1) ?_ (lst_ok nil_ok rfl) (neSame (l := []) (fun x hx => by cases hx)))
    unfold eBad
    rw [if_pos (by show (2 : Nat) < 4; decide), e1]
    exact bad_ok h
  refine seq_nx (if_no (or_no bad lens) rfl) ?_
  have r1 := read_good1 sb.ok (by rw [sl]; decide) h1 (by rw [rd_good o0 c0]; decide)
  rw [rd_good o0 c0] at r1
  have r2 := read_good2 (rev_bits sb).ok (by rw [List.length_reverse, sl]; decide) h1 (rd_rev o0) (by rw [List.reverse_reverse, rd_good o0 c0]; decide)
  rw [List.reverse_reverse, rd_good o0 c0] at r2
  have ws := with_spot_eq (p := 10) sb (by rw [sl]; decide) (by rw [sl]; decide) h1
  refine seq_nx (asg_nm (d := .lst [.int 95, .str T0, .str T0, .int 473, .tup [.str T0]]) (h1 := h2) (lst_ok (cons_ok (x := .int 95) (call_ok (cons_ok (var_ok rfl) nil_ok) (res_ok ((lenS (by rw [sl]; decide)).trans (by rw [sl]; rfl)))) (cons_ok (x := .str T0) (call_ok (cons_ok (var_ok rfl) nil_ok) r1) (cons_ok (x := .str T0) (call_ok (cons_ok (revX_ok (var_ok rfl) (revS (by rw [sl]; decide))) nil_ok) r2) (cons_ok (call_ok (cons_ok (var_ok rfl) nil_ok) (y1 _)) (cons_ok (x := .tup [.str T0]) (h1 := h2) (call_ok (cons_ok (call_ok (cons_ok (var_ok rfl) (cons_ok c_ok nil_ok)) ws) nil_ok) (by rw [e2]; exact m1)) nil_ok))))) rfl)) ?_
  have g1 := rn_good w0 (h2 ++ G1)
  have g2 := rn_rev w0 (h3 ++ G2)
  have l0 := NN_len w0
  refine seq_nx (asg_nm (d := .lst [.int 95, .str T0, .str T0, .int 473, .tup [.str T0], .str [65, 45, 49, 50], .str [65, 45, 49, 50], .int 38, .tup [.str [35, 35, 32, 32, 35, 35]]]) (h1 := h5) (bin_ok (x := .lst [.int 95, .str T0, .str T0, .int 473, .tup [.str T0]]) (y := .lst [.str [65, 45, 49, 50], .str [65, 45, 49, 50], .int 38, .tup [.str [35, 35, 32, 32, 35, 35]]]) (var_ok rfl) (lst_ok (cons_ok (h1 := h3) (call_ok (cons_ok (call_ok (cons_ok c_ok nil_ok) n1) nil_ok) (by rw [e3]; exact g1)) (cons_ok (h1 := h4) (call_ok (cons_ok (revX_ok (call_ok (cons_ok c_ok nil_ok) n2) (revS (by omega))) nil_ok) (by rw [e4]; exact g2)) (cons_ok (x := .int 38) (h1 := h5) (call_ok (cons_ok (call_ok (cons_ok c_ok nil_ok) n3) nil_ok) (res_ok ((lenS (by rw [y5]; decide)).trans (by rw [y5]; rfl)))) (cons_ok (call_ok (cons_ok c_ok (cons_ok c_ok (cons_ok c_ok nil_ok))) (y2 _)) nil_ok)))) rfl) rfl)) ?_
  have rr := rd_eq (rev_bits sb).ok (by rw [List.length_reverse, sl]; decide) h5
  rw [rd_rev o0] at rr
  refine seq_nx (asg_nm (d := .lst [.int 95, .str T0, .str T0, .int 473, .tup [.str T0], .str [65, 45, 49, 50], .str [65, 45, 49, 50], .int 38, .tup [.str [35, 35, 32, 32, 35, 35]], .str [49, 48, 49], .str [48, 49, 48, 48, 48, 48, 49], .str []]) (h1 := h5) (bin_ok (x := .lst [.int 95, .str T0, .str T0, .int 473, .tup [.str T0], .str [65, 45, 49, 50], .str [65, 45, 49, 50], .int 38, .tup [.str [35, 35, 32, 32, 35, 35]]]) (y := .lst [.str [49, 48, 49], .str [48, 49, 48, 48, 48, 48, 49], .str []]) (var_ok rfl) (lst_ok (cons_ok (call_ok (cons_ok c_ok (cons_ok c_ok nil_ok)) (y3 _)) (cons_ok (call_ok (cons_ok c_ok (cons_ok c_ok nil_ok)) (y4 _)) (cons_ok (call_ok (cons_ok (revX_ok (var_ok rfl) (revS (by rw [sl]; decide))) nil_ok) rr) nil_ok))) rfl) rfl)) ?_
  have de : dEq (.lst [.int 95, .str T0, .str T0, .int 473, .tup [.str T0], .str [65, 45, 49, 50], .str [65, 45, 49, 50], .int 38, .tup [.str [35, 35, 32, 32, 35, 35]], .str [49, 48, 49], .str [48, 49, 48, 48, 48, 48, 49], .str []]) (.lst [.int 95, .str T0, .str T0, .int 473, .tup [.str T0], .str [65, 45, 49, 50], .str [65, 45, 49, 50], .int 38, .tup [.str [35, 35, 32, 32, 35, 35]], .str [49, 48, 49], .str [48, 49, 48, 48, 48, 48, 49], .str []]) = some (.bl true) := by kernel_rfl
  exact ret_ok (bin_ok (var_ok rfl) rfl de)
end K19

set_option Elab.async false
set_option linter.all false
set_option maxRecDepth 100000
set_option maxHeartbeats 4000000
namespace K19
open PySem PySem.Spec PyProof.Rows L2 Sh
def B : Sv := (sSeq (sAsg (eMt "str" (mJoin) (eC (.str [])) (aCons (eLc (iRng1 (aCons (eC (.int 12)) aNil)) [3] (gNm 3) bYes (eCall (bRes bStr) (aCons (eCall g_x_law_roll (aCons (eVar 1) (aCons (eC (.int 10)) aNil))) aNil))) aNil)) (gNm 2)) (sSeq (sAsg (eBin dAdd (eVar 2) (eCall g_good_sign (aCons (eVar 2) aNil))) (gNm 4)) (sSeq (sAsg (eCall g_x_law_good (aCons (eVar 4) aNil)) (gNm 5)) (sSeq (sIf (bOr (bTest (eBin dNe (eCall g_good_stripes (aCons (eVar 4) aNil)) (eVar 5))) (bOr (bTest (eBin dNe (eCall g_read_good (aCons (eVar 5) aNil)) (eVar 4))) (bTest (eBin dNe (eCall g_read_good (aCons (eRevX (eVar 5)) aNil)) (eVar 4))))) (sRet (eC (.bl false))) sNil) (sSeq (sIf (bOr (bTest (eBin dNe (eCall g_read_one_way (aCons (eVar 5) aNil)) (eVar 4))) (bTest (eBin dNe (eCall (bRes bLen) (aCons (eVar 5) aNil)) (eC (.int 95))))) (sRet (eC (.bl false))) sNil) (sSeq (sAsg (eCall g_x_law_roll (aCons (eVar 1) (aCons (eC (.int 95)) aNil))) (gNm 6)) (sSeq (sAsg (eBin dAdd (eBin dAdd (eSl (eVar 5) oNo (oYes (eVar 6))) (eIx (eC (.str [49, 48])) (eCall (bRes bInt) (aCons (eIx (eVar 5) (eVar 6)) aNil)))) (eSl (eVar 5) (oYes (eBin dAdd (eVar 6) (eC (.int 1)))) oNo)) (gNm 7)) (sSeq (sIf (bOr (bTest (eBin dNe (eCall g_with_spot (aCons (eVar 5) (aCons (eVar 6) aNil))) (eVar 7))) (bTest (eBin dNe (eTold toldCat toldRet (eCall g_read_good (aCons (eVar 7) aNil))) (eC (.str [83, 116, 114, 105, 112, 101, 69, 114, 114, 111, 114]))))) (sRet (eC (.bl false))) sNil) (sSeq (sAsg (eCall g_mended_good (aCons (eVar 7) aNil)) (gNm 8)) (sSeq (sIf (bOr (bTest (eBin dNotIn (eVar 4) (eVar 8))) (bTest (eBin dNe (eCall (bRes bList) (aCons (eVar 8) aNil)) (eCall (bRes bSortedT) (aCons (eVar 8) aNil))))) (sRet (eC (.bl false))) sNil) (sSeq (sIf (bTest (eBin dNe (eLc (iSeq (eVar 8)) [9] (gNm 9) (bTest (eBin dNe (eCall g_good_sign (aCons (eSl (eVar 9) oNo (oYes (eUn dNeg (eC (.int 1))))) aNil)) (eIx (eVar 9) (eUn dNeg (eC (.int 1)))))) (eC (.int 1))) (eLst aNil))) (sRet (eC (.bl false))) sNil) (sSeq (sAsg (eMt "str" (mJoin) (eC (.str [])) (aCons (eLc (iRng1 (aCons (eBin dAdd (eC (.int 1)) (eCall g_x_law_roll (aCons (eVar 1) (aCons (eC (.int 6)) aNil)))) aNil)) [3] (gNm 3) bYes (eIx (eLc (iKk tab_NINES) [11] (gNm 11) (bTest (eBin dNe (eVar 11) (eC (.str [42])))) (eVar 11)) (eCall g_x_law_roll (aCons (eVar 1) (aCons (eC (.int 17)) aNil))))) aNil)) (gNm 10)) (sSeq (sAsg (eCall g_x_law_nines (aCons (eVar 10) aNil)) (gNm 12)) (sSeq (sIf (bOr (bTest (eBin dNe (eCall g_nine_stripes (aCons (eVar 10) aNil)) (eVar 12))) (bOr (bTest (eBin dNe (eCall g_read_nines (aCons (eVar 12) aNil)) (eVar 10))) (bTest (eBin dNe (eCall g_read_nines (aCons (eRevX (eVar 12)) aNil)) (eVar 10))))) (sRet (eC (.bl false))) sNil) (sSeq (sIf (bTest (eBin dNe (eCall g_nines_one_way (aCons (eVar 12) aNil)) (eVar 10))) (sRet (eC (.bl false))) sNil) (sSeq (sAsg (eSl (eVar 12) oNo (oYes (eBin dSub (eBin dSub (eCall (bRes bLen) (aCons (eVar 12) aNil)) (eC (.int 1))) (eCall g_x_law_roll (aCons (eVar 1) (aCons (eC (.int 3)) aNil)))))) (gNm 13)) (sSeq (sIf (bTest (eBin dNe (eTold toldCat toldRet (eCall g_read_nines (aCons (eVar 13) aNil))) (eC (.str [83, 116, 114, 105, 112, 101, 69, 114, 114, 111, 114])))) (sRet (eC (.bl false))) sNil) (sSeq (sAsg (eTup (aCons (eMt "str" (mJoin) (eC (.str [])) (aCons (eLc (iRng1 (aCons (eBin dAdd (eC (.int 1)) (eCall g_x_law_roll (aCons (eVar 1) (aCons (eC (.int 20)) aNil)))) aNil)) [3] (gNm 3) bYes (eIx (eC (.str [48, 49])) (eCall g_x_law_roll (aCons (eVar 1) (aCons (eC (.int 2)) aNil))))) aNil)) (aCons (eBin dAdd (eC (.int 1)) (eCall g_x_law_roll (aCons (eVar 1) (aCons (eC (.int 4)) aNil)))) (aCons (eBin dAdd (eC (.int 1)) (eCall g_x_law_roll (aCons (eVar 1) (aCons (eC (.int 3)) aNil)))) aNil)))) (gTp 3 (gCns (gNm 14) (gCns (gNm 15) (gCns (gNm 16) gNils))))) (sSeq (sAsg (eMt "str" (mJoin) (eC (.str [])) (aCons (eLc (iSeq (eVar 14)) [11] (gNm 11) bYes (eBin dMul (eIf (bTest (eBin dEq (eVar 11) (eC (.str [49])))) (eC (.str [35])) (eC (.str [32]))) (eVar 15))) aNil)) (gNm 17)) (sSeq (sAsg (eLst aNil) (gNm 18)) (sSeq (sForI (iSeq (eVar 14)) (gNm 11) (sAsg (eIf (bAnd (bTest (eBin dNe (eVar 18) (eLst aNil))) (bTest (eBin dEq (eIx (eIx (eVar 18) (eUn dNeg (eC (.int 1)))) (eC (.int 0))) (eVar 11)))) (eBin dAdd (eSl (eVar 18) oNo (oYes (eUn dNeg (eC (.int 1))))) (eLst (aCons (eTup (aCons (eVar 11) (aCons (eBin dAdd (eIx (eIx (eVar 18) (eUn dNeg (eC (.int 1)))) (eC (.int 1))) (eC (.int 1))) aNil))) aNil))) (eBin dAdd (eVar 18) (eLst (aCons (eTup (aCons (eVar 11) (aCons (eC (.int 1)) aNil))) aNil)))) (gNm 18))) (sSeq (sIf (bOr (bTest (eBin dNe (eCall (bRes bList) (aCons (eCall g_drawn_stripes (aCons (eVar 14) (aCons (eVar 15) (aCons (eVar 16) aNil)))) aNil)) (eBin dMul (eLst (aCons (eMt "str" (mS1 gRstripC) (eVar 17) (aCons (eC (.str [32])) aNil)) aNil)) (eVar 16)))) (bTest (eBin dNe (eCall g_read_drawn (aCons (eVar 17) (aCons (eVar 15) aNil))) (eVar 14)))) (sRet (eC (.bl false))) sNil) (sSeq (sIf (bOr (bTest (eBin dNe (eCall g_runs_in_stripes (aCons (eVar 14) aNil)) (eVar 18))) (bTest (eBin dNe (eCall g_dark_share (aCons (eVar 14) aNil)) (eBin dDiv (eBin dMul (eC (.int 1000)) (eMt "str" (mS1 gCount) (eVar 14) (aCons (eC (.str [49])) aNil))) (eCall (bRes bLen) (aCons (eVar 14) aNil)))))) (sRet (eC (.bl false))) sNil) (sSeq (sPar 19 20 (aCons (eCall (bRes bStr) (aCons (eCall g_x_law_roll (aCons (eVar 1) (aCons (eC (.int 10)) aNil))) aNil)) (aCons (eIx (eC (.str [76, 82, 71])) (eCall g_x_law_roll (aCons (eVar 1) (aCons (eC (.int 3)) aNil)))) aNil))) (sSeq (sAsg (eIx (eC con_LEFT) (eCall (bRes bInt) (aCons (eVar 19) aNil))) (gNm 21)) (sSeq (sAsg (eMt "str" (mJoin) (eC (.str [])) (aCons (eLc (iSeq (eVar 21)) [9] (gNm 9) bYes (eIx (eC (.str [49, 48])) (eCall (bRes bInt) (aCons (eVar 9) aNil)))) aNil)) (gNm 22)) (sSeq (sAsg (eIx (eDic [((eC (.str [76])), (eVar 21)), ((eC (.str [82])), (eVar 22)), ((eC (.str [71])), (eRevX (eVar 22)))]) (eVar 20)) (gNm 23)) (sSeq (sIf (bOr (bTest (eBin dNe (eCall g_figure_stripes (aCons (eVar 19) (aCons (eVar 20) aNil))) (eVar 23))) (bTest (eBin dNe (eCall g_figure_in (aCons (eVar 23) (aCons (eVar 20) aNil))) (eTup (aCons (eVar 19) (aCons (eVar 20) aNil)))))) (sRet (eC (.bl false))) sNil) (sIf (bTest (eBin dNe (eCall g_figure_in (aCons (eC (.str [49, 49, 49, 49, 49, 49, 49])) (aCons (eC (.str [76, 82, 71])) aNil))) (eTup (aCons (eC (.str [])) (aCons (eC (.str [])) aNil))))) (sRet (eC (.bl false))) sNil)))))))))))))))))))))))))))))
theorem body_ok (X0 : D) (G : LH) (a b c : Int) : Goes IsDice (B [some X0, some (.obj 0), none, none, none, none, none, none, none, none, none, none, none, none, none, none, none, none, none, none, none, none, none, none] (dice G a b c)) := by
  unfold B
  have V : ∀ {i : Nat} {d : D} {ρ : En} {h : LH}, ρ[i]? = some (some d) → eVar i ρ h = .ok d h := var_ok
  obtain ⟨js, a1, b1, c1, e1, jl, jb⟩ := body_drawn (G := G) (ρ := [some X0, some (.obj 0), none, none, none, none, none, none, none, none, none, none, none, none, none, none, none, none, none, none, none, none, none, none]) rfl rfl a b c
  refine fin_seq (asg_nm e1) ?_
  show Goes IsDice ((_ : Sv) [some X0, some (.obj 0), some (.str (tx js)), none, none, none, none, none, none, none, none, none, none, none, none, none, none, none, none, none, none, none, none, none] (dice (G) a1 b1 c1))
  obtain ⟨j, o, ej, hc⟩ := js_of jl jb
  have jn : js ≠ [] := fun z => by rw [z] at jl; cases jl
  have ad : dAdd (.str (tx js)) (.str [48 + ck js]) = some (.str (tx j.js)) := by
    rw [addS (by rw [tx_len, jl]; simp), ej]
    unfold tx
    rw [List.map_append]; rfl
  refine fin_seq (asg_nm (bin_ok (V rfl) (call_ok (cons_ok (V rfl) nil_ok) (good_sign_eq jb jn (by omega) _)) ad)) ?_
  show Goes IsDice ((_ : Sv) [some X0, some (.obj 0), some (.str (tx js)), none, some (.str (tx j.js)), none, none, none, none, none, none, none, none, none, none, none, none, none, none, none, none, none, none, none] (dice (G) a1 b1 c1))
  refine fin_seq (asg_nm (call_ok (cons_ok (V rfl) nil_ok) (law_good_eq o _))) ?_
  show Goes IsDice ((_ : Sv) [some X0, some (.obj 0), some (.str (tx js)), none, some (.str (tx j.js)), some (.str j.S), none, none, none, none, none, none, none, none, none, none, none, none, none, none, none, none, none, none] (dice (G) a1 b1 c1))
  have sb := S_bits o
  have sl := K19.S_len o
  have rg := rd_good o hc
  have tn : tx j.js ≠ [] := fun z => by have q := js_len o; rw [← tx_len, z] at q; cases q
  have r1 := read_good1 sb.ok (by omega) (dice (G) a1 b1 c1) (by rw [rg]; exact tn)
  rw [rg] at r1
  have r2 := read_good2 (rev_bits sb).ok (by rw [List.length_reverse]; omega) (dice (G) a1 b1 c1) (rd_rev o) (by rw [List.reverse_reverse, rg]; exact tn)
  rw [List.reverse_reverse, rg] at r2
  have r3 := rd_eq sb.ok (by omega) (dice (G) a1 b1 c1)
  rw [rg] at r3
  refine fin_seq (if_no (or_no (test_ok (bin_ok (call_ok (cons_ok (V rfl) nil_ok) (good_stripes_eq o hc _)) (V rfl) neS_same)) (or_no (test_ok (bin_ok (call_ok (cons_ok (V rfl) nil_ok) r1) (V rfl) neS_same)) (test_ok (bin_ok (call_ok (cons_ok (revX_ok (V rfl) (revS (by omega))) nil_ok) r2) (V rfl) neS_same)))) rfl) ?_
  refine fin_seq (if_no (or_no (test_ok (bin_ok (call_ok (cons_ok (V rfl) nil_ok) r3) (V rfl) neS_same)) (test_of (bin_ok (call_ok (cons_ok (V rfl) nil_ok) (res_ok (lenS (by omega)))) c_ok ev_neI) (by rw [sl]; rfl))) rfl) ?_
  obtain ⟨p, a2, b2, c2, r_p, l_p⟩ := rollN (G := G) a1 b1 c1 (many := 95) (by decide) (by decide)
  refine fin_seq (asg_nm (call_ok (cons_ok (V rfl) (cons_ok rfl nil_ok)) r_p)) ?_
  show Goes IsDice ((_ : Sv) [some X0, some (.obj 0), some (.str (tx js)), none, some (.str (tx j.js)), some (.str j.S), some (.int (p : Int)), none, none, none, none, none, none, none, none, none, none, none, none, none, none, none, none, none] (dice (G) a2 b2 c2))
  have p95 : p < 95 := by omega
  have pl : p < j.S.length := by omega
  have cb := sb j.S[p] (List.getElem_mem pl)
  have gp : dIx (dice (G) a2 b2 c2) (.str j.S) (.int (p : Int)) = some (.str [j.S[p]]) := (ev_ixS pl (by omega)).trans (by rw [List.getD_eq_getElem?_getD, List.getElem?_eq_getElem pl]; rfl)
  have fl : eIx (eC (.str [49, 48])) (eCall (bRes bInt) (aCons (eIx (eVar 5) (eVar 6)) aNil)) [some X0, some (.obj 0), some (.str (tx js)), none, some (.str (tx j.js)), some (.str j.S), some (.int (p : Int)), none, none, none, none, none, none, none, none, none, none, none, none, none, none, none, none, none] (dice (G) a2 b2 c2) = .ok (.str [fl1 j.S[p]]) (dice (G) a2 b2 c2) := by
    rcases cb with e | e
    · exact ix_ok c_ok (call_ok (cons_ok (ix_ok (V rfl) (V rfl) (gp.trans (by rw [e]))) nil_ok) (res_ok (int1 0 (by decide)))) (by rw [e]; rfl)
    · exact ix_ok c_ok (call_ok (cons_ok (ix_ok (V rfl) (V rfl) (gp.trans (by rw [e]))) nil_ok) (res_ok (int1 1 (by decide)))) (by rw [e]; rfl)
  have lt : (j.S.take p).length = p := by rw [List.length_take]; omega
  have ld : (j.S.drop (p + 1)).length = j.S.length - (p + 1) := List.length_drop ..
  have e7 : eBin dAdd (eBin dAdd (eSl (eVar 5) oNo (oYes (eVar 6))) (eIx (eC (.str [49, 48])) (eCall (bRes bInt) (aCons (eIx (eVar 5) (eVar 6)) aNil)))) (eSl (eVar 5) (oYes (eBin dAdd (eVar 6) (eC (.int 1)))) oNo) [some X0, some (.obj 0), some (.str (tx js)), none, some (.str (tx j.js)), some (.str j.S), some (.int (p : Int)), none, none, none, none, none, none, none, none, none, none, none, none, none, none, none, none, none] (dice (G) a2 b2 c2) = .ok (.str (chg j.S p)) (dice (G) a2 b2 c2) := by
    rw [chg_eq pl]
    exact bin_ok (x := .str (j.S.take p ++ [fl1 j.S[p]])) (y := .str (j.S.drop (p + 1))) (bin_ok (sl_ok (V rfl) ono_ok (oyes_ok (V rfl)) ((slS (by omega)).trans (by rw [cut_0n]))) fl (addS (by rw [lt]; simp; omega))) (sl_ok (V rfl) (oyes_ok (bin_ok (V rfl) c_ok ev_addI)) ono_ok ((slS (by omega)).trans (by rw [show ((p : Nat) : Int) + 1 = ((p + 1 : Nat) : Int) by omega, cut_n0]))) ((addS (by rw [List.length_append, lt, ld]; simp; omega)).trans (by rw [List.append_assoc]; rfl))
  refine fin_seq (asg_nm e7) ?_
  show Goes IsDice ((_ : Sv) [some X0, some (.obj 0), some (.str (tx js)), none, some (.str (tx j.js)), some (.str j.S), some (.int (p : Int)), some (.str (chg j.S p)), none, none, none, none, none, none, none, none, none, none, none, none, none, none, none, none] (dice (G) a2 b2 c2))
  have ws := with_spot_eq (p := p) sb pl (by omega) (dice (G) a2 b2 c2)
  have cl : (chg j.S p).length = 95 := by rw [chg_len]; exact sl
  have cbt := chg_bits sb p
  have r4 := read_good3 cbt.ok (by omega) (dice (G) a2 b2 c2) (rd_chg o p95) (rd_chg_rev o p95)
  refine fin_seq (if_no (or_no (test_ok (bin_ok (call_ok (cons_ok (V rfl) (cons_ok (V rfl) nil_ok)) ws) (V rfl) neS_same)) (test_ok (bin_ok (told_ex (call_ex (cons_ok (V rfl) nil_ok) r4) (by decide)) c_ok neS_same))) rfl) ?_
  obtain ⟨ks, k1, k2, k3, k4⟩ := mended_eq cbt cl (rd_chg o p95) (rd_chg_rev o p95) p95 (by rw [chg_chg sb, rg]; exact tn) (dice (G) a2 b2 c2)
  rw [chg_chg sb, rg] at k2
  refine fin_seq (asg_nm (call_ok (cons_ok (V rfl) nil_ok) k1)) ?_
  show Goes IsDice ((_ : Sv) [some X0, some (.obj 0), some (.str (tx js)), none, some (.str (tx j.js)), some (.str j.S), some (.int (p : Int)), some (.str (chg j.S p)), some (.tup ((sortN ks).map .str)), none, none, none, none, none, none, none, none, none, none, none, none, none, none, none] (dice ((G ++ [LO.dic (kvD ks)])) a2 b2 c2))
  have ni : dNotIn (.str (tx j.js)) (.tup ((sortN ks).map .str)) = some (.bl false) := by
    show (inB _ _).map (fun k => D.bl (!k)) = _
    rw [inTup]
    have : (sortN ks).any (· == tx j.js) = true := List.any_eq_true.mpr ⟨_, mem_sort.mpr k2, beq_self_eq_true _⟩
    rw [this]; rfl
  have gx : ∀ x ∈ sortN ks, GoodTx x := fun x hx => k3 x (mem_sort.mp hx)
  have s2 : bSortedT [.tup ((sortN ks).map .str)] (dice ((G ++ [LO.dic (kvD ks)])) a2 b2 c2) = some (.lst ((sortN ks).map .str), (dice ((G ++ [LO.dic (kvD ks)])) a2 b2 c2)) := by
    show (strsD ((sortN ks).map .str)).map (fun l => (D.lst ((sortN l).map .str), (dice ((G ++ [LO.dic (kvD ks)])) a2 b2 c2))) = _
    rw [strsD_map, Option.map_some, sort_sort]
  refine fin_seq (if_no (or_no (test_ok (bin_ok (V rfl) (V rfl) ni)) (test_ok (bin_ok (x := .lst ((sortN ks).map .str)) (call_ok (cons_ok (V rfl) nil_ok) (res_ok rfl)) (call_ok (cons_ok (V rfl) nil_ok) (res_ok s2)) (neSame fun x hx => (gx x hx).ok)))) rfl) ?_
  have lks : (sortN ks).length ≤ 1000 := by
    have h1 : ∀ (l : List Nat) (acc : List (List Nat)), (l.foldl (stepM (chg j.S p)) acc).length ≤ acc.length + 2 * l.length := by
      intro l
      induction l with
      | nil => intro acc; exact Nat.le_refl _
      | cons y r ih =>
        intro acc
        have h2 := ih (stepM (chg j.S p) acc y)
        have h3 := addK_len acc (rd (chg (chg j.S p) y))
        have h4 := addK_len (addK acc (rd (chg (chg j.S p) y))) (rd (chg (chg j.S p) y).reverse)
        rw [List.foldl_cons, List.length_cons]
        unfold stepM at h2 ⊢
        omega
    have := h1 (List.range 95) []
    rw [show (sortN ks).length = ks.length from sort_len ks, k4]
    rw [List.length_range] at this
    simp only [List.length_nil] at this
    omega
  have e11 : eLc (iSeq (eVar 8)) [9] (gNm 9) (bTest (eBin dNe (eCall g_good_sign (aCons (eSl (eVar 9) oNo (oYes (eUn dNeg (eC (.int 1))))) aNil)) (eIx (eVar 9) (eUn dNeg (eC (.int 1)))))) (eC (.int 1)) [some X0, some (.obj 0), some (.str (tx js)), none, some (.str (tx j.js)), some (.str j.S), some (.int (p : Int)), some (.str (chg j.S p)), some (.tup ((sortN ks).map .str)), none, none, none, none, none, none, none, none, none, none, none, none, none, none, none] (dice ((G ++ [LO.dic (kvD ks)])) a2 b2 c2) = .ok (.lst []) (dice ((G ++ [LO.dic (kvD ks)])) a2 b2 c2) := by
    refine elc_of (seq_ofT (V rfl)) ?_
    rw [lc_filter (h := (dice ((G ++ [LO.dic (kvD ks)])) a2 b2 c2)) D.str (fun _ => false) (fun _ => D.int 1) (sortN ks) [] (fun x hx => ?_) (by rw [List.length_nil]; omega)]
    · rw [List.filter_eq_nil_iff.mpr (fun x hx => by simp)]; rfl
    · obtain ⟨xs, q1, q2, q3, rfl⟩ := gx x hx
      have dl : xs.dropLast.length = 12 := by rw [List.length_dropLast]; omega
      have lx : (tx xs).length = 13 := by rw [tx_len]; exact q1
      refine ⟨_, rfl, test_ok (bin_ok (call_ok (cons_ok (sl_ok (V rfl) ono_ok (oyes_ok ev_m1) ((slS (by omega)).trans (by rw [cut_0m, tx_drop]))) nil_ok) (good_sign_eq (fun i hi => q2 i (List.dropLast_subset _ hi)) (fun z => by rw [z] at dl; cases dl) (by omega) _)) (ix_ok (V rfl) ev_m1 (ixS_of (by omega) (tx_last (fun z => by rw [z] at q1; cases q1)))) ?_), fun z => by cases z⟩
      rw [q3]; exact neS_same
  refine fin_seq (if_no (test_ok (bin_ok e11 (lst_ok nil_ok rfl) (neSame (l := []) (fun x hx => by cases hx)))) rfl) ?_
  obtain ⟨w, a3, b3, c3, e12, wo⟩ := word_drawn (G := (G ++ [LO.dic (kvD ks)])) (ρ := [some X0, some (.obj 0), some (.str (tx js)), none, some (.str (tx j.js)), some (.str j.S), some (.int (p : Int)), some (.str (chg j.S p)), some (.tup ((sortN ks).map .str)), none, none, none, none, none, none, none, none, none, none, none, none, none, none, none]) rfl rfl a2 b2 c2
  refine fin_seq (asg_nm e12) ?_
  show Goes IsDice ((_ : Sv) [some X0, some (.obj 0), some (.str (tx js)), none, some (.str (tx j.js)), some (.str j.S), some (.int (p : Int)), some (.str (chg j.S p)), some (.tup ((sortN ks).map .str)), none, some (.str w), none, none, none, none, none, none, none, none, none, none, none, none, none] (dice ((G ++ [LO.dic (kvD ks)])) a3 b3 c3))
  refine fin_seq (asg_nm (call_ok (cons_ok (V rfl) nil_ok) (law_nines_eq wo _))) ?_
  show Goes IsDice ((_ : Sv) [some X0, some (.obj 0), some (.str (tx js)), none, some (.str (tx j.js)), some (.str j.S), some (.int (p : Int)), some (.str (chg j.S p)), some (.tup ((sortN ks).map .str)), none, some (.str w), none, some (.str (NN (full w))), none, none, none, none, none, none, none, none, none, none, none] (dice ((G ++ [LO.dic (kvD ks)])) a3 b3 c3))
  have nl := NN_len wo
  obtain ⟨G1, n1⟩ := nine_eq wo (dice ((G ++ [LO.dic (kvD ks)])) a3 b3 c3)
  have n2 := rn_good wo (dice (((G ++ [LO.dic (kvD ks)]) ++ G1)) a3 b3 c3)
  have n3 := rn_rev wo (dice ((((G ++ [LO.dic (kvD ks)]) ++ G1) ++ [LO.gone])) a3 b3 c3)
  refine fin_seq (if_no (h1 := (dice ((((((G ++ [LO.dic (kvD ks)]) ++ G1) ++ [LO.gone]) ++ [LO.gone]) ++ [LO.gone])) a3 b3 c3)) (or_no (test_ok (bin_ok (call_ok (cons_ok (V rfl) nil_ok) n1) (V rfl) neS_same)) (or_no (test_ok (bin_ok (call_ok (cons_ok (V rfl) nil_ok) n2) (V rfl) neS_same)) (test_ok (bin_ok (call_ok (cons_ok (revX_ok (V rfl) (revS (by omega))) nil_ok) n3) (V rfl) neS_same)))) rfl) ?_
  show Goes IsDice ((_ : Sv) [some X0, some (.obj 0), some (.str (tx js)), none, some (.str (tx j.js)), some (.str j.S), some (.int (p : Int)), some (.str (chg j.S p)), some (.tup ((sortN ks).map .str)), none, some (.str w), none, some (.str (NN (full w))), none, none, none, none, none, none, none, none, none, none, none] (dice ((((((G ++ [LO.dic (kvD ks)]) ++ G1) ++ [LO.gone]) ++ [LO.gone]) ++ [LO.gone])) a3 b3 c3))
  have n4 := now_good wo (dice ((((((G ++ [LO.dic (kvD ks)]) ++ G1) ++ [LO.gone]) ++ [LO.gone]) ++ [LO.gone])) a3 b3 c3)
  refine fin_seq (if_no (h1 := (dice (((((((G ++ [LO.dic (kvD ks)]) ++ G1) ++ [LO.gone]) ++ [LO.gone]) ++ [LO.gone]) ++ [LO.gone])) a3 b3 c3)) (test_ok (bin_ok (call_ok (cons_ok (V rfl) nil_ok) n4) (V rfl) neS_same)) rfl) ?_
  show Goes IsDice ((_ : Sv) [some X0, some (.obj 0), some (.str (tx js)), none, some (.str (tx j.js)), some (.str j.S), some (.int (p : Int)), some (.str (chg j.S p)), some (.tup ((sortN ks).map .str)), none, some (.str w), none, some (.str (NN (full w))), none, none, none, none, none, none, none, none, none, none, none] (dice (((((((G ++ [LO.dic (kvD ks)]) ++ G1) ++ [LO.gone]) ++ [LO.gone]) ++ [LO.gone]) ++ [LO.gone])) a3 b3 c3))
  obtain ⟨q, a4, b4, c4, r_q, l_q⟩ := rollN (G := ((((((G ++ [LO.dic (kvD ks)]) ++ G1) ++ [LO.gone]) ++ [LO.gone]) ++ [LO.gone]) ++ [LO.gone])) a3 b3 c3 (many := 3) (by decide) (by decide)
  have nn : 12 ≤ (NN (full w)).length := by
    obtain ⟨pre, ep⟩ := RR_end ([42] ++ w) 42
    have ep : RR (full w) = pre ++ runC 42 := ep
    rw [NN_flat, ep, flat_app, List.length_append]
    have : (flatR (runC 42)).length = 12 := by decide +kernel
    omega
  have e13 : eSl (eVar 12) oNo (oYes (eBin dSub (eBin dSub (eCall (bRes bLen) (aCons (eVar 12) aNil)) (eC (.int 1))) (eCall g_x_law_roll (aCons (eVar 1) (aCons (eC (.int 3)) aNil))))) [some X0, some (.obj 0), some (.str (tx js)), none, some (.str (tx j.js)), some (.str j.S), some (.int (p : Int)), some (.str (chg j.S p)), some (.tup ((sortN ks).map .str)), none, some (.str w), none, some (.str (NN (full w))), none, none, none, none, none, none, none, none, none, none, none] (dice (((((((G ++ [LO.dic (kvD ks)]) ++ G1) ++ [LO.gone]) ++ [LO.gone]) ++ [LO.gone]) ++ [LO.gone])) a3 b3 c3) = .ok (.str ((NN (full w)).take ((NN (full w)).length - 1 - q))) (dice (((((((G ++ [LO.dic (kvD ks)]) ++ G1) ++ [LO.gone]) ++ [LO.gone]) ++ [LO.gone]) ++ [LO.gone])) a4 b4 c4) := by
    refine sl_ok (V rfl) ono_ok (oyes_ok (bin_ok (bin_ok (call_ok (cons_ok (V rfl) nil_ok) (res_ok (lenS (by omega)))) c_ok ev_sub) (call_ok (cons_ok (V rfl) (cons_ok rfl nil_ok)) r_q) ev_sub)) ((slS (by omega)).trans ?_)
    rw [show ((NN (full w)).length : Int) - 1 - (q : Int) = (((NN (full w)).length - 1 - q : Nat) : Int) by omega, cut_0n]
  refine fin_seq (asg_nm e13) ?_
  show Goes IsDice ((_ : Sv) [some X0, some (.obj 0), some (.str (tx js)), none, some (.str (tx j.js)), some (.str j.S), some (.int (p : Int)), some (.str (chg j.S p)), some (.tup ((sortN ks).map .str)), none, some (.str w), none, some (.str (NN (full w))), some (.str ((NN (full w)).take ((NN (full w)).length - 1 - q))), none, none, none, none, none, none, none, none, none, none] (dice (((((((G ++ [LO.dic (kvD ks)]) ++ G1) ++ [LO.gone]) ++ [LO.gone]) ++ [LO.gone]) ++ [LO.gone])) a4 b4 c4))
  have n5 := rn_cut wo (dice (((((((G ++ [LO.dic (kvD ks)]) ++ G1) ++ [LO.gone]) ++ [LO.gone]) ++ [LO.gone]) ++ [LO.gone])) a4 b4 c4) (r := q) (by omega)
  refine fin_seq (if_no (h1 := (dice (((((((((G ++ [LO.dic (kvD ks)]) ++ G1) ++ [LO.gone]) ++ [LO.gone]) ++ [LO.gone]) ++ [LO.gone]) ++ [LO.gone]) ++ [LO.gone])) a4 b4 c4)) (test_ok (bin_ok (told_ex (call_ex (cons_ok (V rfl) nil_ok) n5) (by decide)) c_ok neS_same)) rfl) ?_
  show Goes IsDice ((_ : Sv) [some X0, some (.obj 0), some (.str (tx js)), none, some (.str (tx j.js)), some (.str j.S), some (.int (p : Int)), some (.str (chg j.S p)), some (.tup ((sortN ks).map .str)), none, some (.str w), none, some (.str (NN (full w))), some (.str ((NN (full w)).take ((NN (full w)).length - 1 - q))), none, none, none, none, none, none, none, none, none, none] (dice (((((((((G ++ [LO.dic (kvD ks)]) ++ G1) ++ [LO.gone]) ++ [LO.gone]) ++ [LO.gone]) ++ [LO.gone]) ++ [LO.gone]) ++ [LO.gone])) a4 b4 c4))
  obtain ⟨s, a5, b5, c5, e14, b14, l14, m14⟩ := some_drawn (G := ((((((((G ++ [LO.dic (kvD ks)]) ++ G1) ++ [LO.gone]) ++ [LO.gone]) ++ [LO.gone]) ++ [LO.gone]) ++ [LO.gone]) ++ [LO.gone])) (ρ := [some X0, some (.obj 0), some (.str (tx js)), none, some (.str (tx j.js)), some (.str j.S), some (.int (p : Int)), some (.str (chg j.S p)), some (.tup ((sortN ks).map .str)), none, some (.str w), none, some (.str (NN (full w))), some (.str ((NN (full w)).take ((NN (full w)).length - 1 - q))), none, none, none, none, none, none, none, none, none, none]) rfl rfl a4 b4 c4
  obtain ⟨wd, a6, b6, c6, r_wd, l_wd⟩ := rollN (G := ((((((((G ++ [LO.dic (kvD ks)]) ++ G1) ++ [LO.gone]) ++ [LO.gone]) ++ [LO.gone]) ++ [LO.gone]) ++ [LO.gone]) ++ [LO.gone])) a5 b5 c5 (many := 4) (by decide) (by decide)
  obtain ⟨hi, a7, b7, c7, r_hi, l_hi⟩ := rollN (G := ((((((((G ++ [LO.dic (kvD ks)]) ++ G1) ++ [LO.gone]) ++ [LO.gone]) ++ [LO.gone]) ++ [LO.gone]) ++ [LO.gone]) ++ [LO.gone])) a6 b6 c6 (many := 3) (by decide) (by decide)
  refine fin_seq (asg_g (tup_ok (cons_ok e14 (cons_ok (bin_ok rfl (call_ok (cons_ok (V rfl) (cons_ok rfl nil_ok)) r_wd) ev_addI) (cons_ok (bin_ok rfl (call_ok (cons_ok (V rfl) (cons_ok rfl nil_ok)) r_hi) ev_addI) nil_ok))) rfl) rfl) ?_
  obtain ⟨wi, hwi⟩ : ∃ wi : Nat, wi = wd + 1 := ⟨_, rfl⟩
  obtain ⟨hg, hhg⟩ : ∃ hg : Nat, hg = hi + 1 := ⟨_, rfl⟩
  have ew : (1 + (wd : Int)) = (wi : Int) := by omega
  have eh : (1 + (hi : Int)) = (hg : Int) := by omega
  rw [ew, eh]
  show Goes IsDice ((_ : Sv) [some X0, some (.obj 0), some (.str (tx js)), none, some (.str (tx j.js)), some (.str j.S), some (.int (p : Int)), some (.str (chg j.S p)), some (.tup ((sortN ks).map .str)), none, some (.str w), none, some (.str (NN (full w))), some (.str ((NN (full w)).take ((NN (full w)).length - 1 - q))), some (.str s), some (.int (wi : Int)), some (.int (hg : Int)), none, none, none, none, none, none, none] (dice (((((((((G ++ [LO.dic (kvD ks)]) ++ G1) ++ [LO.gone]) ++ [LO.gone]) ++ [LO.gone]) ++ [LO.gone]) ++ [LO.gone]) ++ [LO.gone])) a7 b7 c7))
  refine fin_seq (asg_nm (line_ok rfl rfl (by simp) (by decide) (by omega) (by omega))) ?_
  show Goes IsDice ((_ : Sv) [some X0, some (.obj 0), some (.str (tx js)), none, some (.str (tx j.js)), some (.str j.S), some (.int (p : Int)), some (.str (chg j.S p)), some (.tup ((sortN ks).map .str)), none, some (.str w), none, some (.str (NN (full w))), some (.str ((NN (full w)).take ((NN (full w)).length - 1 - q))), some (.str s), some (.int (wi : Int)), some (.int (hg : Int)), some (.str (ln s wi)), none, none, none, none, none, none] (dice (((((((((G ++ [LO.dic (kvD ks)]) ++ G1) ++ [LO.gone]) ++ [LO.gone]) ++ [LO.gone]) ++ [LO.gone]) ++ [LO.gone]) ++ [LO.gone])) a7 b7 c7))
  refine fin_seq (asg_nm (d := .lst []) rfl) ?_
  show Goes IsDice ((_ : Sv) [some X0, some (.obj 0), some (.str (tx js)), none, some (.str (tx j.js)), some (.str j.S), some (.int (p : Int)), some (.str (chg j.S p)), some (.tup ((sortN ks).map .str)), none, some (.str w), none, some (.str (NN (full w))), some (.str ((NN (full w)).take ((NN (full w)).length - 1 - q))), some (.str s), some (.int (wi : Int)), some (.int (hg : Int)), some (.str (ln s wi)), some (.lst ([].map dR)), none, none, none, none, none] (dice (((((((((G ++ [LO.dic (kvD ks)]) ++ G1) ++ [LO.gone]) ++ [LO.gone]) ++ [LO.gone]) ++ [LO.gone]) ++ [LO.gone]) ++ [LO.gone])) a7 b7 c7))
  have slow : ∀ c ∈ s, c < 0x110000 := fun c hc => by rcases b14 c hc with e | e <;> rw [e] <;> decide
  obtain ⟨ox, f1, f2⟩ := for_ix (g := gNm 11) (m := (sAsg (eIf (bAnd (bTest (eBin dNe (eVar 18) (eLst aNil))) (bTest (eBin dEq (eIx (eIx (eVar 18) (eUn dNeg (eC (.int 1)))) (eC (.int 0))) (eVar 11)))) (eBin dAdd (eSl (eVar 18) oNo (oYes (eUn dNeg (eC (.int 1))))) (eLst (aCons (eTup (aCons (eVar 11) (aCons (eBin dAdd (eIx (eIx (eVar 18) (eUn dNeg (eC (.int 1)))) (eC (.int 1))) (eC (.int 1))) aNil))) aNil))) (eBin dAdd (eVar 18) (eLst (aCons (eTup (aCons (eVar 11) (aCons (eC (.int 1)) aNil))) aNil)))) (gNm 18)))
    (fun c : Nat => D.str [c]) (fun (acc : List Rn) (qq : Option D) => [some X0, some (.obj 0), some (.str (tx js)), none, some (.str (tx j.js)), some (.str j.S), some (.int (p : Int)), some (.str (chg j.S p)), some (.tup ((sortN ks).map .str)), none, some (.str w), qq, some (.str (NN (full w))), some (.str ((NN (full w)).take ((NN (full w)).length - 1 - q))), some (.str s), some (.int (wi : Int)), some (.int (hg : Int)), some (.str (ln s wi)), some (.lst (acc.map dR)), none, none, none, none, none]) (fun _ => (dice (((((((((G ++ [LO.dic (kvD ks)]) ++ G1) ++ [LO.gone]) ++ [LO.gone]) ++ [LO.gone]) ++ [LO.gone]) ++ [LO.gone]) ++ [LO.gone])) a7 b7 c7)) stepR (fun i acc => acc.length ≤ i ∧ ∀ p ∈ acc, p.1 ∈ s) s 0 [] none
    (fun i c acc qq hi hP => by
      obtain ⟨p1, p2⟩ := hP
      have hc := List.mem_of_getElem? hi
      have hil : i < s.length := (List.getElem?_eq_some_iff.mp hi).1
      obtain ⟨k1, k2⟩ := stepR_ok p2 hc
      refine ⟨⟨by omega, k1⟩, _, _, some (.str [c]), rfl, ?_⟩
      show (_ : Sv) [some X0, some (.obj 0), some (.str (tx js)), none, some (.str (tx j.js)), some (.str j.S), some (.int (p : Int)), some (.str (chg j.S p)), some (.tup ((sortN ks).map .str)), none, some (.str w), some (.str [c]), some (.str (NN (full w))), some (.str ((NN (full w)).take ((NN (full w)).length - 1 - q))), some (.str s), some (.int (wi : Int)), some (.int (hg : Int)), some (.str (ln s wi)), some (.lst (acc.map dR)), none, none, none, none, none] _ = _
      exact asg_nm (rows_step rfl rfl (fun p hp => slow _ (p2 p hp)) (by omega))) ⟨Nat.zero_le _, fun p hp => by cases hp⟩
  refine fin_seq (for_of (seq_ofS (V rfl)) f1) ?_
  show Goes IsDice ((_ : Sv) [some X0, some (.obj 0), some (.str (tx js)), none, some (.str (tx j.js)), some (.str j.S), some (.int (p : Int)), some (.str (chg j.S p)), some (.tup ((sortN ks).map .str)), none, some (.str w), ox, some (.str (NN (full w))), some (.str ((NN (full w)).take ((NN (full w)).length - 1 - q))), some (.str s), some (.int (wi : Int)), some (.int (hg : Int)), some (.str (ln s wi)), some (.lst ((runs s).map dR)), none, none, none, none, none] (dice (((((((((G ++ [LO.dic (kvD ks)]) ++ G1) ++ [LO.gone]) ++ [LO.gone]) ++ [LO.gone]) ++ [LO.gone]) ++ [LO.gone]) ++ [LO.gone])) a7 b7 c7))
  have rc : ∀ p ∈ runs s, p.1 < 0x110000 := fun p hp => slow _ (f2.2 p hp)
  have d1 := drawn_eq (hi := hg) b14 (by omega) (by omega : 1 ≤ wi) (by omega) (by omega) (by omega) (dice (((((((((G ++ [LO.dic (kvD ks)]) ++ G1) ++ [LO.gone]) ++ [LO.gone]) ++ [LO.gone]) ++ [LO.gone]) ++ [LO.gone]) ++ [LO.gone])) a7 b7 c7)
  have d2 := read_drawn_eq b14 (by omega) (by omega : 1 ≤ wi) (by omega) (dice (((((((((G ++ [LO.dic (kvD ks)]) ++ G1) ++ [LO.gone]) ++ [LO.gone]) ++ [LO.gone]) ++ [LO.gone]) ++ [LO.gone]) ++ [LO.gone])) a7 b7 c7)
  have lm := ln_len s wi
  have lm2 : wi * s.length ≤ 4 * 20 := Nat.mul_le_mul (by omega) (by omega)
  have rep : dMul (.lst [.str (RS (ln s wi))]) (.int (hg : Int)) = some (.lst (List.replicate hg (.str (RS (ln s wi))))) := by
    rw [repL (by omega) (by simp)]
    rw [rep_flat]
  have ner : dNe (.lst (List.replicate hg (.str (RS (ln s wi))))) (.lst (List.replicate hg (.str (RS (ln s wi))))) = some (.bl false) := by
    have q := neSame (l := List.replicate hg (RS (ln s wi))) (fun x hx => by rw [(List.mem_replicate.mp hx).2]; exact RS_ok (ln_ok s wi))
    rw [List.map_replicate] at q
    exact q
  refine fin_seq (if_no (or_no (test_ok (bin_ok (call_ok (cons_ok (call_ok (cons_ok (V rfl) (cons_ok (V rfl) (cons_ok (V rfl) nil_ok))) d1) nil_ok) (res_ok (d := .lst (List.replicate hg (.str (RS (ln s wi))))) rfl)) (bin_ok (lst_ok (cons_ok (mtS1_ok (V rfl) (cons_ok c_ok nil_ok) (gRS (by omega))) nil_ok) rfl) (V rfl) rep) ner)) (test_ok (bin_ok (call_ok (cons_ok (V rfl) (cons_ok (V rfl) nil_ok)) d2) (V rfl) neS_same))) rfl) ?_
  have u1 := runs_eq slow (by omega) (dice (((((((((G ++ [LO.dic (kvD ks)]) ++ G1) ++ [LO.gone]) ++ [LO.gone]) ++ [LO.gone]) ++ [LO.gone]) ++ [LO.gone]) ++ [LO.gone])) a7 b7 c7)
  have u2 := share_eq l14 (by omega) (dice ((((((((((G ++ [LO.dic (kvD ks)]) ++ G1) ++ [LO.gone]) ++ [LO.gone]) ++ [LO.gone]) ++ [LO.gone]) ++ [LO.gone]) ++ [LO.gone]) ++ [LO.gone])) a7 b7 c7)
  refine fin_seq (if_no (h1 := (dice ((((((((((G ++ [LO.dic (kvD ks)]) ++ G1) ++ [LO.gone]) ++ [LO.gone]) ++ [LO.gone]) ++ [LO.gone]) ++ [LO.gone]) ++ [LO.gone]) ++ [LO.gone])) a7 b7 c7)) (or_no (test_ok (bin_ok (call_ok (cons_ok (V rfl) nil_ok) u1) (V rfl) (neSameR rc))) (test_ok (bin_ok (call_ok (cons_ok (V rfl) nil_ok) u2) (share_of l14 (by omega) rfl) neI_same))) rfl) ?_
  show Goes IsDice ((_ : Sv) [some X0, some (.obj 0), some (.str (tx js)), none, some (.str (tx j.js)), some (.str j.S), some (.int (p : Int)), some (.str (chg j.S p)), some (.tup ((sortN ks).map .str)), none, some (.str w), ox, some (.str (NN (full w))), some (.str ((NN (full w)).take ((NN (full w)).length - 1 - q))), some (.str s), some (.int (wi : Int)), some (.int (hg : Int)), some (.str (ln s wi)), some (.lst ((runs s).map dR)), none, none, none, none, none] (dice ((((((((((G ++ [LO.dic (kvD ks)]) ++ G1) ++ [LO.gone]) ++ [LO.gone]) ++ [LO.gone]) ++ [LO.gone]) ++ [LO.gone]) ++ [LO.gone]) ++ [LO.gone])) a7 b7 c7))
  obtain ⟨fd, a8, b8, c8, r_fd, l_fd⟩ := rollN (G := (((((((((G ++ [LO.dic (kvD ks)]) ++ G1) ++ [LO.gone]) ++ [LO.gone]) ++ [LO.gone]) ++ [LO.gone]) ++ [LO.gone]) ++ [LO.gone]) ++ [LO.gone])) a7 b7 c7 (many := 10) (by decide) (by decide)
  obtain ⟨fk, a9, b9, c9, r_fk, l_fk⟩ := rollN (G := (((((((((G ++ [LO.dic (kvD ks)]) ++ G1) ++ [LO.gone]) ++ [LO.gone]) ++ [LO.gone]) ++ [LO.gone]) ++ [LO.gone]) ++ [LO.gone]) ++ [LO.gone])) a8 b8 c8 (many := 3) (by decide) (by decide)
  have ek : ∃ k, atI [76, 82, 71] (fk : Int) = some k ∧ (k = 76 ∨ k = 82 ∨ k = 71) := by
    rcases (show fk = 0 ∨ fk = 1 ∨ fk = 2 by omega) with rfl | rfl | rfl
    · exact ⟨76, rfl, .inl rfl⟩
    · exact ⟨82, rfl, .inr (.inl rfl)⟩
    · exact ⟨71, rfl, .inr (.inr rfl)⟩
  obtain ⟨kk, ek1, ek2⟩ := ek
  have fd10 : fd < 10 := by omega
  refine fin_seq (par_ok (cons_ok (call_ok (cons_ok (call_ok (cons_ok (V rfl) (cons_ok rfl nil_ok)) r_fd) nil_ok) (res_ok (str1 _ fd10))) (cons_ok (ix_ok c_ok (call_ok (cons_ok (V rfl) (cons_ok rfl nil_ok)) r_fk) (ixS_of (by decide) ek1)) nil_ok))) ?_
  show Goes IsDice ((_ : Sv) [some X0, some (.obj 0), some (.str (tx js)), none, some (.str (tx j.js)), some (.str j.S), some (.int (p : Int)), some (.str (chg j.S p)), some (.tup ((sortN ks).map .str)), none, some (.str w), ox, some (.str (NN (full w))), some (.str ((NN (full w)).take ((NN (full w)).length - 1 - q))), some (.str s), some (.int (wi : Int)), some (.int (hg : Int)), some (.str (ln s wi)), some (.lst ((runs s).map dR)), some (.str [48 + fd]), some (.str [kk]), none, none, none] (dice ((((((((((G ++ [LO.dic (kvD ks)]) ++ G1) ++ [LO.gone]) ++ [LO.gone]) ++ [LO.gone]) ++ [LO.gone]) ++ [LO.gone]) ++ [LO.gone]) ++ [LO.gone])) a9 b9 c9))
  refine fin_seq (asg_nm (ix_ok c_ok (call_ok (cons_ok (V rfl) nil_ok) (res_ok (int1 _ fd10))) (z := .str (lefts.getD fd [])) (left_at fd10))) ?_
  show Goes IsDice ((_ : Sv) [some X0, some (.obj 0), some (.str (tx js)), none, some (.str (tx j.js)), some (.str j.S), some (.int (p : Int)), some (.str (chg j.S p)), some (.tup ((sortN ks).map .str)), none, some (.str w), ox, some (.str (NN (full w))), some (.str ((NN (full w)).take ((NN (full w)).length - 1 - q))), some (.str s), some (.int (wi : Int)), some (.int (hg : Int)), some (.str (ln s wi)), some (.lst ((runs s).map dR)), some (.str [48 + fd]), some (.str [kk]), some (.str (lefts.getD fd [])), none, none] (dice ((((((((((G ++ [LO.dic (kvD ks)]) ++ G1) ++ [LO.gone]) ++ [LO.gone]) ++ [LO.gone]) ++ [LO.gone]) ++ [LO.gone]) ++ [LO.gone]) ++ [LO.gone])) a9 b9 c9))
  have lL : (lefts.getD fd []).length = 7 := (kN (r := 76) (.inl rfl) fd10).1
  have nL : Bits (lefts.getD fd []) := (kN (r := 76) (.inl rfl) fd10).2
  refine fin_seq (asg_nm (ten_flp nL rfl (by simp) (by omega))) ?_
  show Goes IsDice ((_ : Sv) [some X0, some (.obj 0), some (.str (tx js)), none, some (.str (tx j.js)), some (.str j.S), some (.int (p : Int)), some (.str (chg j.S p)), some (.tup ((sortN ks).map .str)), none, some (.str w), ox, some (.str (NN (full w))), some (.str ((NN (full w)).take ((NN (full w)).length - 1 - q))), some (.str s), some (.int (wi : Int)), some (.int (hg : Int)), some (.str (ln s wi)), some (.lst ((runs s).map dR)), some (.str [48 + fd]), some (.str [kk]), some (.str (lefts.getD fd [])), some (.str (flp (lefts.getD fd []))), none] (dice ((((((((((G ++ [LO.dic (kvD ks)]) ++ G1) ++ [LO.gone]) ++ [LO.gone]) ++ [LO.gone]) ++ [LO.gone]) ++ [LO.gone]) ++ [LO.gone]) ++ [LO.gone])) a9 b9 c9))
  have ek3 : kk = 76 ∨ kk = 71 ∨ kk = 82 := by omega
  refine fin_seq (asg_nm (pick3 (k := kk) ek3 (a := lefts.getD fd []) (b := flp (lefts.getD fd [])) rfl rfl rfl (by rw [flp_len]; omega))) ?_
  rw [← blk_eq]
  show Goes IsDice ((_ : Sv) [some X0, some (.obj 0), some (.str (tx js)), none, some (.str (tx j.js)), some (.str j.S), some (.int (p : Int)), some (.str (chg j.S p)), some (.tup ((sortN ks).map .str)), none, some (.str w), ox, some (.str (NN (full w))), some (.str ((NN (full w)).take ((NN (full w)).length - 1 - q))), some (.str s), some (.int (wi : Int)), some (.int (hg : Int)), some (.str (ln s wi)), some (.lst ((runs s).map dR)), some (.str [48 + fd]), some (.str [kk]), some (.str (lefts.getD fd [])), some (.str (flp (lefts.getD fd []))), some (.str (blk kk fd))] (dice ((((((((((G ++ [LO.dic (kvD ks)]) ++ G1) ++ [LO.gone]) ++ [LO.gone]) ++ [LO.gone]) ++ [LO.gone]) ++ [LO.gone]) ++ [LO.gone]) ++ [LO.gone])) a9 b9 c9))
  have z1 := figure_stripes_eq fd10 ek2 (dice ((((((((((G ++ [LO.dic (kvD ks)]) ++ G1) ++ [LO.gone]) ++ [LO.gone]) ++ [LO.gone]) ++ [LO.gone]) ++ [LO.gone]) ++ [LO.gone]) ++ [LO.gone])) a9 b9 c9)
  have bl : (blk kk fd).length = 7 := (kN ek3 fd10).1
  have z2 := figure_in_eq (ks := [kk]) (b := blk kk fd) (by omega) (dice ((((((((((G ++ [LO.dic (kvD ks)]) ++ G1) ++ [LO.gone]) ++ [LO.gone]) ++ [LO.gone]) ++ [LO.gone]) ++ [LO.gone]) ++ [LO.gone]) ++ [LO.gone])) a9 b9 c9)
  rw [kK fd10 ek2] at z2
  have z3 := figure_in_eq (ks := [76, 82, 71]) (b := [49, 49, 49, 49, 49, 49, 49]) (by decide) (dice ((((((((((G ++ [LO.dic (kvD ks)]) ++ G1) ++ [LO.gone]) ++ [LO.gone]) ++ [LO.gone]) ++ [LO.gone]) ++ [LO.gone]) ++ [LO.gone]) ++ [LO.gone])) a9 b9 c9)
  rw [fi_none] at z3
  have o1 : txOk [48 + fd] = true := by unfold txOk; simp; omega
  have o2 : txOk [kk] = true := by rcases ek2 with rfl | rfl | rfl <;> rfl
  refine fin_seq (if_no (or_no (test_ok (bin_ok (call_ok (cons_ok (V rfl) (cons_ok (V rfl) nil_ok)) z1) (V rfl) neS_same)) (test_ok (bin_ok (call_ok (cons_ok (V rfl) (cons_ok (V rfl) nil_ok)) z2) (tup_ok (cons_ok (V rfl) (cons_ok (V rfl) nil_ok)) rfl) (nePair o1 o2)))) rfl) ?_
  exact fin_end (if_no (test_ok (bin_ok (call_ok (cons_ok c_ok (cons_ok c_ok nil_ok)) z3) (tup_ok (cons_ok c_ok (cons_ok c_ok nil_ok)) rfl) (nePair (a := []) (b := []) rfl rfl))) rfl) ⟨_, _, _, _, rfl⟩
theorem law_ok (ns : List Int) : ∃ h', f_law [.fls (ns.map D.int)] [] = .ok (.bl true) h' := by
  obtain ⟨a, b, c, e⟩ := rounds_ok ns
  obtain ⟨ρ1, h1, e1, G, a1, b1, c1, rfl⟩ := body_ok (.fls (ns.map D.int)) [] a b c
  obtain ⟨G2, e2⟩ := plain_ok (dice G a1 b1 c1)
  refine ⟨dice G a1 b1 c1 ++ G2, ?_⟩
  show fn 24 m_law [.fls (ns.map D.int)] [] = _
  have en : m_law ([D.fls (ns.map D.int)].map some ++ List.replicate (24 - 1) none) [] = .rt (.bl true) (dice G a1 b1 c1 ++ G2) := by
    show m_law [some (.fls (ns.map D.int)), none, none, none, none, none, none, none, none, none, none, none, none, none, none, none, none, none, none, none, none, none, none, none] [] = _
    refine seq_nx (for_of (seq_of (ds := [.obj 0]) (call_ok (cons_ok (var_ok rfl) (cons_ok c_ok nil_ok)) e)) (for_cons rfl e1 rfl)) (ret_ok (call_ok nil_ok e2))
  unfold fn
  rw [show (24 - [D.fls (ns.map D.int)].length) = 24 - 1 from rfl, en]
end K19

set_option maxRecDepth 100000 in
set_option maxHeartbeats 0 in
theorem PySem.Challenge.cw_idstack_k19_stripes_of_codes_holds : PySem.Challenge.rw_idstack_k19_stripes_of_codes.Holds := by
  exact K19.holds fun ns _ _ => K19.law_ok ns
