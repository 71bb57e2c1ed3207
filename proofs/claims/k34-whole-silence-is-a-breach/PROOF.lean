import PyProof.Rows.All
import Wide.All
import OpenK.AllK
import Wide.FinOn
import HandS.ForMost
import HandS.ForExc
import HandS.Wide
import HandS.IsInst
import HandS.ExcIs
import HandS.Conv
import HandS.HeadHook1
import HandS.Defaults
import HandS.Zip
import HandS.Rev
import HandS.TupLe
import HandS.TupAny
import HandS.TupMul
import HandS.Deep
import HandS.Sort
import HandS.Dict
import HandS.Iter
import HandS.WordsDict
import HandS.Style
import KE.GoesEnum
import HandS.TryOnly
import HandS.Strs
import PyProof.Rows.SetFrom
import HandS.SetFor
import HandS.More
import HandS.Head0
import HandS.Head1
import HandS.Head2
import HandS.HeadEnd
import HandS.HeadHook2
import PySem.Challenge.RW_stormpost_k34_whole_silence_is_a_breach
set_option Elab.async false
set_option linter.all false
set_option maxRecDepth 100000
set_option maxHeartbeats 4000000
/-! A layer of my own over the hand layer: expressions and statements read on plain data (D), with a ledger of the objects that change. -/
namespace Vs
open PySem PySem.Spec PyProof.Rows L2

/-- plain data: lists and tuples that nobody changes any more by what they hold; ref: an object by its address -/
inductive D where
  | non | bl (b : Bool) | int (i : Int) | str (x : Str) | lst (ds : List D) | tup (ds : List D) | ref (a : Addr) | ty (n : String) | rng (lo hi : Int)
/-- what stands in the ledger: an object that may be changed -/
inductive C where
  | lst (ds : List D) | obj (c : Addr) (fs : List (Str × D)) | dic (kvs : List (Key × D)) | dit (kvs : List (List Key × D))
abbrev Gm := List (Option D)
abbrev Lg := List (Addr × C)
abbrev dI (xs : List Int) : List D := xs.map D.int

mutual
inductive Rep (K : PySem.W.Frag) (F : Hp) : D → V → Prop
  | non : Rep K F .non .non
  | bl {b : Bool} : Rep K F (.bl b) (.bl b)
  | int {i : Int} : Rep K F (.int i) (.int i)
  | str {x : Str} : Rep K F (.str x) (.str x)
  | lst {ds : List D} {a : Addr} {xs : List V} : SqL K F a xs → Reps K F ds xs → Rep K F (.lst ds) (.ref a)
  | tup {ds : List D} {a : Addr} {xs : List V} : SqT K F a xs → Reps K F ds xs → Rep K F (.tup ds) (.ref a)
  | ref {a : Addr} : Rep K F (.ref a) (.ref a)
  | ty {n : String} : Rep K F (.ty n) (.ty n)
  | rng {lo hi : Int} {a : Addr} : F a = some (.rng lo hi) → Rep K F (.rng lo hi) (.ref a)
inductive Reps (K : PySem.W.Frag) (F : Hp) : List D → List V → Prop
  | nil : Reps K F [] []
  | cons {d : D} {v : V} {ds : List D} {vs : List V} : Rep K F d v → Reps K F ds vs → Reps K F (d :: ds) (v :: vs)
end
section
variable {K : PySem.W.Frag} {F F' : Hp}
theorem seqT (e : Same F F') {a : Addr} {xs : List V} (h : SqT K F a xs) : SqT K F' a xs := by
  rcases h with (h | ⟨o, h⟩) | h
  · exact .inl (.inl (e _ _ h))
  · exact .inl (.inr ⟨o, e _ _ h⟩)
  · exact .inr h
mutual
theorem Rep.mono (s : Same F F') : ∀ {d : D} {v : V}, Rep K F d v → Rep K F' d v
  | _, _, .non => .non
  | _, _, .bl => .bl
  | _, _, .int => .int
  | _, _, .str => .str
  | _, _, .lst h r => .lst (s.seq h) (Reps.mono s r)
  | _, _, .tup h r => .tup (seqT s h) (Reps.mono s r)
  | _, _, .ref => .ref
  | _, _, .ty => .ty
  | _, _, .rng h => .rng (s _ _ h)
theorem Reps.mono (s : Same F F') : ∀ {ds : List D} {vs : List V}, Reps K F ds vs → Reps K F' ds vs
  | _, _, .nil => .nil
  | _, _, .cons r t => .cons (Rep.mono s r) (Reps.mono s t)
end
theorem Reps.length : ∀ {ds : List D} {vs : List V}, Reps K F ds vs → ds.length = vs.length
  | _, _, .nil => rfl
  | _, _, .cons _ t => by rw [List.length_cons, List.length_cons, Reps.length t]
theorem Reps.append : ∀ {ds es : List D} {vs us : List V}, Reps K F ds vs → Reps K F es us → Reps K F (ds ++ es) (vs ++ us)
  | _, _, _, _, .nil, s => s
  | _, _, _, _, .cons r t, s => .cons r (Reps.append t s)
theorem Reps.get : ∀ {ds : List D} {vs : List V} {i : Nat} {d : D}, Reps K F ds vs → ds[i]? = some d → ∃ v, vs[i]? = some v ∧ Rep K F d v
  | _, _, _, _, .nil, e => by simp at e
  | _, _, 0, _, .cons r _, e => by simp at e; subst e; exact ⟨_, rfl, r⟩
  | _, _, i + 1, d, .cons _ t, e => by
    obtain ⟨u, h1, h2⟩ := Reps.get (i := i) (d := d) t (by simpa using e)
    exact ⟨u, by simpa using h1, h2⟩
theorem Reps.got : ∀ {ds : List D} {vs : List V} {i : Nat} {v : V}, Reps K F ds vs → vs[i]? = some v → ∃ d, ds[i]? = some d ∧ Rep K F d v
  | _, _, _, _, .nil, e => by simp at e
  | _, _, 0, _, .cons r _, e => by simp at e; subst e; exact ⟨_, rfl, r⟩
  | _, _, i + 1, v, .cons _ t, e => by
    obtain ⟨u, h1, h2⟩ := Reps.got (i := i) (v := v) t (by simpa using e)
    exact ⟨u, by simpa using h1, h2⟩
theorem Reps.set {x : D} {u : V} (r : Rep K F x u) : ∀ {ds : List D} {vs : List V} (i : Nat), Reps K F ds vs → Reps K F (ds.set i x) (vs.set i u)
  | _, _, _, .nil => .nil
  | _, _, 0, .cons _ t => .cons r t
  | _, _, i + 1, .cons q t => .cons q (Reps.set r i t)
theorem Reps.take : ∀ {ds : List D} {vs : List V} (n : Nat), Reps K F ds vs → Reps K F (ds.take n) (vs.take n)
  | _, _, 0, _ => .nil
  | _, _, _ + 1, .nil => .nil
  | _, _, n + 1, .cons r t => .cons r (Reps.take n t)
theorem Reps.drop : ∀ {ds : List D} {vs : List V} (n : Nat), Reps K F ds vs → Reps K F (ds.drop n) (vs.drop n)
  | _, _, 0, r => r
  | _, _, _ + 1, .nil => .nil
  | _, _, n + 1, .cons r t => Reps.drop n t
theorem Reps.rev : ∀ {ds : List D} {vs : List V}, Reps K F ds vs → Reps K F ds.reverse vs.reverse
  | _, _, .nil => .nil
  | _, _, .cons r t => by
    rw [List.reverse_cons, List.reverse_cons]
    exact Reps.append (Reps.rev t) (.cons r .nil)
theorem reps_il : ∀ {xs : List Int}, Reps K F (dI xs) (xs.map V.int)
  | [] => .nil
  | _ :: _ => .cons .int reps_il
theorem il_reps : ∀ {xs : List Int} {vs : List V}, Reps K F (dI xs) vs → vs = xs.map V.int
  | [], _, .nil => rfl
  | x :: xs, _, .cons r t => by
    cases r
    rw [il_reps t]
    rfl
theorem bls_reps : ∀ {xs : List Bool} {vs : List V}, Reps K F (xs.map D.bl) vs → vs = xs.map V.bl
  | [], _, .nil => rfl
  | x :: xs, _, .cons r t => by
    cases r
    rw [bls_reps t]
    rfl
theorem strs_reps : ∀ {xs : List Str} {vs : List V}, Reps K F (xs.map D.str) vs → vs = xs.map V.str
  | [], _, .nil => rfl
  | x :: xs, _, .cons r t => by
    cases r
    rw [strs_reps t]
    rfl
end

/-- pairs of a key and a datum -/
inductive RepP (K : PySem.W.Frag) (F : Hp) {κ : Type} : List (κ × D) → List (κ × V) → Prop
  | nil : RepP K F [] []
  | cons {k : κ} {d : D} {v : V} {ds : List (κ × D)} {vs : List (κ × V)} : Rep K F d v → RepP K F ds vs → RepP K F ((k, d) :: ds) ((k, v) :: vs)
theorem RepP.mono {K : PySem.W.Frag} {F F' : Hp} {κ : Type} (s : Same F F') : ∀ {ds : List (κ × D)} {vs : List (κ × V)}, RepP K F ds vs → RepP K F' ds vs
  | _, _, .nil => .nil
  | _, _, .cons r t => .cons (r.mono s) (RepP.mono s t)
/-- an object of the ledger, as H tracks it -/
def CRep (K : PySem.W.Frag) (F H : Hp) (a : Addr) : C → Prop
  | .lst ds => ∃ xs, H a = some (.lst xs) ∧ Reps K F ds xs
  | .obj c fs => ∃ dx ps, H a = some (.ins c dx ps) ∧ RepP K F fs ps
  | .dic kvs => ∃ ps, H a = some (.dK ps) ∧ RepP K F kvs ps
  | .dit kvs => ∃ ps, H a = some (.dT ps) ∧ RepP K F kvs ps
theorem CRep.mono {K : PySem.W.Frag} {F F' H H' : Hp} {a : Addr} {c : C} (s : Same F F') (e : H' a = H a) (h : CRep K F H a c) : CRep K F' H' a c := by
  cases c with
  | lst ds => obtain ⟨xs, h1, h2⟩ := h; exact ⟨xs, e.trans h1, h2.mono s⟩
  | obj c fs => obtain ⟨dx, ps, h1, h2⟩ := h; exact ⟨dx, ps, e.trans h1, h2.mono s⟩
  | dic kvs => obtain ⟨ps, h1, h2⟩ := h; exact ⟨ps, e.trans h1, h2.mono s⟩
  | dit kvs => obtain ⟨ps, h1, h2⟩ := h; exact ⟨ps, e.trans h1, h2.mono s⟩
theorem CRep.there {K : PySem.W.Frag} {F H : Hp} {a : Addr} {c : C} (h : CRep K F H a c) : ∃ o, H a = some o := by
  cases c with
  | lst ds => obtain ⟨xs, h1, _⟩ := h; exact ⟨_, h1⟩
  | obj c fs => obtain ⟨dx, vs, h1, _⟩ := h; exact ⟨_, h1⟩
  | dic kvs => obtain ⟨vs, h1, _⟩ := h; exact ⟨_, h1⟩
  | dit kvs => obtain ⟨vs, h1, _⟩ := h; exact ⟨_, h1⟩

/-- F: what stands still; L: what may be changed; both in H -/
structure Led (K : PySem.W.Frag) (F : Hp) (L : Lg) (H : Hp) : Prop where
  sub : Same F H
  nod : (L.map (·.1)).Nodup
  ent : ∀ p ∈ L, F p.1 = none ∧ CRep K F H p.1 p.2
theorem same_new {H : Hp} {q : Addr} {o : HO} (h : H q = none) : Same H (upd H q o) := fun b u e => by
  rw [upd_ne (ne_of_none e h)]
  exact e
section
variable {K : PySem.W.Frag} {F F' : Hp} {L : Lg} {H : Hp} {q : Addr}
theorem Led.free (e : Led K F L H) (h : H q = none) : F q = none := e.sub.free h
theorem Led.nofr (e : Led K F L H) (h : H q = none) : ∀ p ∈ L, p.1 ≠ q := fun p hp z => by
  obtain ⟨o, ho⟩ := (e.ent p hp).2.there
  rw [z, h] at ho
  cases ho
/-- a new object that stands still -/
theorem Led.new {o : HO} (e : Led K F L H) (h : H q = none) : Led K (upd F q o) L (upd H q o) where
  sub := fun b u x => by
    by_cases hb : b = q
    · subst hb; rw [upd_same] at x ⊢; exact x
    · rw [upd_ne hb] at x ⊢; exact e.sub b u x
  nod := e.nod
  ent := fun p hp => by
    have ne := e.nofr h p hp
    obtain ⟨h1, h2⟩ := e.ent p hp
    exact ⟨(upd_ne ne).trans h1, h2.mono (same_new (e.free h)) (upd_ne ne)⟩
/-- a new list in the ledger -/
theorem Led.newL {ds : List D} {xs : List V} (e : Led K F L H) (h : H q = none) (r : Reps K F ds xs) : Led K F ((q, .lst ds) :: L) (upd H q (.lst xs)) where
  sub := e.sub.trans (same_new h)
  nod := by
    rw [List.map_cons]
    refine List.nodup_cons.mpr ⟨fun z => ?_, e.nod⟩
    obtain ⟨p, hp, z⟩ := List.mem_map.mp z
    exact e.nofr h p hp z
  ent := fun p hp => by
    rcases List.mem_cons.mp hp with rfl | hp
    · exact ⟨e.free h, xs, upd_same, r⟩
    · have ne := e.nofr h p hp
      obtain ⟨h1, h2⟩ := e.ent p hp
      exact ⟨h1, h2.mono (Same.refl F) (upd_ne ne)⟩
end

inductive Slots (K : PySem.W.Frag) (F : Hp) : Gm → L2.St → Prop
  | nil : Slots K F [] []
  | no {x : Option V} {Γ : Gm} {σ : L2.St} : Slots K F Γ σ → Slots K F (none :: Γ) (x :: σ)
  | so {d : D} {v : V} {Γ : Gm} {σ : L2.St} : Rep K F d v → Slots K F Γ σ → Slots K F (some d :: Γ) (some v :: σ)
/-- place i of the list holds x | .. is put to x -/
inductive Get {α : Type} : List α → Nat → α → Prop
  | z {x : α} {xs : List α} : Get (x :: xs) 0 x
  | s {x y : α} {xs : List α} {i : Nat} : Get xs i y → Get (x :: xs) (i + 1) y
inductive Put {α : Type} : List α → Nat → α → List α → Prop
  | z {x y : α} {xs : List α} : Put (x :: xs) 0 y (y :: xs)
  | s {x y : α} {xs ys : List α} {i : Nat} : Put xs i y ys → Put (x :: xs) (i + 1) y (x :: ys)
section
variable {K : PySem.W.Frag} {F F' : Hp}
theorem Slots.mono (s : Same F F') : ∀ {Γ : Gm} {σ : L2.St}, Slots K F Γ σ → Slots K F' Γ σ
  | _, _, .nil => .nil
  | _, _, .no t => .no (Slots.mono s t)
  | _, _, .so r t => .so (r.mono s) (Slots.mono s t)
theorem Slots.get : ∀ {Γ : Gm} {σ : L2.St} {i : Nat} {d : D}, Slots K F Γ σ → Get Γ i (some d) → ∃ v, σ[i]? = some (some v) ∧ Rep K F d v
  | _, _, _, _, .so r _, .z => ⟨_, rfl, r⟩
  | _, _, _, _, .no t, .s g => by
    obtain ⟨v, h1, h2⟩ := Slots.get t g
    exact ⟨v, h1, h2⟩
  | _, _, _, _, .so _ t, .s g => by
    obtain ⟨v, h1, h2⟩ := Slots.get t g
    exact ⟨v, h1, h2⟩
theorem Slots.put {d : D} {v : V} (r : Rep K F d v) : ∀ {Γ Γ' : Gm} {σ : L2.St} {i : Nat}, Slots K F Γ σ → Put Γ i (some d) Γ' → Slots K F Γ' (σ.set i (some v))
  | _, _, _, _, .so _ t, .z => .so r t
  | _, _, _, _, .no t, .z => .so r t
  | _, _, _, _, .no t, .s g => .no (Slots.put r t g)
  | _, _, _, _, .so q t, .s g => .so q (Slots.put r t g)
theorem Slots.out {x : Option V} : ∀ {Γ Γ' : Gm} {σ : L2.St} {i : Nat}, Slots K F Γ σ → Put Γ i none Γ' → Slots K F Γ' (σ.set i x)
  | _, _, _, _, .so _ t, .z => .no t
  | _, _, _, _, .no t, .z => .no t
  | _, _, _, _, .no t, .s g => .no (Slots.out t g)
  | _, _, _, _, .so q t, .s g => .so q (Slots.out t g)
/-- forget -/
theorem Slots.forget : ∀ {Γ Γ' : Gm} {σ : L2.St} {i : Nat}, Slots K F Γ σ → Put Γ i none Γ' → Slots K F Γ' σ
  | _, _, _, _, .so _ t, .z => .no t
  | _, _, _, _, .no t, .z => .no t
  | _, _, _, _, .no t, .s g => .no (Slots.forget t g)
  | _, _, _, _, .so q t, .s g => .so q (Slots.forget t g)
end
/-- what holds of the place, at F -/
structure At (K : PySem.W.Frag) (F0 F : Hp) (Γ : Gm) (L : Lg) (σ : L2.St) (H : Hp) : Prop where
  ge : Same F0 F
  led : Led K F L H
  sl : Slots K F Γ σ

/-! ### expressions -/
section
variable {X : Cx}
def wpE (X : Cx) (e : Expr) : TE := fun σ H Q => ∀ pins s, Inv X pins σ H s → wpAny (model X.prog X.w) X.A (eval e X.env) (EP X pins σ Q) X.xe s
def wpA (X : Cx) (es : List Expr) : TA := fun σ H Q => ∀ pos pins s, Inv X pins σ H s → wpAny (model X.prog X.w) X.A (spliced (backTo pos (starEach es X.env))) (AP X pins σ Q) X.xe s
def wpT (X : Cx) (e : Expr) : TT := fun σ H Q => ∀ pins s, Inv X pins σ H s → wpAny (model X.prog X.w) X.A (isTrue e X.env (eval e X.env)) (TP X pins σ Q) X.xe s
def wpW (X : Cx) (e : Expr) : TT := fun σ H Q => ∀ whole pins s, Inv X pins σ H s → wpAny (model X.prog X.w) X.A (isTrue e X.env whole) (TP X pins σ Q) X.xe s
def wpS (X : Cx) (st : Stmt) : TS := fun Dn σ H => ∀ pins s, Inv X pins σ H s → wpAny (model X.prog X.w) X.A (exec st X.env) (SP X pins Dn) X.xe s
def wpB (X : Cx) (ss : List Stmt) : TS := fun Dn σ H => ∀ pins s, Inv X pins σ H s → wpAny (model X.prog X.w) X.A (execs ss X.env) (SP X pins Dn) X.xe s
theorem we {e : Expr} : PE X e (wpE X e) := ⟨fun pins s _ _ _ I h => h pins s I⟩
theorem wa {es : List Expr} : PA X es (wpA X es) := ⟨fun pos pins s _ _ _ I h => h pos pins s I⟩
theorem wt {e : Expr} : PT X e (wpT X e) := ⟨fun pins s _ _ _ I h => h pins s I⟩
theorem ww {e : Expr} : PW X e (wpW X e) := ⟨fun wh pins s _ _ _ I h => h wh pins s I⟩
theorem ws {st : Stmt} : PS X st (wpS X st) := ⟨fun pins s _ _ _ I h => h pins s I⟩
theorem wb {ss : List Stmt} : PSs X ss (wpB X ss) := ⟨fun pins s _ _ _ I h => h pins s I⟩
theorem wpE.of {e : Expr} {t : TE} {σ : L2.St} {H : Hp} {Q : VK} (p : PE X e t) (h : t σ H Q) : wpE X e σ H Q := fun pins s I => p.run pins s σ H Q I h
theorem wpA.of {es : List Expr} {t : TA} {σ : L2.St} {H : Hp} {Q : List V → Hp → Prop} (p : PA X es t) (h : t σ H Q) : wpA X es σ H Q := fun pos pins s I => p.run pos pins s σ H Q I h
theorem wpT.of {e : Expr} {t : TT} {σ : L2.St} {H : Hp} {Q : Bool → Hp → Prop} (p : PT X e t) (h : t σ H Q) : wpT X e σ H Q := fun pins s I => p.run pins s σ H Q I h
theorem wpW.of {e : Expr} {t : TT} {σ : L2.St} {H : Hp} {Q : Bool → Hp → Prop} (p : PW X e t) (h : t σ H Q) : wpW X e σ H Q := fun wh pins s I => p.run wh pins s σ H Q I h
theorem wpS.of {st : Stmt} {t : TS} {σ : L2.St} {H : Hp} {Dn : Ends} (p : PS X st t) (h : t Dn σ H) : wpS X st Dn σ H := fun pins s I => p.run pins s σ H Dn I h
theorem wpB.of {ss : List Stmt} {t : TS} {σ : L2.St} {H : Hp} {Dn : Ends} (p : PSs X ss t) (h : t Dn σ H) : wpB X ss Dn σ H := fun pins s I => p.run pins s σ H Dn I h
end

/-- e, at Γ and L, gives a datum and a ledger of which k holds -/
def EvK (X : Cx) (F0 : Hp) (e : Expr) (Γ : Gm) (L : Lg) (k : D → Lg → Prop) : Prop := ∀ (F : Hp) (σ : L2.St) (H : Hp) (Q : VK), At X.K F0 F Γ L σ H →
  (∀ (d : D) (L' : Lg) (F' : Hp) (v : V) (H' : Hp), k d L' → At X.K F0 F' Γ L' σ H' → Same F F' → Rep X.K F' d v → Q v H') → wpE X e σ H Q
def EaK (X : Cx) (F0 : Hp) (es : List Expr) (Γ : Gm) (L : Lg) (k : List D → Lg → Prop) : Prop := ∀ (F : Hp) (σ : L2.St) (H : Hp) (Q : List V → Hp → Prop), At X.K F0 F Γ L σ H →
  (∀ (ds : List D) (L' : Lg) (F' : Hp) (vs : List V) (H' : Hp), k ds L' → At X.K F0 F' Γ L' σ H' → Same F F' → Reps X.K F' ds vs → Q vs H') → wpA X es σ H Q
def EtK (X : Cx) (F0 : Hp) (e : Expr) (Γ : Gm) (L : Lg) (k : Bool → Lg → Prop) : Prop := ∀ (F : Hp) (σ : L2.St) (H : Hp) (Q : Bool → Hp → Prop), At X.K F0 F Γ L σ H →
  (∀ (b : Bool) (L' : Lg) (F' : Hp) (H' : Hp), k b L' → At X.K F0 F' Γ L' σ H' → Same F F' → Q b H') → wpT X e σ H Q
def EwK (X : Cx) (F0 : Hp) (e : Expr) (Γ : Gm) (L : Lg) (k : Bool → Lg → Prop) : Prop := ∀ (F : Hp) (σ : L2.St) (H : Hp) (Q : Bool → Hp → Prop), At X.K F0 F Γ L σ H →
  (∀ (b : Bool) (L' : Lg) (F' : Hp) (H' : Hp), k b L' → At X.K F0 F' Γ L' σ H' → Same F F' → Q b H') → wpW X e σ H Q
/-- what is wanted behind a block -/
structure Ks where
  nx : Gm → Lg → Prop
  rt : D → Lg → Prop
  bk : Gm → Lg → Prop := fun _ _ => False
  ct : Gm → Lg → Prop := fun _ _ => False
structure Ek (X : Cx) (F0 : Hp) (Dn : Ends) (k : Ks) : Prop where
  nx : ∀ Γ L F σ H, k.nx Γ L → At X.K F0 F Γ L σ H → Dn.nx σ H
  rt : ∀ d L F v H, k.rt d L → Same F0 F → Led X.K F L H → Rep X.K F d v → Dn.rt v H
  bk : ∀ Γ L F σ H, k.bk Γ L → At X.K F0 F Γ L σ H → Dn.bk σ H
  ct : ∀ Γ L F σ H, k.ct Γ L → At X.K F0 F Γ L σ H → Dn.ct σ H
def SK (X : Cx) (F0 : Hp) (st : Stmt) (Γ : Gm) (L : Lg) (k : Ks) : Prop := ∀ (F : Hp) (σ : L2.St) (H : Hp) (Dn : Ends), At X.K F0 F Γ L σ H → Ek X F0 Dn k → wpS X st Dn σ H
def BK (X : Cx) (F0 : Hp) (ss : List Stmt) (Γ : Gm) (L : Lg) (k : Ks) : Prop := ∀ (F : Hp) (σ : L2.St) (H : Hp) (Dn : Ends), At X.K F0 F Γ L σ H → Ek X F0 Dn k → wpB X ss Dn σ H

section
variable {X : Cx} {F0 : Hp} {Γ : Gm} {L : Lg} {k : D → Lg → Prop} {ka : List D → Lg → Prop} {kt : Bool → Lg → Prop} {e a b c : Expr} {es rest : List Expr} {pos : Pos}
/-! constants and names -/
theorem ek_c {d : D} {v : V} (p : PE X e (tC v)) (r : ∀ F, Rep X.K F d v) (h : k d L) : EvK X F0 e Γ L k := fun F σ H Q E q => wpE.of p (q d L F v H h E (Same.refl F) (r F))
theorem ek_int {i : Int} {j : Nat} (h : k (.int i) L) : EvK X F0 (.Constant (.int i) j pos) Γ L k := ek_c pe_int (fun _ => .int) h
theorem ek_bl {i : Bool} {j : Nat} (h : k (.bl i) L) : EvK X F0 (.Constant (.bool i) j pos) Γ L k := ek_c pe_bl (fun _ => .bl) h
theorem ek_non {j : Nat} (h : k .non L) : EvK X F0 (.Constant .none j pos) Γ L k := ek_c pe_non (fun _ => .non) h
theorem ek_str {x : Str} {j : Nat} (h : k (.str x) L) : EvK X F0 (.Constant (.str x) j pos) Γ L k := ek_c pe_str (fun _ => .str) h
theorem ek_v {i : Nat} {d : D} (p : PE X e (tVar i)) (g : Get Γ i (some d)) (h : k d L) : EvK X F0 e Γ L k := fun F σ H Q E q => by
  obtain ⟨v, h1, h2⟩ := E.sl.get g
  exact wpE.of p ⟨v, h1, q d L F v H h E (Same.refl F) h2⟩
/-- a list, a tuple, a number of the module's top -/
theorem ek_glob {x : Str} {d : D} {v : V} {u : Value} (hm : X.mg x = some u) (r : RelV v u) (hr : ∀ F, Rep X.K F d v) (h : k d L) (hg : Gl X x := by rfl) (hd : (x == ("__debug__" : Str)) = false := by decide) : EvK X F0 (.Name x pos) Γ L k :=
  ek_c (pe_glob hg hm r hd) hr h
/-! operators -/
def CMulX (i j : Int) : Prop := CMul i j ∨ CMulW i j
theorem op_mulX : OpR X (binaryOp .Mult) (rI CMulX fun i j => .int (i * j)) := fun pins s σ H x y v u Q I rx ry ⟨i, j, e1, e2, hc, q⟩ => by
  rcases hc with hc | hc
  · exact op_mul pins s σ H x y v u Q I rx ry ⟨i, j, e1, e2, hc, q⟩
  · exact op_mulW pins s σ H x y v u Q I rx ry ⟨i, j, e1, e2, hc, q⟩
theorem mulL {i j : Int} (h : -(18446744073709551616) < i ∧ i < 18446744073709551616) : CMulX i j := .inl (.inl h)
theorem mulR {i j : Int} (h : -(18446744073709551616) < j ∧ j < 18446744073709551616) : CMulX i j := .inl (.inr h)
theorem ek_op {op : Operator} {r : R2} (ho : OpR X (binaryOp op) r) {P : D → D → (D → Prop) → Prop}
    (hr : ∀ F L' σ H x y v u (kk : D → Prop) (Q : VK), At X.K F0 F Γ L' σ H → Rep X.K F x v → Rep X.K F y u → P x y kk →
      (∀ d F' v' H', kk d → At X.K F0 F' Γ L' σ H' → Same F F' → Rep X.K F' d v' → Q v' H') → r v u H Q)
    (h : EvK X F0 a Γ L fun x L1 => EvK X F0 b Γ L1 fun y L2 => P x y fun d => k d L2) : EvK X F0 (.BinOp a op b pos) Γ L k := fun F σ H Q E q =>
  wpE.of (pe_op ho we we) (h F σ H _ E fun x L1 F1 v H1 h1 E1 s1 r1 => h1 F1 σ H1 _ E1 fun y L2 F2 u H2 h2 E2 s2 r2 =>
    hr F2 L2 σ H2 x y v u _ Q E2 (r1.mono s2) r2 h2 fun d F3 v3 H3 h3 E3 s3 r3 => q d L2 F3 v3 H3 h3 E3 (s1.trans (s2.trans s3)) r3)
theorem ek_opI {op : Operator} {C : Int → Int → Prop} {g : Int → Int → Int} (ho : OpR X (binaryOp op) (rI C fun i j => .int (g i j)))
    (h : EvK X F0 a Γ L fun x L1 => ∃ i, x = .int i ∧ EvK X F0 b Γ L1 fun y L2 => ∃ j, y = .int j ∧ C i j ∧ k (.int (g i j)) L2) : EvK X F0 (.BinOp a op b pos) Γ L k := fun F σ H Q E q =>
  wpE.of (pe_op ho we we) (h F σ H _ E fun x L1 F1 v H1 ⟨i, e1, h1⟩ E1 s1 r1 => h1 F1 σ H1 _ E1 fun y L2 F2 u H2 ⟨j, e2, hc, h2⟩ E2 s2 r2 => by
    subst e1 e2
    cases r1
    cases r2
    exact ⟨i, j, rfl, rfl, hc, q _ L2 F2 _ H2 h2 E2 (s1.trans s2) .int⟩)
theorem ek_add (h : EvK X F0 a Γ L fun x L1 => ∃ i, x = .int i ∧ EvK X F0 b Γ L1 fun y L2 => ∃ j, y = .int j ∧ k (.int (i + j)) L2) : EvK X F0 (.BinOp a .Add b pos) Γ L k := fun F σ H Q E q =>
  wpE.of (pe_op op_add we we) (h F σ H _ E fun x L1 F1 v H1 ⟨i, e1, h1⟩ E1 s1 r1 => h1 F1 σ H1 _ E1 fun y L2 F2 u H2 ⟨j, e2, h2⟩ E2 s2 r2 => by
    subst e1 e2
    cases r1
    cases r2
    exact ⟨i, j, rfl, rfl, q _ L2 F2 _ H2 h2 E2 (s1.trans s2) .int⟩)
theorem ek_sub (h : EvK X F0 a Γ L fun x L1 => ∃ i, x = .int i ∧ EvK X F0 b Γ L1 fun y L2 => ∃ j, y = .int j ∧ k (.int (i - j)) L2) : EvK X F0 (.BinOp a .Sub b pos) Γ L k := fun F σ H Q E q =>
  wpE.of (pe_op op_sub we we) (h F σ H _ E fun x L1 F1 v H1 ⟨i, e1, h1⟩ E1 s1 r1 => h1 F1 σ H1 _ E1 fun y L2 F2 u H2 ⟨j, e2, h2⟩ E2 s2 r2 => by
    subst e1 e2
    cases r1
    cases r2
    exact ⟨i, j, rfl, rfl, q _ L2 F2 _ H2 h2 E2 (s1.trans s2) .int⟩)
theorem ek_mul (h : EvK X F0 a Γ L fun x L1 => ∃ i, x = .int i ∧ EvK X F0 b Γ L1 fun y L2 => ∃ j, y = .int j ∧ CMulX i j ∧ k (.int (i * j)) L2) : EvK X F0 (.BinOp a .Mult b pos) Γ L k := ek_opI op_mulX h
theorem ek_mod (h : EvK X F0 a Γ L fun x L1 => ∃ i, x = .int i ∧ EvK X F0 b Γ L1 fun y L2 => ∃ j, y = .int j ∧ 0 < j ∧ k (.int (i % j)) L2) : EvK X F0 (.BinOp a .Mod b pos) Γ L k := ek_opI op_mod h
theorem ek_fdiv (h : EvK X F0 a Γ L fun x L1 => ∃ i, x = .int i ∧ EvK X F0 b Γ L1 fun y L2 => ∃ j, y = .int j ∧ CDiv i j ∧ k (.int (i / j)) L2) : EvK X F0 (.BinOp a .FloorDiv b pos) Γ L k := ek_opI op_fdiv h
theorem ek_pow (h : EvK X F0 a Γ L fun x L1 => ∃ i, x = .int i ∧ EvK X F0 b Γ L1 fun y L2 => ∃ j, y = .int j ∧ CPow i j ∧ k (.int (i ^ j.toNat)) L2) : EvK X F0 (.BinOp a .Pow b pos) Γ L k := ek_opI op_pow h
theorem ek_neg (h : EvK X F0 a Γ L fun x L1 => ∃ i, x = .int i ∧ k (.int (-i)) L1) : EvK X F0 (.UnaryOp .USub a pos) Γ L k := fun F σ H Q E q =>
  wpE.of (pe_un un_neg we) (h F σ H _ E fun x L1 F1 v H1 ⟨i, e1, h1⟩ E1 s1 r1 => by
    subst e1
    cases r1
    exact ⟨i, rfl, q _ L1 F1 _ H1 h1 E1 s1 .int⟩)
end
end Vs

set_option Elab.async false
set_option linter.all false
set_option maxRecDepth 100000
set_option maxHeartbeats 4000000
namespace Vs
open PySem PySem.Spec PyProof.Rows L2
/-! ### promises -/
structure Xc where
  c : Value
  fs : Option (List (Str × D)) := none
abbrev SpD := List D → Lg → (D → Lg → Prop) → (Xc → Lg → Prop) → Prop
def XRep (K : PySem.W.Frag) (F H : Hp) (x : Xc) (od : Option Addr) : Prop := match x.fs with
  | none => od = none
  | some fs => ∃ d vs, od = some d ∧ H d = some (.xd ((fs.map (·.1)).zip vs)) ∧ Reps K F (fs.map (·.2)) vs
def spOf (K : PySem.W.Frag) (S : SpD) : Sp := fun vs H Q E => ∃ (F : Hp) (ds : List D) (L : Lg) (q : D → Lg → Prop) (e : Xc → Lg → Prop), Led K F L H ∧ Reps K F ds vs ∧ S ds L q e ∧
  (∀ r L' F' v H', q r L' → Same F F' → Led K F' L' H' → Rep K F' r v → Q v H') ∧ (∀ x L' F' od H', e x L' → Same F F' → Led K F' L' H' → XRep K F' H' x od → E x.c od H')
def ZW (K : PySem.W.Frag) (F0 : Hp) (Z : Xc → Gm → Lg → Prop) : WX := fun cls od σ H => ∃ x Γ L F, x.c = cls ∧ Z x Γ L ∧ At K F0 F Γ L σ H ∧ XRep K F H x od
abbrev Z0 : Xc → Gm → Lg → Prop := fun _ _ _ => False
theorem takesZ0 {X : Cx} {F0 : Hp} : Takes X (ZW X.K F0 Z0) := takes0.imp fun _ _ _ _ ⟨_, _, _, _, _, z, _⟩ => z
/-- a def of the module, by its name -/
structure Cal (P : Program) (w : World) (K : PySem.W.Frag) (mg : Str → Option Value) (base : Heap) (n : Nat) (x : Str) (ps : List Str) (S : SpD) : Prop where
  ex : ∃ f fd, mg x = some (.ref f) ∧ PySem.W.keepIn K (.ref f) = true ∧ Binds K fd ps [] ∧ FnOk P w K mg base (L2.CX P w) n f fd ps (spOf K S)
abbrev CalX (X : Cx) (n : Nat) (x : Str) (ps : List Str) (S : SpD) : Prop := Cal X.prog X.w X.K X.mg X.base n x ps S

/-- the names of a def's frame -/
structure Cn (X : Cx) (N Nc : List Str) (sc : Scope) : Prop where
  n : X.N = N ++ Nc
  nd : (N ++ Nc).Nodup
  scp : X.env.scope = sc
  loc : ∀ x ∈ N, L2.Loc sc x
  fn : ∀ x, X.fn x = true
/-- a def's frame, not within an except suite; what an exception is to meet: Z -/
structure Cf (X : Cx) (N Nc : List Str) (sc : Scope) (F0 : Hp) (Z : Xc → Gm → Lg → Prop) : Prop extends Cn X N Nc sc where
  calm : X.calm = true
  own : PassesOwn (model X.prog X.w) X.A X.env X.xe
  tk : Takes X (ZW X.K F0 Z)
  stk : X.stack = X.env :: X.outer
  fr : X.env.frame = some X.env.locals
section
variable {X : Cx} {F0 : Hp} {Γ : Gm} {L : Lg} {k : D → Lg → Prop} {ka : List D → Lg → Prop} {kt : Bool → Lg → Prop} {e a b c : Expr} {es rest : List Expr} {pos : Pos} {N Nc : List Str} {sc : Scope} {Z : Xc → Gm → Lg → Prop}
theorem get_app {α : Type} {N Nc : List α} {i : Nat} {x : α} (h : N[i]? = some x) : (N ++ Nc)[i]? = some x := by
  obtain ⟨hl, _⟩ := List.getElem?_eq_some_iff.mp h
  rw [List.getElem?_append_left hl]
  exact h
theorem Cn.ne (c : Cn X N Nc sc) {i : Nat} {x : Str} (hi : N[i]? = some x) (hd : (x == ("__debug__" : Str)) = false) (hcd : (x == ("__classdict__" : Str)) = false) : PE X (.Name x pos) (tVar i) := by
  refine pe_var (by rw [c.n]; exact get_app hi) ?_ hd hcd
  rw [c.scp]
  rcases c.loc x (List.mem_of_getElem? hi) with h | h
  · exact .inl h
  · exact .inr (.inl h)
/-- a name of the def -/
theorem ek_n (c : Cn X N Nc sc) {i : Nat} {x : Str} {d : D} (g : Get Γ i (some d)) (h : k d L) (hi : N[i]? = some x := by rfl) (hd : (x == ("__debug__" : Str)) = false := by decide) (hcd : (x == ("__classdict__" : Str)) = false := by decide) : EvK X F0 (.Name x pos) Γ L k :=
  ek_v (c.ne hi hd hcd) g h
/-! arguments -/
theorem ea_nil (h : ka [] L) : EaK X F0 [] Γ L ka := fun F σ H Q E q => wpA.of pa_nil (q [] L F [] H h E (Same.refl F) .nil)
theorem ea_cons (h : EvK X F0 e Γ L fun d L1 => EaK X F0 es Γ L1 fun ds L2 => ka (d :: ds) L2) (hs : starEach (e :: es) X.env = (false, eval e X.env) :: starEach es X.env := by rfl) : EaK X F0 (e :: es) Γ L ka := fun F σ H Q E q =>
  wpA.of (pa_cons we wa hs) (h F σ H _ E fun d L1 F1 v H1 h1 E1 s1 r1 => h1 F1 σ H1 _ E1 fun ds L2 F2 vs H2 h2 E2 s2 r2 => q (d :: ds) L2 F2 (v :: vs) H2 h2 E2 (s1.trans s2) (.cons (r1.mono s2) r2))
/-! displays -/
theorem ek_tup {x1} (h : EaK X F0 es Γ L fun ds L' => ds.length ≤ sizeLine ∧ k (.tup ds) L') : EvK X F0 (.Tuple es x1 pos) Γ L k := fun F σ H Q E q =>
  wpE.of (pe_tup wa) (h F σ H _ E fun ds L1 F1 vs H1 ⟨hz, h1⟩ E1 s1 r1 => ⟨by rw [← r1.length]; exact hz, fun p hp =>
    have s2 : Same F1 (upd F1 p (.tup vs)) := same_new (E1.led.free hp)
    q _ L1 _ _ _ h1 ⟨E1.ge.trans s2, E1.led.new hp, E1.sl.mono s2⟩ (s1.trans s2) (.tup (.inl (.inl upd_same)) (r1.mono s2))⟩)
theorem ek_lst (h : EaK X F0 es Γ L fun ds L' => ds.length ≤ sizeLine ∧ k (.lst ds) L') : EvK X F0 (.List es pos) Γ L k := fun F σ H Q E q =>
  wpE.of (pe_lst wa) (h F σ H _ E fun ds L1 F1 vs H1 ⟨hz, h1⟩ E1 s1 r1 => ⟨by rw [← r1.length]; exact hz, fun p hp =>
    have s2 : Same F1 (upd F1 p (.lst vs)) := same_new (E1.led.free hp)
    q _ L1 _ _ _ h1 ⟨E1.ge.trans s2, E1.led.new hp, E1.sl.mono s2⟩ (s1.trans s2) (.lst (.inl (.inl upd_same)) (r1.mono s2))⟩)
/-- a list that will be changed -/
theorem ek_lstO (h : EaK X F0 es Γ L fun ds L' => ds.length ≤ sizeLine ∧ ∀ p, k (.ref p) ((p, .lst ds) :: L')) : EvK X F0 (.List es pos) Γ L k := fun F σ H Q E q =>
  wpE.of (pe_lst wa) (h F σ H _ E fun ds L1 F1 vs H1 ⟨hz, h1⟩ E1 s1 r1 => ⟨by rw [← r1.length]; exact hz, fun p hp =>
    q _ _ F1 _ _ (h1 p) ⟨E1.ge, E1.led.newL hp r1, E1.sl⟩ s1 .ref⟩)
/-! a def of the module -/
theorem ek_call {x : Str} {n : Nat} {ps : List Str} {S : SpD} {p : Pos} (tk : Takes X (ZW X.K F0 Z)) (G : CalX X n x ps S) (hr : Room n X.A) (h : EaK X F0 (e :: es) Γ L fun ds L1 => S ds L1 k fun x L2 => Z x Γ L2) (hg : Gl X x)
    (hdb : (x == ("__debug__" : Str)) = false := by decide) (he : starEach (e :: es) X.env = (false, eval e X.env) :: starEach es X.env := by rfl) (hpl : (backTo pos (starEach es X.env)).any (·.1) = false := by rfl) :
    EvK X F0 (.Call (.Name x p) (e :: es) [] pos) Γ L k := fun F σ H Q E q => by
  obtain ⟨f, fd, hm, hk, hb, G⟩ := G.ex
  refine wpE.of (pe_callS (E := L2.WE (ZW X.K F0 Z)) G hr hg hm hk hb (fun σ => passAt tk σ) wa hdb he hpl) ?_
  refine h F σ H _ E fun ds L1 F1 vs H1 h1 E1 s1 r1 => ?_
  exact ⟨F1, ds, L1, k, fun x L2 => Z x Γ L2, E1.led, r1, h1, fun r L' F' v H' hq s2 l2 r2 => q r L' F' v H' hq ⟨E1.ge.trans s2, l2, E1.sl.mono s2⟩ (s1.trans s2) r2,
    fun x L' F' od H' he s2 l2 x2 => ⟨x, Γ, L', F', rfl, he, ⟨E1.ge.trans s2, l2, E1.sl.mono s2⟩, x2⟩⟩
theorem ek_call0 {x : Str} {n : Nat} {ps : List Str} {S : SpD} {p : Pos} (G : CalX X n x ps S) (hr : Room n X.A) (h : S [] L k fun _ _ => False) (hg : Gl X x)
    (hdb : (x == ("__debug__" : Str)) = false := by decide) : EvK X F0 (.Call (.Name x p) [] [] pos) Γ L k := fun F σ H Q E q => by
  obtain ⟨f, fd, hm, hk, hb, G⟩ := G.ex
  refine wpE.of (pe_call0 G hr hg hm hk hb .nil passL hdb) ?_
  exact ⟨F, [], L, k, fun _ _ => False, E.led, .nil, h, fun r L' F' v H' hq s2 l2 r2 => q r L' F' v H' hq ⟨E.ge.trans s2, l2, E.sl.mono s2⟩ s2 r2, fun _ _ _ _ _ he => he.elim⟩
/-! a built-in's call -/
theorem ek_cb {x : Str} {id : String} {r : List V → Hp → VK → Prop} {p : Pos} (hc : CallR X (.builtin id) r) (hm : X.mg x = none) (hv : bootBuiltins x = some (.builtin id))
    {P : List D → Lg → (D → Prop) → Prop}
    (hr : ∀ F L' σ H ds vs (kk : D → Prop) (Q : VK), At X.K F0 F Γ L' σ H → Reps X.K F ds vs → P ds L' kk →
      (∀ d F' v' H', kk d → At X.K F0 F' Γ L' σ H' → Same F F' → Rep X.K F' d v' → Q v' H') → r vs H Q)
    (h : EaK X F0 (e :: es) Γ L fun ds L1 => P ds L1 fun d => k d L1) (hg : Gl X x) (hn : x ≠ "__name__" := by decide) (hdb : (x == ("__debug__" : Str)) = false := by decide)
    (he : starEach (e :: es) X.env = (false, eval e X.env) :: starEach es X.env := by rfl) (hpl : (backTo pos (starEach es X.env)).any (·.1) = false := by rfl) : EvK X F0 (.Call (.Name x p) (e :: es) [] pos) Γ L k := fun F σ H Q E q =>
  wpE.of (pe_callB hc hg hm hv wa hn hdb he hpl) (h F σ H _ E fun ds L1 F1 vs H1 h1 E1 s1 r1 => hr F1 L1 σ H1 ds vs _ Q E1 r1 h1 fun d F2 v H2 h2 E2 s2 r2 => q d L1 F2 v H2 h2 E2 (s1.trans s2) r2)
theorem ek_ct {x : Str} {T : String} {r : List V → Hp → VK → Prop} {p : Pos} (hc : CallR X (.type T) r) (hm : X.mg x = none) (hv : bootBuiltins x = some (.type T))
    {P : List D → Lg → (D → Prop) → Prop}
    (hr : ∀ F L' σ H ds vs (kk : D → Prop) (Q : VK), At X.K F0 F Γ L' σ H → Reps X.K F ds vs → P ds L' kk →
      (∀ d F' v' H', kk d → At X.K F0 F' Γ L' σ H' → Same F F' → Rep X.K F' d v' → Q v' H') → r vs H Q)
    (h : EaK X F0 (e :: es) Γ L fun ds L1 => P ds L1 fun d => k d L1) (hg : Gl X x) (hn : x ≠ "__name__" := by decide) (hdb : (x == ("__debug__" : Str)) = false := by decide)
    (he : starEach (e :: es) X.env = (false, eval e X.env) :: starEach es X.env := by rfl) (hpl : (backTo pos (starEach es X.env)).any (·.1) = false := by rfl) : EvK X F0 (.Call (.Name x p) (e :: es) [] pos) Γ L k := fun F σ H Q E q =>
  wpE.of (pe_callTy hc hg hm hv wa hn hdb he hpl) (h F σ H _ E fun ds L1 F1 vs H1 h1 E1 s1 r1 => hr F1 L1 σ H1 ds vs _ Q E1 r1 h1 fun d F2 v H2 h2 E2 s2 r2 => q d L1 F2 v H2 h2 E2 (s1.trans s2) r2)
/-! tests and truth values -/
theorem et_v (h : EvK X F0 e Γ L fun d L' => ∃ b, d = .bl b ∧ kt b L') (he : ∀ whole, isTrue e X.env whole = (do let v ← whole; standAt e.pos; holding [v] (truthy v)) := by intro _; rfl) : EtK X F0 e Γ L kt := fun F σ H Q E q =>
  wpT.of (pt_val we he) (h F σ H _ E fun d L1 F1 v H1 ⟨b, e1, h1⟩ E1 s1 r1 => by
    subst e1
    cases r1
    exact ⟨b, rfl, q b L1 F1 H1 h1 E1 s1⟩)
theorem et_and1 (h : EtK X F0 a Γ L kt) : EwK X F0 (.BoolOp .And [a] pos) Γ L kt := fun F σ H Q E q => wpW.of (pw_and1 wt) (h F σ H Q E q)
theorem et_or1 (h : EtK X F0 a Γ L kt) : EwK X F0 (.BoolOp .Or [a] pos) Γ L kt := fun F σ H Q E q => wpW.of (pw_or1 wt) (h F σ H Q E q)
theorem et_andw (h : EtK X F0 a Γ L fun x L1 => (x = true → EwK X F0 (.BoolOp .And (b :: rest) pos) Γ L1 kt) ∧ (x = false → kt false L1)) : EwK X F0 (.BoolOp .And (a :: b :: rest) pos) Γ L kt := fun F σ H Q E q =>
  wpW.of (pw_and wt ww) (h F σ H _ E fun x L1 F1 H1 ⟨h1, h2⟩ E1 s1 => by
    cases x with
    | true => exact h1 rfl F1 σ H1 Q E1 fun b L2 F2 H2 h3 E2 s2 => q b L2 F2 H2 h3 E2 (s1.trans s2)
    | false => exact q false L1 F1 H1 (h2 rfl) E1 s1)
theorem et_orw (h : EtK X F0 a Γ L fun x L1 => (x = true → kt true L1) ∧ (x = false → EwK X F0 (.BoolOp .Or (b :: rest) pos) Γ L1 kt)) : EwK X F0 (.BoolOp .Or (a :: b :: rest) pos) Γ L kt := fun F σ H Q E q =>
  wpW.of (pw_or wt ww) (h F σ H _ E fun x L1 F1 H1 ⟨h1, h2⟩ E1 s1 => by
    cases x with
    | true => exact q true L1 F1 H1 (h1 rfl) E1 s1
    | false => exact h2 rfl F1 σ H1 Q E1 fun b L2 F2 H2 h3 E2 s2 => q b L2 F2 H2 h3 E2 (s1.trans s2))
theorem et_w (h : EwK X F0 e Γ L kt) : EtK X F0 e Γ L kt := fun F σ H Q E q => wpT.of (PW.pt ww) (h F σ H Q E q)
theorem et_not (h : EtK X F0 a Γ L fun b L' => kt (!b) L') : EtK X F0 (.UnaryOp .Not a pos) Γ L kt := fun F σ H Q E q =>
  wpT.of (pt_not wt) (h F σ H _ E fun b L1 F1 H1 h1 E1 s1 => q _ L1 F1 H1 h1 E1 s1)
theorem ek_and {op} (h : EvK X F0 a Γ L k) : EvK X F0 (.BoolOp op [a] pos) Γ L k := fun F σ H Q E q => wpE.of (pe_one we) (h F σ H Q E q)
theorem ek_andv (h : EvK X F0 a Γ L fun x L1 => ∃ t, x = .bl t ∧ (t = true → EvK X F0 (.BoolOp .And (b :: rest) pos) Γ L1 k) ∧ (t = false → k (.bl false) L1)) : EvK X F0 (.BoolOp .And (a :: b :: rest) pos) Γ L k := fun F σ H Q E q =>
  wpE.of (pe_and we we) (h F σ H _ E fun x L1 F1 v H1 ⟨t, e1, h1, h2⟩ E1 s1 r1 => by
    subst e1
    cases r1
    refine ⟨t, rfl, ?_⟩
    cases t with
    | true =>
      rw [if_pos rfl]
      exact h1 rfl F1 σ H1 Q E1 fun d L2 F2 v2 H2 h3 E2 s2 r2 => q d L2 F2 v2 H2 h3 E2 (s1.trans s2) r2
    | false =>
      rw [if_neg Bool.false_ne_true]
      exact q _ L1 F1 _ H1 (h2 rfl) E1 s1 .bl)
theorem ek_orv (h : EvK X F0 a Γ L fun x L1 => ∃ t, x = .bl t ∧ (t = true → k (.bl true) L1) ∧ (t = false → EvK X F0 (.BoolOp .Or (b :: rest) pos) Γ L1 k)) : EvK X F0 (.BoolOp .Or (a :: b :: rest) pos) Γ L k := fun F σ H Q E q =>
  wpE.of (pe_or we we) (h F σ H _ E fun x L1 F1 v H1 ⟨t, e1, h1, h2⟩ E1 s1 r1 => by
    subst e1
    cases r1
    refine ⟨t, rfl, ?_⟩
    cases t with
    | true =>
      rw [if_pos rfl]
      exact q _ L1 F1 _ H1 (h1 rfl) E1 s1 .bl
    | false =>
      rw [if_neg Bool.false_ne_true]
      exact h2 rfl F1 σ H1 Q E1 fun d L2 F2 v2 H2 h3 E2 s2 r2 => q d L2 F2 v2 H2 h3 E2 (s1.trans s2) r2)
theorem ek_not (h : EvK X F0 a Γ L fun x L1 => ∃ t, x = .bl t ∧ k (.bl (!t)) L1) : EvK X F0 (.UnaryOp .Not a pos) Γ L k := fun F σ H Q E q =>
  wpE.of (pe_not we) (h F σ H _ E fun x L1 F1 v H1 ⟨t, e1, h1⟩ E1 s1 r1 => by
    subst e1
    cases r1
    exact ⟨t, rfl, q _ L1 F1 _ H1 h1 E1 s1 .bl⟩)
theorem ek_if {c : Expr} (h : EtK X F0 c Γ L fun t L1 => (t = true → EvK X F0 a Γ L1 k) ∧ (t = false → EvK X F0 b Γ L1 k)) : EvK X F0 (.IfExp c a b pos) Γ L k := fun F σ H Q E q =>
  wpE.of (pe_ifExp wt we we) (h F σ H _ E fun t L1 F1 H1 ⟨h1, h2⟩ E1 s1 => by
    cases t with
    | true =>
      rw [if_pos rfl]
      exact h1 rfl F1 σ H1 Q E1 fun d L2 F2 v2 H2 h3 E2 s2 r2 => q d L2 F2 v2 H2 h3 E2 (s1.trans s2) r2
    | false =>
      rw [if_neg Bool.false_ne_true]
      exact h2 rfl F1 σ H1 Q E1 fun d L2 F2 v2 H2 h3 E2 s2 r2 => q d L2 F2 v2 H2 h3 E2 (s1.trans s2) r2)
/-! comparisons -/
theorem ek_cmp {op : CmpOp} {r : R2} (ho : OpR X (compareOp op) r) {P : D → D → Lg → (D → Prop) → Prop}
    (hr : ∀ F L' σ H x y v u (kk : D → Prop) (Q : VK), At X.K F0 F Γ L' σ H → Rep X.K F x v → Rep X.K F y u → P x y L' kk →
      (∀ d F' v' H', kk d → At X.K F0 F' Γ L' σ H' → Same F F' → Rep X.K F' d v' → Q v' H') → r v u H Q)
    (h : EvK X F0 a Γ L fun x L1 => EvK X F0 b Γ L1 fun y L2 => P x y L2 fun d => k d L2) (hm : behindInMarks op b = false) : EvK X F0 (.Compare a [op] [b] pos) Γ L k := fun F σ H Q E q =>
  wpE.of (pe_cmpR ho we we hm) (h F σ H _ E fun x L1 F1 v H1 h1 E1 s1 r1 => h1 F1 σ H1 _ E1 fun y L2 F2 u H2 h2 E2 s2 r2 =>
    hr F2 L2 σ H2 x y v u _ Q E2 (r1.mono s2) r2 h2 fun d F3 v3 H3 h3 E3 s3 r3 => q d L2 F3 v3 H3 h3 E3 (s1.trans (s2.trans s3)) r3)
end

/-! ### statements -/
section
variable {X : Cx} {F0 : Hp} {Γ : Gm} {L : Lg} {k : Ks} {e a b c : Expr} {st : Stmt} {rest body orelse : List Stmt} {pos p' : Pos} {N Nc : List Str} {sc : Scope} {Z : Xc → Gm → Lg → Prop}
theorem bk_nil (h : k.nx Γ L) : BK X F0 [] Γ L k := fun F σ H Dn E q => wpB.of pss_nil (q.nx Γ L F σ H h E)
theorem bk_cons (h : SK X F0 st Γ L { k with nx := fun Γ' L' => BK X F0 rest Γ' L' k }) : BK X F0 (st :: rest) Γ L k := fun F σ H Dn E q =>
  wpB.of (pss_cons ws wb) (h F σ H _ E ⟨fun Γ' L' F' σ' H' h' E' => h' F' σ' H' Dn E' q, q.rt, q.bk, q.ct⟩)
/-- a cut: what holds behind the first statement is told -/
theorem bk_cut (P : Gm → Lg → Prop) (h : SK X F0 st Γ L { k with nx := P }) (h2 : ∀ Γ' L', P Γ' L' → BK X F0 rest Γ' L' k) : BK X F0 (st :: rest) Γ L k := fun F σ H Dn E q =>
  wpB.of (pss_cons ws wb) (h F σ H _ E ⟨fun Γ' L' F' σ' H' h' E' => h2 Γ' L' h' F' σ' H' Dn E' q, q.rt, q.bk, q.ct⟩)
theorem bk_one (h : SK X F0 st Γ L k) : BK X F0 [st] Γ L k := fun F σ H Dn E q => wpB.of (pss_one ws) (h F σ H Dn E q)
theorem sk_pass (h : k.nx Γ L) : SK X F0 (.Pass pos) Γ L k := fun F σ H Dn E q => wpS.of ps_pass (q.nx Γ L F σ H h E)
theorem sk_break (h : k.bk Γ L) : SK X F0 (.Break pos) Γ L k := fun F σ H Dn E q => wpS.of ps_break (q.bk Γ L F σ H h E)
theorem sk_continue (h : k.ct Γ L) : SK X F0 (.Continue pos) Γ L k := fun F σ H Dn E q => wpS.of ps_continue (q.ct Γ L F σ H h E)
theorem sk_ret (h : EvK X F0 e Γ L k.rt) : SK X F0 (.Return (some e) pos) Γ L k := fun F σ H Dn E q =>
  wpS.of (ps_ret we) (h F σ H _ E fun d L1 F1 v H1 h1 E1 s1 r1 => q.rt d L1 F1 v H1 h1 E1.ge E1.led r1)
theorem sk_retN (h : k.rt .non L) : SK X F0 (.Return none pos) Γ L k := fun F σ H Dn E q => wpS.of ps_retN (q.rt .non L F .non H h E.ge E.led .non)
theorem sk_expr (h : EvK X F0 e Γ L fun _ L' => k.nx Γ L') (hs : swapsWith e none pos.line X.env = pure false := by rfl) : SK X F0 (.Expr e pos) Γ L k := fun F σ H Dn E q =>
  wpS.of (ps_expr we hs) (h F σ H _ E fun d L1 F1 v H1 h1 E1 s1 r1 => q.nx Γ L1 F1 σ H1 h1 E1)
theorem sk_if (h : EtK X F0 c Γ L fun t L1 => (t = true → BK X F0 body Γ L1 k) ∧ (t = false → BK X F0 orelse Γ L1 k)) : SK X F0 (.If c body orelse pos) Γ L k := fun F σ H Dn E q =>
  wpS.of (ps_if wt wb wb) (h F σ H _ E fun t L1 F1 H1 ⟨h1, h2⟩ E1 s1 => by
    cases t with
    | true =>
      rw [if_pos rfl]
      exact h1 rfl F1 σ H1 Dn E1 q
    | false =>
      rw [if_neg Bool.false_ne_true]
      exact h2 rfl F1 σ H1 Dn E1 q)
theorem sk_set (c : Cn X N Nc sc) {i : Nat} {x : Str} (h : EvK X F0 e Γ L fun d L' => ∃ Γ', Put Γ i (some d) Γ' ∧ k.nx Γ' L') (hi : N[i]? = some x := by rfl)
    (hs : swapsWith e (some (.Name x p')) pos.line X.env = pure false := by rfl) (hw : swappedStores [.Name x p'] e X.env = pure none := by rfl) : SK X F0 (.Assign [.Name x p'] e pos) Γ L k := fun F σ H Dn E q =>
  wpS.of (ps_set (i := i) (by rw [c.n]; exact c.nd) (by rw [c.n]; exact get_app hi) (by rw [c.scp]; exact c.loc x (List.mem_of_getElem? hi)) we hs (.inl (c.fn x)))
    (h F σ H _ E fun d L1 F1 v H1 ⟨Γ', hp, h1⟩ E1 s1 r1 => q.nx Γ' L1 F1 _ H1 h1 ⟨E1.ge, E1.led, E1.sl.put r1 hp⟩)
theorem sk_while (own : PassesOwn (model X.prog X.w) X.A X.env X.xe) (W : Nat → Gm → Lg → Prop) (m : Nat) (h0 : W m Γ L)
    (h : ∀ m Γ L, W m Γ L → EtK X F0 c Γ L fun t L1 => (t = true → BK X F0 body Γ L1 { k with nx := fun Γ' L' => ∃ m', m' < m ∧ W m' Γ' L', ct := fun Γ' L' => ∃ m', m' < m ∧ W m' Γ' L', bk := k.nx }) ∧ (t = false → k.nx Γ L1)) :
    SK X F0 (.While c body [] pos) Γ L k := fun F σ H Dn E q =>
  wpS.of (ps_while own wt wb) ⟨fun m σ H => ∃ F Γ L, W m Γ L ∧ At X.K F0 F Γ L σ H, ⟨m, F, Γ, L, h0, E⟩, fun m σ H ⟨F, Γ, L, hW, E⟩ => h m Γ L hW F σ H _ E fun t L1 F1 H1 ⟨h1, h2⟩ E1 s1 => by
    cases t with
    | true =>
      rw [if_pos rfl]
      refine ⟨fun σ' H' => ∃ m', m' < m ∧ ∃ F Γ L, W m' Γ L ∧ At X.K F0 F Γ L σ' H', fun σ' H' ⟨m', hm, x⟩ => ⟨m', hm, x⟩, ?_⟩
      exact h1 rfl F1 σ H1 _ E1 ⟨fun Γ L F σ H ⟨m', hm, hW⟩ E => ⟨m', hm, F, Γ, L, hW, E⟩, q.rt, q.nx, fun Γ L F σ H ⟨m', hm, hW⟩ E => ⟨m', hm, F, Γ, L, hW, E⟩⟩
    | false =>
      rw [if_neg Bool.false_ne_true]
      exact q.nx Γ L1 F1 σ H1 (h2 rfl) E1⟩
/-- raise B('..') -/
theorem sk_raise {x m : Str} {j : Nat} {p p2 pos2 : Pos} {C : Addr} (hc : X.calm = true) (tk : Takes X (ZW X.K F0 Z)) (q : PySem.W.excIn X.K C He.veBase "ValueError.__new__" = true) (gC : X.mg x = some (.ref C)) (kC : PySem.W.keepIn X.K (.ref C) = true) (r : Raises X (.ref C)) (hg : Gl X x)
    (h : Z ⟨.ref C, none⟩ Γ L) (hdb : (x == ("__debug__" : Str)) = false := by decide) : SK X F0 (.Raise (some (.Call (.Name x p) [.Constant (.str m) j p2] [] pos)) none pos2) Γ L k := fun F σ H Dn E _ =>
  wpS.of (ps_raise hc tk (pmk_own PySem.F.excBase_ValueError q gC kC r hg hdb)) ⟨⟨.ref C, none⟩, Γ, L, F, rfl, h, E, rfl⟩
/-- try: body except x as n: suite -/
theorem sk_try_as {x n : Str} {cv : Value} {i : Nat} {b₀ : Stmt} {suite : List Stmt} {np pos' : Pos} (cf : Cf X N Nc sc F0 Z) (hi : N[i]? = some n) (hln : sc.names.lookup n = some .local) (hc : Names X x cv)
    (hb : ∀ (pn : List (Addr × Obj)) (xe : Value → Shared → Prop) (Z' : Xc → Gm → Lg → Prop), Cf (X.tr pn xe) N Nc sc F0 Z' →
      (∀ y Γ' L', (∃ b, PySem.W.exmOne X.K y.c cv = some b ∧
        (b = true → ∀ (a : Addr) (oe : Obj) (pn : List (Addr × Obj)), (y.fs = none → Zc y.c none oe) → (∃ vs, oe.data = .fields vs) → Cn (X.suite a ((a, oe) :: pn)) N Nc sc → ∃ Γ1, Put Γ' i (some (.ref a)) Γ1 ∧ BK (X.suite a ((a, oe) :: pn)) F0 (b₀ :: suite) Γ1 L'
          { nx := fun Γ2 L2 => ∃ Γ3, Put Γ2 i none Γ3 ∧ k.nx Γ3 L2, rt := k.rt, bk := fun Γ2 L2 => ∃ Γ3, Put Γ2 i none Γ3 ∧ k.bk Γ3 L2, ct := fun Γ2 L2 => ∃ Γ3, Put Γ2 i none Γ3 ∧ k.ct Γ3 L2 }) ∧
        (b = false → Z y Γ' L')) → Z' y Γ' L') → BK (X.tr pn xe) F0 body Γ L k) :
    SK X F0 (.Try body [.ExceptHandler (some (.Name x np)) (some n) (b₀ :: suite) pos'] [] [] pos) Γ L k := fun F σ H Dn E q => by
  have hi' : X.N[i]? = some n := by rw [cf.n]; exact get_app hi
  refine wpS.of (ps_try_as (i := i) (Wout := ZW X.K F0 Z)
    (tb := fun W Dn σ H => ∀ (pn : List (Addr × Obj)) (xe : Value → Shared → Prop), Takes (X.tr pn xe) W → PassesOwn (model X.prog X.w) X.A X.env xe → wpB (X.tr pn xe) body Dn σ H)
    (ts := fun a cls d Dn σ H => ∀ (oe : Obj) (pn : List (Addr × Obj)), Zc cls d oe → (∃ vs, oe.data = .fields vs) → wpB (X.suite a ((a, oe) :: pn)) (b₀ :: suite) Dn σ H)
    cf.stk cf.fr (by rw [cf.n]; exact cf.nd) hi' (by show X.env.scope.names.lookup n = _; rw [cf.scp]; exact hln) hc cf.tk
    (fun W pn xe tk own => ⟨fun pins s σ H Dn I h => h pn xe tk own pins s I⟩) (fun a oe cls d pn hz hf => ⟨fun pins s σ H Dn I h => h oe pn hz hf pins s I⟩)) ?_
  intro pn xe tk own
  refine hb pn xe (fun y Γ' L' => ∃ b, PySem.W.exmOne X.K y.c cv = some b ∧
        (b = true → ∀ (a : Addr) (oe : Obj) (pn : List (Addr × Obj)), (y.fs = none → Zc y.c none oe) → (∃ vs, oe.data = .fields vs) → Cn (X.suite a ((a, oe) :: pn)) N Nc sc → ∃ Γ1, Put Γ' i (some (.ref a)) Γ1 ∧ BK (X.suite a ((a, oe) :: pn)) F0 (b₀ :: suite) Γ1 L'
          { nx := fun Γ2 L2 => ∃ Γ3, Put Γ2 i none Γ3 ∧ k.nx Γ3 L2, rt := k.rt, bk := fun Γ2 L2 => ∃ Γ3, Put Γ2 i none Γ3 ∧ k.bk Γ3 L2, ct := fun Γ2 L2 => ∃ Γ3, Put Γ2 i none Γ3 ∧ k.ct Γ3 L2 }) ∧
        (b = false → Z y Γ' L')) ⟨⟨cf.n, cf.nd, cf.scp, cf.loc, cf.fn⟩, cf.calm, own, tk.imp ?_, cf.stk, cf.fr⟩ (fun _ _ _ h => h) F σ H Dn E ⟨q.nx, q.rt, q.bk, q.ct⟩
  rintro cls od σ' H' ⟨y, Γ', L', F', rfl, ⟨b, h1, h2, h3⟩, E', x'⟩
  refine ⟨b, h1, fun hb a na => ?_, fun hb => ⟨y, Γ', L', F', rfl, h3 hb, E', x'⟩⟩
  intro oe pn hz hf
  obtain ⟨Γ1, p1, h4⟩ := h2 hb a oe pn (fun hn => by
    have e : od = none := by
      unfold XRep at x'
      rw [hn] at x'
      exact x'
    rw [e] at hz
    exact hz) hf ⟨cf.n, cf.nd, cf.scp, cf.loc, cf.fn⟩
  refine h4 F' _ H' _ ⟨E'.ge, E'.led, E'.sl.put .ref p1⟩ ⟨?_, q.rt, ?_, ?_⟩
  · rintro Γ2 L2 F2 σ2 H2 ⟨Γ3, p3, h5⟩ E2
    exact q.nx Γ3 L2 F2 _ H2 h5 ⟨E2.ge, E2.led, E2.sl.out p3⟩
  · rintro Γ2 L2 F2 σ2 H2 ⟨Γ3, p3, h5⟩ E2
    exact q.bk Γ3 L2 F2 _ H2 h5 ⟨E2.ge, E2.led, E2.sl.out p3⟩
  · rintro Γ2 L2 F2 σ2 H2 ⟨Γ3, p3, h5⟩ E2
    exact q.ct Γ3 L2 F2 _ H2 h5 ⟨E2.ge, E2.led, E2.sl.out p3⟩
end
/-! ### a def -/
theorem reps_slots {K : PySem.W.Frag} {F : Hp} : ∀ {ds : List D} {vs : List V} (n : Nat), Reps K F ds vs → Slots K F (ds.map some ++ List.replicate n none) (vs.map some ++ List.replicate n none)
  | _, _, n, .nil => by
    induction n with
    | zero => exact .nil
    | succ n ih => exact .no ih
  | _, _, n, .cons r t => .so r (reps_slots n t)
def locs (N : List Str) (sc : Scope) : Bool := N.all fun x => decide (sc.names.lookup x = some .local) || decide (sc.names.lookup x = some .cell)
theorem locs_ok {N : List Str} {sc : Scope} (h : locs N sc = true) : ∀ x ∈ N, L2.Loc sc x := fun x hx => by
  have := List.all_eq_true.mp h x hx
  simp only [Bool.or_eq_true, decide_eq_true_eq] at this
  exact this
/-- the def at f keeps the promise S -/
theorem fn_ok {P : Program} {w : World} {K : PySem.W.Frag} {mg : Str → Option Value} {base : Heap} {x qual : Str} {params : Arguments} {body : List Stmt} {scope : Scope} {f : Addr} {fd : FuncData} {N Nc ps : List Str} {n : Nat} {S : SpD}
    (F : FunD K x qual params body scope [] [] f fd) (Sc : FnScope (N ++ Nc) ps scope) (hl : locs N scope = true) (hlen : ∀ ds L q e, S ds L q e → ds.length = ps.length)
    (hb : ∀ (X : Cx) (F0 : Hp) (ds : List D) (L : Lg) (q : D → Lg → Prop) (e : Xc → Lg → Prop), X.prog = P → X.w = w → X.K = K → X.mg = mg → X.base = base → Cf X N Nc scope F0 (fun y _ L' => e y L') → Room n X.A → S ds L q e →
      BK X F0 body (ds.map some ++ List.replicate ((N ++ Nc).length - ps.length) none) L { nx := fun _ L' => q .non L', rt := q }) :
    FnOk P w K mg base (L2.CX P w) (n + 1) f fd ps (spOf K S) := by
  refine F.ok Sc (fun vs H Q E h => ?_) (fun cdv A outer s H vs Q E hr h => ?_)
  · obtain ⟨F, ds, L, q, e, l, r, hS, _⟩ := h
    rw [← r.length]
    exact hlen _ _ _ _ hS
  · obtain ⟨F1, ds, L, q, e, l, r, hS, k1, k2⟩ := h
    have hlen' := hlen _ _ _ _ hS
    refine ⟨_, wb, ?_⟩
    have tk : Takes (cxOf (L2.CX P w) P w K mg base (N ++ Nc) qual scope f cdv A outer s H E) (fun cls d _ H => E cls d H) := takes_of rfl rfl rfl rfl
    have cf : Cf (cxOf (L2.CX P w) P w K mg base (N ++ Nc) qual scope f cdv A outer s H E) N Nc scope F1 (fun y _ L' => e y L') :=
      ⟨⟨rfl, Sc.nd, rfl, locs_ok hl, fun _ => rfl⟩, rfl, passes_of rfl, tk.imp (fun cls od σ H' ⟨y, Γ, L', F', ec, he, E', x'⟩ => by
        subst ec
        exact k2 y L' F' od H' he E'.ge E'.led x'), rfl, rfl⟩
    have E1 : At K F1 F1 (ds.map some ++ List.replicate ((N ++ Nc).length - ps.length) none) L (L2.start (N ++ Nc) vs) H := ⟨Same.refl F1, l, by
      have hv : (N ++ Nc).length - ps.length = (N ++ Nc).length - vs.length := by rw [← r.length, hlen']
      unfold L2.start
      rw [hv]
      exact reps_slots _ r⟩
    exact hb (cxOf (L2.CX P w) P w K mg base (N ++ Nc) qual scope f cdv A outer s H E) F1 ds L q e rfl rfl rfl rfl rfl cf hr hS F1 _ H _ E1
      ⟨fun Γ L' F' σ H' h' E' => k1 .non L' F' .non H' h' E'.ge E'.led .non, fun d L' F' v H' h' s' l' r' => k1 d L' F' v H' h' s' l' r', fun _ _ _ _ _ h' _ => h'.elim, fun _ _ _ _ _ h' _ => h'.elim⟩
end Vs

set_option Elab.async false
set_option linter.all false
set_option maxRecDepth 100000
set_option maxHeartbeats 4000000
namespace Vs
open PySem PySem.Spec PyProof.Rows L2
/-! ### lists that are read: standing still, or of the ledger -/
inductive AsL (L : Lg) : D → List D → Prop
  | lst {ds : List D} : AsL L (.lst ds) ds
  | own {p : Addr} {ds : List D} {j : Nat} : Get L j (p, C.lst ds) → AsL L (.ref p) ds
theorem Get.mem {α : Type} {x : α} : ∀ {xs : List α} {i : Nat}, Get xs i x → x ∈ xs
  | _, _, .z => List.mem_cons_self
  | _, _, .s g => List.mem_cons_of_mem _ g.mem
section
variable {K : PySem.W.Frag} {F F' H : Hp} {L : Lg} {x : D} {v : V} {ds : List D}
theorem AsL.read (a : AsL L x ds) (l : Led K F L H) (r : Rep K F x v) : ∃ p xs, v = .ref p ∧ SqL K H p xs ∧ Reps K F ds xs := by
  cases a with
  | lst =>
    cases r with
    | lst h r => exact ⟨_, _, rfl, l.sub.seq h, r⟩
  | own g =>
    cases r
    obtain ⟨_, xs, h1, h2⟩ := l.ent _ g.mem
    exact ⟨_, xs, rfl, .inl (.inl h1), h2⟩
theorem Reps.at {i : Int} {d : D} {vs : List V} (r : Reps K F ds vs) (h : atI ds i = some d) : ∃ v, atI vs i = some v ∧ Rep K F d v := by
  unfold atI at h ⊢
  rw [r.length] at h
  cases e : ixN vs.length i with
  | none => rw [e] at h; cases h
  | some j =>
    rw [e] at h
    exact r.get h
def cutD (xs : List D) (lo hi : Option Int) : List D := (xs.drop (HT.sIx xs.length 0 lo)).take (HT.sIx xs.length xs.length hi - HT.sIx xs.length 0 lo)
theorem Reps.cut {vs : List V} {lo hi : Option Int} (r : Reps K F ds vs) : Reps K F (cutD ds lo hi) (cutV vs lo hi) := by
  unfold cutD cutV
  rw [r.length]
  exact (r.drop _).take _
end
theorem op_catQ {X : Cx} : OpR X (binaryOp .Add) (fun x y H Q => ∃ l b xs zs, x = .ref l ∧ y = .ref b ∧ SqL X.K H l xs ∧ SqL X.K H b zs ∧ xs.length + zs.length ≤ sizeLine ∧ ∀ p, H p = none → Q (.ref p) (upd H p (.lst (xs ++ zs)))) := by
  intro pins s σ H x y v u Q I rx ry h
  obtain ⟨l, b, xs, zs, rfl, rfl, hH, hB, hz, q⟩ := h
  cases rx
  cases ry
  obtain ⟨its, r, ⟨o1, n1, g1, c1, d1, e1⟩, hl⟩ := I.list hH
  obtain ⟨its2, r2, ⟨o2, n2, g2, c2, d2, e2⟩, hl2⟩ := I.list hB
  obtain ⟨oc, od, dt, sl⟩ := o1
  obtain ⟨oc2, od2, dt2, sl2⟩ := o2
  dsimp only at c1 e1 c2 e2
  subst c1 e1 c2 e2
  have hn1 := r.length
  have hn2 := r2.length
  have e : its.toArray ++ its2.toArray = (its ++ its2).toArray := by simp
  refine concat_meets ⟨_, g1, rfl⟩ ⟨_, g2, rfl⟩ noFill_list_add seq_list_add PySem.F.slot_list_add PySem.F.entry_list_add (PySem.F.args_list_add_2 _ _) (list_addW l b its.toArray its2.toArray n1 n2 od od2 sl sl2 (by simp only [List.size_toArray]; omega)) ⟨g1, g2, ?_⟩
  rw [e]
  exact ⟨.ref _, _, I.lnew (t' := s.toks) (r.append r2) (by rw [List.length_append]; omega), rfl, q _ I.fresh⟩
section
variable {X : Cx} {F0 : Hp} {Γ : Gm} {L : Lg} {k : D → Lg → Prop} {ka : List D → Lg → Prop} {kt : Bool → Lg → Prop} {e a b c : Expr} {es rest : List Expr} {pos p2 : Pos} {lo hi : Option Expr}
theorem At.new {K : PySem.W.Frag} {F0 F H : Hp} {Γ : Gm} {L : Lg} {σ : L2.St} {p : Addr} {o : HO} (E : At K F0 F Γ L σ H) (hp : H p = none) : At K F0 (upd F p o) Γ L σ (upd H p o) :=
  ⟨E.ge.trans (same_new (E.led.free hp)), E.led.new hp, E.sl.mono (same_new (E.led.free hp))⟩
theorem At.to {K : PySem.W.Frag} {F0 F F' H : Hp} {Γ : Gm} {L : Lg} {σ : L2.St} (E : At K F0 F Γ L σ H) (s : Same F F') {L' : Lg} {H' : Hp} (l : Led K F' L' H') : At K F0 F' Γ L' σ H' := ⟨E.ge.trans s, l, E.sl.mono s⟩
/-- xs + ys, lists -/
theorem ek_cat (h : EvK X F0 a Γ L fun x L1 => EvK X F0 b Γ L1 fun y L2 => ∃ ds es, AsL L2 x ds ∧ AsL L2 y es ∧ ds.length + es.length ≤ sizeLine ∧ k (.lst (ds ++ es)) L2) : EvK X F0 (.BinOp a .Add b pos) Γ L k := fun F σ H Q E q =>
  wpE.of (pe_op op_catQ we we) (h F σ H _ E fun x L1 F1 v H1 h1 E1 s1 r1 => h1 F1 σ H1 _ E1 fun y L2 F2 u H2 ⟨ds, es, a1, a2, hz, h2⟩ E2 s2 r2 => by
    obtain ⟨p, xs, rfl, hx, rx⟩ := a1.read E2.led (r1.mono s2)
    obtain ⟨p', ys, rfl, hy, ry⟩ := a2.read E2.led r2
    refine ⟨p, p', xs, ys, rfl, rfl, hx, hy, by rw [← rx.length, ← ry.length]; exact hz, fun n hn => ?_⟩
    have s3 : Same F2 (upd F2 n (.lst (xs ++ ys))) := same_new (E2.led.free hn)
    exact q _ L2 _ _ _ h2 (E2.new hn) (s1.trans (s2.trans s3)) (.lst (.inl (.inl upd_same)) ((rx.append ry).mono s3)))
theorem ek_catO (h : EvK X F0 a Γ L fun x L1 => EvK X F0 b Γ L1 fun y L2 => ∃ ds es, AsL L2 x ds ∧ AsL L2 y es ∧ ds.length + es.length ≤ sizeLine ∧ ∀ p, k (.ref p) ((p, .lst (ds ++ es)) :: L2)) : EvK X F0 (.BinOp a .Add b pos) Γ L k := fun F σ H Q E q =>
  wpE.of (pe_op op_catQ we we) (h F σ H _ E fun x L1 F1 v H1 h1 E1 s1 r1 => h1 F1 σ H1 _ E1 fun y L2 F2 u H2 ⟨ds, es, a1, a2, hz, h2⟩ E2 s2 r2 => by
    obtain ⟨p, xs, rfl, hx, rx⟩ := a1.read E2.led (r1.mono s2)
    obtain ⟨p', ys, rfl, hy, ry⟩ := a2.read E2.led r2
    refine ⟨p, p', xs, ys, rfl, rfl, hx, hy, by rw [← rx.length, ← ry.length]; exact hz, fun n hn => ?_⟩
    exact q _ _ F2 _ _ (h2 n) (E2.to (Same.refl F2) (E2.led.newL hn (rx.append ry))) (s1.trans s2) .ref)
theorem ek_cats (h : EvK X F0 a Γ L fun x L1 => ∃ i, x = .str i ∧ EvK X F0 b Γ L1 fun y L2 => ∃ j, y = .str j ∧ i.length + j.length ≤ sizeLine ∧ k (.str (i ++ j)) L2) : EvK X F0 (.BinOp a .Add b pos) Γ L k := fun F σ H Q E q =>
  wpE.of (pe_op op_add_str we we) (h F σ H _ E fun x L1 F1 v H1 ⟨i, e1, h1⟩ E1 s1 r1 => h1 F1 σ H1 _ E1 fun y L2 F2 u H2 ⟨j, e2, hc, h2⟩ E2 s2 r2 => by
    subst e1 e2
    cases r1
    cases r2
    exact ⟨i, j, rfl, rfl, hc, q _ L2 F2 _ H2 h2 E2 (s1.trans s2) .str⟩)
/-- xs[i] of a list, of a tuple, of a text -/
theorem ek_ix (h : EvK X F0 a Γ L fun x L1 => EvK X F0 b Γ L1 fun y L2 => ∃ ds i d, AsL L2 x ds ∧ y = .int i ∧ atI ds i = some d ∧ k d L2) (hs : PlainIx b) : EvK X F0 (.Subscript a b pos) Γ L k := fun F σ H Q E q =>
  wpE.of (pe_ix ix_list we we hs) (h F σ H _ E fun x L1 F1 v H1 h1 E1 s1 r1 => h1 F1 σ H1 _ E1 fun y L2 F2 u H2 ⟨ds, i, d, a1, e2, hd, h2⟩ E2 s2 r2 => by
    subst e2
    cases r2
    obtain ⟨p, xs, rfl, hx, rx⟩ := a1.read E2.led (r1.mono s2)
    obtain ⟨w, hw, rw_⟩ := rx.at hd
    exact ⟨p, xs, i, w, rfl, rfl, hx, hw, q d L2 F2 w H2 h2 E2 (s1.trans s2) rw_⟩)
theorem ek_ixT (h : EvK X F0 a Γ L fun x L1 => EvK X F0 b Γ L1 fun y L2 => ∃ ds i d, x = .tup ds ∧ y = .int i ∧ atI ds i = some d ∧ k d L2) (hs : PlainIx b) : EvK X F0 (.Subscript a b pos) Γ L k := fun F σ H Q E q =>
  wpE.of (pe_ix ix_tup we we hs) (h F σ H _ E fun x L1 F1 v H1 h1 E1 s1 r1 => h1 F1 σ H1 _ E1 fun y L2 F2 u H2 ⟨ds, i, d, e1, e2, hd, h2⟩ E2 s2 r2 => by
    subst e1 e2
    cases r2
    cases r1 with
    | tup hx rx =>
      obtain ⟨w, hw, rw_⟩ := rx.at hd
      exact ⟨_, _, i, w, rfl, rfl, seqT E2.led.sub (seqT s2 hx), hw, q d L2 F2 w H2 h2 E2 (s1.trans s2) (rw_.mono s2)⟩)
theorem ek_ixS (h : EvK X F0 a Γ L fun x L1 => EvK X F0 b Γ L1 fun y L2 => ∃ z i c, x = .str z ∧ y = .int i ∧ z.length ≤ sizeLine ∧ atI z.cps.toList i = some c ∧ k (.str ⟨#[c]⟩) L2) (hs : PlainIx b) : EvK X F0 (.Subscript a b pos) Γ L k := fun F σ H Q E q =>
  wpE.of (pe_ix ix_str we we hs) (h F σ H _ E fun x L1 F1 v H1 h1 E1 s1 r1 => h1 F1 σ H1 _ E1 fun y L2 F2 u H2 ⟨z, i, c, e1, e2, hz, hd, h2⟩ E2 s2 r2 => by
    subst e1 e2
    cases r2
    cases r1
    exact ⟨z, i, c, rfl, rfl, hz, hd, q _ L2 F2 _ H2 h2 E2 (s1.trans s2) .str⟩)
/-! slices -/
def wpO (X : Cx) (o : Option Expr) : TO := fun σ H Q => ∀ pins s, Inv X pins σ H s → wpAny (model X.prog X.w) X.A (evalPart o X.env) (fun u s' => ∃ o H', Inv X pins σ H' s' ∧ IsPart u o ∧ Q o H') X.xe s
theorem wo {o : Option Expr} : PO X o (wpO X o) := ⟨fun pins s _ _ _ I h => h pins s I⟩
theorem wpO.of {o : Option Expr} {t : TO} {σ : L2.St} {H : Hp} {Q : Option Int → Hp → Prop} (p : PO X o t) (h : t σ H Q) : wpO X o σ H Q := fun pins s I => p.run pins s σ H Q I h
def EoK (X : Cx) (F0 : Hp) (o : Option Expr) (Γ : Gm) (L : Lg) (k : Option Int → Lg → Prop) : Prop := ∀ (F : Hp) (σ : L2.St) (H : Hp) (Q : Option Int → Hp → Prop), At X.K F0 F Γ L σ H →
  (∀ (i : Option Int) (L' : Lg) (F' : Hp) (H' : Hp), k i L' → At X.K F0 F' Γ L' σ H' → Same F F' → Q i H') → wpO X o σ H Q
theorem eo_n {k : Option Int → Lg → Prop} (h : k none L) : EoK X F0 none Γ L k := fun F σ H Q E q => wpO.of po_none (q none L F H h E (Same.refl F))
theorem eo_s {k : Option Int → Lg → Prop} (h : EvK X F0 a Γ L fun x L1 => ∃ i, x = .int i ∧ k (some i) L1) : EoK X F0 (some a) Γ L k := fun F σ H Q E q =>
  wpO.of (po_some we) (h F σ H _ E fun x L1 F1 v H1 ⟨i, e1, h1⟩ E1 s1 r1 => by
    subst e1
    cases r1
    exact ⟨i, rfl, q (some i) L1 F1 H1 h1 E1 s1⟩)
theorem ek_sl (h : EvK X F0 a Γ L fun x L1 => EoK X F0 lo Γ L1 fun i L2 => EoK X F0 hi Γ L2 fun j L3 => ∃ ds, AsL L3 x ds ∧ k (.lst (cutD ds i j)) L3) : EvK X F0 (.Subscript a (.Slice lo hi none p2) pos) Γ L k := fun F σ H Q E q =>
  wpE.of (pe_slice sl_list we wo wo) (h F σ H _ E fun x L1 F1 v H1 h1 E1 s1 r1 => h1 F1 σ H1 _ E1 fun i L2 F2 H2 h2 E2 s2 => h2 F2 σ H2 _ E2 fun j L3 F3 H3 ⟨ds, a1, h3⟩ E3 s3 => by
    obtain ⟨p, xs, rfl, hx, rx⟩ := a1.read E3.led (r1.mono (s2.trans s3))
    refine ⟨p, xs, rfl, hx, fun n hn => ?_⟩
    have s4 : Same F3 (upd F3 n (.lst (cutV xs i j))) := same_new (E3.led.free hn)
    exact q _ L3 _ _ _ h3 (E3.new hn) (s1.trans (s2.trans (s3.trans s4))) (.lst (.inl (.inl upd_same)) (rx.cut.mono s4)))
theorem ek_slO (h : EvK X F0 a Γ L fun x L1 => EoK X F0 lo Γ L1 fun i L2 => EoK X F0 hi Γ L2 fun j L3 => ∃ ds, AsL L3 x ds ∧ ∀ p, k (.ref p) ((p, .lst (cutD ds i j)) :: L3)) : EvK X F0 (.Subscript a (.Slice lo hi none p2) pos) Γ L k := fun F σ H Q E q =>
  wpE.of (pe_slice sl_list we wo wo) (h F σ H _ E fun x L1 F1 v H1 h1 E1 s1 r1 => h1 F1 σ H1 _ E1 fun i L2 F2 H2 h2 E2 s2 => h2 F2 σ H2 _ E2 fun j L3 F3 H3 ⟨ds, a1, h3⟩ E3 s3 => by
    obtain ⟨p, xs, rfl, hx, rx⟩ := a1.read E3.led (r1.mono (s2.trans s3))
    refine ⟨p, xs, rfl, hx, fun n hn => ?_⟩
    exact q _ _ F3 _ _ (h3 n) (E3.to (Same.refl F3) (E3.led.newL hn rx.cut)) (s1.trans (s2.trans s3)) .ref)
theorem ek_slS (h : EvK X F0 a Γ L fun x L1 => ∃ z, x = .str z ∧ z.length ≤ sizeLine ∧ EoK X F0 lo Γ L1 fun i L2 => EoK X F0 hi Γ L2 fun j L3 => k (.str (cutS z i j)) L3) : EvK X F0 (.Subscript a (.Slice lo hi none p2) pos) Γ L k := fun F σ H Q E q =>
  wpE.of (pe_slice sl_str we wo wo) (h F σ H _ E fun x L1 F1 v H1 ⟨z, e1, hz, h1⟩ E1 s1 r1 => h1 F1 σ H1 _ E1 fun i L2 F2 H2 h2 E2 s2 => h2 F2 σ H2 _ E2 fun j L3 F3 H3 h3 E3 s3 => by
    subst e1
    cases r1
    exact ⟨z, rfl, hz, q _ L3 F3 _ H3 h3 E3 (s1.trans (s2.trans s3)) .str⟩)
end
end Vs

set_option Elab.async false
set_option linter.all false
set_option maxRecDepth 100000
set_option maxHeartbeats 4000000
namespace Vs
open PySem PySem.Spec PyProof.Rows L2
/-- a reading -/
def RdK (X : Cx) (F0 : Hp) (t : TE) (Γ : Gm) (L : Lg) (k : D → Lg → Prop) : Prop := ∀ (F : Hp) (σ : L2.St) (H : Hp) (Q : VK), At X.K F0 F Γ L σ H →
  (∀ (d : D) (L' : Lg) (F' : Hp) (v : V) (H' : Hp), k d L' → At X.K F0 F' Γ L' σ H' → Same F F' → Rep X.K F' d v → Q v H') → t σ H Q
section
variable {X : Cx} {F0 : Hp} {Γ : Gm} {L : Lg} {k : D → Lg → Prop} {kt : Bool → Lg → Prop} {e : Expr} {t : TE}
theorem RdK.ev (r : RdK X F0 t Γ L k) (p : PE X e t) : EvK X F0 e Γ L k := fun F σ H Q E q => wpE.of p (r F σ H Q E q)
theorem RdK.tst (r : RdK X F0 t Γ L fun d L' => ∃ b, d = .bl b ∧ kt b L') (p : PT X e (tTest t)) : EtK X F0 e Γ L kt := fun F σ H Q E q =>
  wpT.of p (r F σ H _ E fun d L' F' v H' ⟨b, e1, h⟩ E' s r => by
    subst e1
    cases r
    exact ⟨b, rfl, q b L' F' H' h E' s⟩)
end
section
variable {X : Cx} {F0 : Hp} {Γ : Gm} {L : Lg} {k : D → Lg → Prop} {ka : List D → Lg → Prop} {kt : Bool → Lg → Prop} {e a b c : Expr} {es rest : List Expr} {pos p2 : Pos}
/-! comparisons of numbers -/
theorem rd_cmpI {g : Int → Int → Bool} (h : EvK X F0 a Γ L fun x L1 => ∃ i, x = .int i ∧ EvK X F0 b Γ L1 fun y L2 => ∃ j, y = .int j ∧ k (.bl (g i j)) L2) : RdK X F0 (tOp (rI0 fun i j => .bl (g i j)) (wpE X a) (wpE X b)) Γ L k := fun F σ H Q E q =>
  h F σ H _ E fun x L1 F1 v H1 ⟨i, e1, h1⟩ E1 s1 r1 => h1 F1 σ H1 _ E1 fun y L2 F2 u H2 ⟨j, e2, h2⟩ E2 s2 r2 => by
    subst e1 e2
    cases r1
    cases r2
    exact ⟨i, j, rfl, rfl, q _ L2 F2 _ H2 h2 E2 (s1.trans s2) .bl⟩
theorem ek_cmpI {op : CmpOp} {g : Int → Int → Bool} (ho : OpR X (compareOp op) (rI0 fun i j => .bl (g i j)))
    (h : EvK X F0 a Γ L fun x L1 => ∃ i, x = .int i ∧ EvK X F0 b Γ L1 fun y L2 => ∃ j, y = .int j ∧ k (.bl (g i j)) L2) (hm : behindInMarks op b = false) : EvK X F0 (.Compare a [op] [b] pos) Γ L k := (rd_cmpI h).ev (pe_cmpR ho we we hm)
theorem et_cmpI {op : CmpOp} {g : Int → Int → Bool} (ho : OpR X (compareOp op) (rI0 fun i j => .bl (g i j)))
    (h : EvK X F0 a Γ L fun x L1 => ∃ i, x = .int i ∧ EvK X F0 b Γ L1 fun y L2 => ∃ j, y = .int j ∧ kt (g i j) L2) (hm : behindInMarks op b = false) : EtK X F0 (.Compare a [op] [b] pos) Γ L kt := (rd_cmpI (k := fun d L' => ∃ b, d = .bl b ∧ kt b L') (by
  exact fun F σ H Q E q => h F σ H Q E fun x L1 F1 v H1 ⟨i, e1, h1⟩ E1 s1 r1 => q x L1 F1 v H1 ⟨i, e1, fun F σ H Q E q => h1 F σ H Q E fun y L2 F2 u H2 ⟨j, e2, h2⟩ E2 s2 r2 => q y L2 F2 u H2 ⟨j, e2, _, rfl, h2⟩ E2 s2 r2⟩ E1 s1 r1)).tst (pt_cmpR ho we we hm)
theorem ek_lt (h : EvK X F0 a Γ L fun x L1 => ∃ i, x = .int i ∧ EvK X F0 b Γ L1 fun y L2 => ∃ j, y = .int j ∧ k (.bl (decide (i < j))) L2) (hm : behindInMarks .Lt b = false := by rfl) : EvK X F0 (.Compare a [.Lt] [b] pos) Γ L k := ek_cmpI op_lt h hm
theorem et_lt (h : EvK X F0 a Γ L fun x L1 => ∃ i, x = .int i ∧ EvK X F0 b Γ L1 fun y L2 => ∃ j, y = .int j ∧ kt (decide (i < j)) L2) (hm : behindInMarks .Lt b = false := by rfl) : EtK X F0 (.Compare a [.Lt] [b] pos) Γ L kt := et_cmpI op_lt h hm
theorem ek_le (h : EvK X F0 a Γ L fun x L1 => ∃ i, x = .int i ∧ EvK X F0 b Γ L1 fun y L2 => ∃ j, y = .int j ∧ k (.bl (decide (i ≤ j))) L2) (hm : behindInMarks .LtE b = false := by rfl) : EvK X F0 (.Compare a [.LtE] [b] pos) Γ L k := ek_cmpI op_le h hm
theorem et_le (h : EvK X F0 a Γ L fun x L1 => ∃ i, x = .int i ∧ EvK X F0 b Γ L1 fun y L2 => ∃ j, y = .int j ∧ kt (decide (i ≤ j)) L2) (hm : behindInMarks .LtE b = false := by rfl) : EtK X F0 (.Compare a [.LtE] [b] pos) Γ L kt := et_cmpI op_le h hm
theorem ek_gt (h : EvK X F0 a Γ L fun x L1 => ∃ i, x = .int i ∧ EvK X F0 b Γ L1 fun y L2 => ∃ j, y = .int j ∧ k (.bl (decide (j < i))) L2) (hm : behindInMarks .Gt b = false := by rfl) : EvK X F0 (.Compare a [.Gt] [b] pos) Γ L k := ek_cmpI op_gt h hm
theorem et_gt (h : EvK X F0 a Γ L fun x L1 => ∃ i, x = .int i ∧ EvK X F0 b Γ L1 fun y L2 => ∃ j, y = .int j ∧ kt (decide (j < i)) L2) (hm : behindInMarks .Gt b = false := by rfl) : EtK X F0 (.Compare a [.Gt] [b] pos) Γ L kt := et_cmpI op_gt h hm
theorem ek_ge (h : EvK X F0 a Γ L fun x L1 => ∃ i, x = .int i ∧ EvK X F0 b Γ L1 fun y L2 => ∃ j, y = .int j ∧ k (.bl (decide (j ≤ i))) L2) (hm : behindInMarks .GtE b = false := by rfl) : EvK X F0 (.Compare a [.GtE] [b] pos) Γ L k := ek_cmpI op_ge h hm
theorem et_ge (h : EvK X F0 a Γ L fun x L1 => ∃ i, x = .int i ∧ EvK X F0 b Γ L1 fun y L2 => ∃ j, y = .int j ∧ kt (decide (j ≤ i)) L2) (hm : behindInMarks .GtE b = false := by rfl) : EtK X F0 (.Compare a [.GtE] [b] pos) Γ L kt := et_cmpI op_ge h hm
theorem rd_eqI (h : EvK X F0 a Γ L fun x L1 => ∃ i, x = .int i ∧ EvK X F0 b Γ L1 fun y L2 => ∃ j, y = .int j ∧ k (.bl (decide (i = j))) L2) : RdK X F0 (tOp rEq (wpE X a) (wpE X b)) Γ L k := fun F σ H Q E q =>
  h F σ H _ E fun x L1 F1 v H1 ⟨i, e1, h1⟩ E1 s1 r1 => h1 F1 σ H1 _ E1 fun y L2 F2 u H2 ⟨j, e2, h2⟩ E2 s2 r2 => by
    subst e1 e2
    cases r1
    cases r2
    refine ⟨rfl, ?_⟩
    have z : decide (V.int i = V.int j) = decide (i = j) := by rw [dec_int]; by_cases h : i = j <;> simp [h]
    rw [z]
    exact q _ L2 F2 _ H2 h2 E2 (s1.trans s2) .bl
theorem ek_eqI (h : EvK X F0 a Γ L fun x L1 => ∃ i, x = .int i ∧ EvK X F0 b Γ L1 fun y L2 => ∃ j, y = .int j ∧ k (.bl (decide (i = j))) L2) (hm : behindInMarks .Eq b = false := by rfl) : EvK X F0 (.Compare a [.Eq] [b] pos) Γ L k := (rd_eqI h).ev (pe_cmpR op_eq we we hm)
theorem et_eqI (h : EvK X F0 a Γ L fun x L1 => ∃ i, x = .int i ∧ EvK X F0 b Γ L1 fun y L2 => ∃ j, y = .int j ∧ kt ((decide (i = j))) L2) (hm : behindInMarks .Eq b = false := by rfl) : EtK X F0 (.Compare a [.Eq] [b] pos) Γ L kt := (rd_eqI (k := fun d L' => ∃ b, d = .bl b ∧ kt b L') (by
  exact fun F σ H Q E q => h F σ H Q E fun x L1 F1 v H1 ⟨i, e1, h1⟩ E1 s1 r1 => q x L1 F1 v H1 ⟨i, e1, fun F σ H Q E q => h1 F σ H Q E fun y L2 F2 u H2 ⟨j, e2, h2⟩ E2 s2 r2 => q y L2 F2 u H2 ⟨j, e2, _, rfl, h2⟩ E2 s2 r2⟩ E1 s1 r1)).tst (pt_cmpR op_eq we we hm)

theorem rd_neI (h : EvK X F0 a Γ L fun x L1 => ∃ i, x = .int i ∧ EvK X F0 b Γ L1 fun y L2 => ∃ j, y = .int j ∧ k (.bl (!decide (i = j))) L2) : RdK X F0 (tOp rNe (wpE X a) (wpE X b)) Γ L k := fun F σ H Q E q =>
  h F σ H _ E fun x L1 F1 v H1 ⟨i, e1, h1⟩ E1 s1 r1 => h1 F1 σ H1 _ E1 fun y L2 F2 u H2 ⟨j, e2, h2⟩ E2 s2 r2 => by
    subst e1 e2
    cases r1
    cases r2
    refine ⟨rfl, ?_⟩
    have z : decide (V.int i = V.int j) = decide (i = j) := by rw [dec_int]; by_cases h : i = j <;> simp [h]
    rw [z]
    exact q _ L2 F2 _ H2 h2 E2 (s1.trans s2) .bl
theorem ek_neI (h : EvK X F0 a Γ L fun x L1 => ∃ i, x = .int i ∧ EvK X F0 b Γ L1 fun y L2 => ∃ j, y = .int j ∧ k (.bl (!decide (i = j))) L2) (hm : behindInMarks .NotEq b = false := by rfl) : EvK X F0 (.Compare a [.NotEq] [b] pos) Γ L k := (rd_neI h).ev (pe_cmpR op_ne we we hm)
theorem et_neI (h : EvK X F0 a Γ L fun x L1 => ∃ i, x = .int i ∧ EvK X F0 b Γ L1 fun y L2 => ∃ j, y = .int j ∧ kt ((!decide (i = j))) L2) (hm : behindInMarks .NotEq b = false := by rfl) : EtK X F0 (.Compare a [.NotEq] [b] pos) Γ L kt := (rd_neI (k := fun d L' => ∃ b, d = .bl b ∧ kt b L') (by
  exact fun F σ H Q E q => h F σ H Q E fun x L1 F1 v H1 ⟨i, e1, h1⟩ E1 s1 r1 => q x L1 F1 v H1 ⟨i, e1, fun F σ H Q E q => h1 F σ H Q E fun y L2 F2 u H2 ⟨j, e2, h2⟩ E2 s2 r2 => q y L2 F2 u H2 ⟨j, e2, _, rfl, h2⟩ E2 s2 r2⟩ E1 s1 r1)).tst (pt_cmpR op_ne we we hm)

theorem rd_eqS (h : EvK X F0 a Γ L fun x L1 => ∃ i, x = .str i ∧ EvK X F0 b Γ L1 fun y L2 => ∃ j, y = .str j ∧ k (.bl (decide (i = j))) L2) : RdK X F0 (tOp rEq (wpE X a) (wpE X b)) Γ L k := fun F σ H Q E q =>
  h F σ H _ E fun x L1 F1 v H1 ⟨i, e1, h1⟩ E1 s1 r1 => h1 F1 σ H1 _ E1 fun y L2 F2 u H2 ⟨j, e2, h2⟩ E2 s2 r2 => by
    subst e1 e2
    cases r1
    cases r2
    refine ⟨rfl, ?_⟩
    have z : decide (V.str i = V.str j) = decide (i = j) := by rw [dec_str]; by_cases h : i = j <;> simp [h]
    rw [z]
    exact q _ L2 F2 _ H2 h2 E2 (s1.trans s2) .bl
theorem ek_eqS (h : EvK X F0 a Γ L fun x L1 => ∃ i, x = .str i ∧ EvK X F0 b Γ L1 fun y L2 => ∃ j, y = .str j ∧ k (.bl (decide (i = j))) L2) (hm : behindInMarks .Eq b = false := by rfl) : EvK X F0 (.Compare a [.Eq] [b] pos) Γ L k := (rd_eqS h).ev (pe_cmpR op_eq we we hm)
theorem et_eqS (h : EvK X F0 a Γ L fun x L1 => ∃ i, x = .str i ∧ EvK X F0 b Γ L1 fun y L2 => ∃ j, y = .str j ∧ kt ((decide (i = j))) L2) (hm : behindInMarks .Eq b = false := by rfl) : EtK X F0 (.Compare a [.Eq] [b] pos) Γ L kt := (rd_eqS (k := fun d L' => ∃ b, d = .bl b ∧ kt b L') (by
  exact fun F σ H Q E q => h F σ H Q E fun x L1 F1 v H1 ⟨i, e1, h1⟩ E1 s1 r1 => q x L1 F1 v H1 ⟨i, e1, fun F σ H Q E q => h1 F σ H Q E fun y L2 F2 u H2 ⟨j, e2, h2⟩ E2 s2 r2 => q y L2 F2 u H2 ⟨j, e2, _, rfl, h2⟩ E2 s2 r2⟩ E1 s1 r1)).tst (pt_cmpR op_eq we we hm)

theorem rd_neS (h : EvK X F0 a Γ L fun x L1 => ∃ i, x = .str i ∧ EvK X F0 b Γ L1 fun y L2 => ∃ j, y = .str j ∧ k (.bl (!decide (i = j))) L2) : RdK X F0 (tOp rNe (wpE X a) (wpE X b)) Γ L k := fun F σ H Q E q =>
  h F σ H _ E fun x L1 F1 v H1 ⟨i, e1, h1⟩ E1 s1 r1 => h1 F1 σ H1 _ E1 fun y L2 F2 u H2 ⟨j, e2, h2⟩ E2 s2 r2 => by
    subst e1 e2
    cases r1
    cases r2
    refine ⟨rfl, ?_⟩
    have z : decide (V.str i = V.str j) = decide (i = j) := by rw [dec_str]; by_cases h : i = j <;> simp [h]
    rw [z]
    exact q _ L2 F2 _ H2 h2 E2 (s1.trans s2) .bl
theorem ek_neS (h : EvK X F0 a Γ L fun x L1 => ∃ i, x = .str i ∧ EvK X F0 b Γ L1 fun y L2 => ∃ j, y = .str j ∧ k (.bl (!decide (i = j))) L2) (hm : behindInMarks .NotEq b = false := by rfl) : EvK X F0 (.Compare a [.NotEq] [b] pos) Γ L k := (rd_neS h).ev (pe_cmpR op_ne we we hm)
theorem et_neS (h : EvK X F0 a Γ L fun x L1 => ∃ i, x = .str i ∧ EvK X F0 b Γ L1 fun y L2 => ∃ j, y = .str j ∧ kt ((!decide (i = j))) L2) (hm : behindInMarks .NotEq b = false := by rfl) : EtK X F0 (.Compare a [.NotEq] [b] pos) Γ L kt := (rd_neS (k := fun d L' => ∃ b, d = .bl b ∧ kt b L') (by
  exact fun F σ H Q E q => h F σ H Q E fun x L1 F1 v H1 ⟨i, e1, h1⟩ E1 s1 r1 => q x L1 F1 v H1 ⟨i, e1, fun F σ H Q E q => h1 F σ H Q E fun y L2 F2 u H2 ⟨j, e2, h2⟩ E2 s2 r2 => q y L2 F2 u H2 ⟨j, e2, _, rfl, h2⟩ E2 s2 r2⟩ E1 s1 r1)).tst (pt_cmpR op_ne we we hm)

theorem rd_eqB (h : EvK X F0 a Γ L fun x L1 => ∃ i, x = .bl i ∧ EvK X F0 b Γ L1 fun y L2 => ∃ j, y = .bl j ∧ k (.bl (i == j)) L2) : RdK X F0 (tOp rEq (wpE X a) (wpE X b)) Γ L k := fun F σ H Q E q =>
  h F σ H _ E fun x L1 F1 v H1 ⟨i, e1, h1⟩ E1 s1 r1 => h1 F1 σ H1 _ E1 fun y L2 F2 u H2 ⟨j, e2, h2⟩ E2 s2 r2 => by
    subst e1 e2
    cases r1
    cases r2
    refine ⟨rfl, ?_⟩
    rw [dec_bl]
    exact q _ L2 F2 _ H2 h2 E2 (s1.trans s2) .bl
theorem ek_eqB (h : EvK X F0 a Γ L fun x L1 => ∃ i, x = .bl i ∧ EvK X F0 b Γ L1 fun y L2 => ∃ j, y = .bl j ∧ k (.bl (i == j)) L2) (hm : behindInMarks .Eq b = false := by rfl) : EvK X F0 (.Compare a [.Eq] [b] pos) Γ L k := (rd_eqB h).ev (pe_cmpR op_eq we we hm)
theorem et_eqB (h : EvK X F0 a Γ L fun x L1 => ∃ i, x = .bl i ∧ EvK X F0 b Γ L1 fun y L2 => ∃ j, y = .bl j ∧ kt ((i == j)) L2) (hm : behindInMarks .Eq b = false := by rfl) : EtK X F0 (.Compare a [.Eq] [b] pos) Γ L kt := (rd_eqB (k := fun d L' => ∃ b, d = .bl b ∧ kt b L') (by
  exact fun F σ H Q E q => h F σ H Q E fun x L1 F1 v H1 ⟨i, e1, h1⟩ E1 s1 r1 => q x L1 F1 v H1 ⟨i, e1, fun F σ H Q E q => h1 F σ H Q E fun y L2 F2 u H2 ⟨j, e2, h2⟩ E2 s2 r2 => q y L2 F2 u H2 ⟨j, e2, _, rfl, h2⟩ E2 s2 r2⟩ E1 s1 r1)).tst (pt_cmpR op_eq we we hm)

theorem rd_neB (h : EvK X F0 a Γ L fun x L1 => ∃ i, x = .bl i ∧ EvK X F0 b Γ L1 fun y L2 => ∃ j, y = .bl j ∧ k (.bl (!(i == j))) L2) : RdK X F0 (tOp rNe (wpE X a) (wpE X b)) Γ L k := fun F σ H Q E q =>
  h F σ H _ E fun x L1 F1 v H1 ⟨i, e1, h1⟩ E1 s1 r1 => h1 F1 σ H1 _ E1 fun y L2 F2 u H2 ⟨j, e2, h2⟩ E2 s2 r2 => by
    subst e1 e2
    cases r1
    cases r2
    refine ⟨rfl, ?_⟩
    rw [dec_bl]
    exact q _ L2 F2 _ H2 h2 E2 (s1.trans s2) .bl
theorem ek_neB (h : EvK X F0 a Γ L fun x L1 => ∃ i, x = .bl i ∧ EvK X F0 b Γ L1 fun y L2 => ∃ j, y = .bl j ∧ k (.bl (!(i == j))) L2) (hm : behindInMarks .NotEq b = false := by rfl) : EvK X F0 (.Compare a [.NotEq] [b] pos) Γ L k := (rd_neB h).ev (pe_cmpR op_ne we we hm)
theorem et_neB (h : EvK X F0 a Γ L fun x L1 => ∃ i, x = .bl i ∧ EvK X F0 b Γ L1 fun y L2 => ∃ j, y = .bl j ∧ kt ((!(i == j))) L2) (hm : behindInMarks .NotEq b = false := by rfl) : EtK X F0 (.Compare a [.NotEq] [b] pos) Γ L kt := (rd_neB (k := fun d L' => ∃ b, d = .bl b ∧ kt b L') (by
  exact fun F σ H Q E q => h F σ H Q E fun x L1 F1 v H1 ⟨i, e1, h1⟩ E1 s1 r1 => q x L1 F1 v H1 ⟨i, e1, fun F σ H Q E q => h1 F σ H Q E fun y L2 F2 u H2 ⟨j, e2, h2⟩ E2 s2 r2 => q y L2 F2 u H2 ⟨j, e2, _, rfl, h2⟩ E2 s2 r2⟩ E1 s1 r1)).tst (pt_cmpR op_ne we we hm)

/-- x is None, x is not None -/
def isN : D → Bool
  | .non => true
  | _ => false
theorem isN_rep {K : PySem.W.Frag} {F : Hp} {d : D} {v : V} (r : Rep K F d v) : decide (v = V.non) = isN d := by
  cases r <;> rfl
theorem ek_isN {j : Nat} {p3 : Pos} (h : EvK X F0 a Γ L fun x L1 => k (.bl (isN x)) L1) : EvK X F0 (.Compare a [.Is] [.Constant .none j p3] pos) Γ L k := fun F σ H Q E q =>
  wpE.of (pe_cmpR op_isN we pe_non (nomark _)) (h F σ H _ E fun x L1 F1 v H1 h1 E1 s1 r1 => ⟨rfl, by
    rw [isN_rep r1]
    exact q _ L1 F1 _ H1 h1 E1 s1 .bl⟩)
theorem ek_notN {j : Nat} {p3 : Pos} (h : EvK X F0 a Γ L fun x L1 => k (.bl (!isN x)) L1) : EvK X F0 (.Compare a [.IsNot] [.Constant .none j p3] pos) Γ L k := fun F σ H Q E q =>
  wpE.of (pe_cmpR op_notN we pe_non (nomark _)) (h F σ H _ E fun x L1 F1 v H1 h1 E1 s1 r1 => ⟨rfl, by
    rw [isN_rep r1]
    exact q _ L1 F1 _ H1 h1 E1 s1 .bl⟩)
theorem et_isN {j : Nat} {p3 : Pos} (h : EvK X F0 a Γ L fun x L1 => kt (isN x) L1) : EtK X F0 (.Compare a [.Is] [.Constant .none j p3] pos) Γ L kt := fun F σ H Q E q =>
  wpT.of (pt_cmpR op_isN we pe_non (nomark _)) (h F σ H _ E fun x L1 F1 v H1 h1 E1 s1 r1 => ⟨rfl, by
    rw [isN_rep r1]
    exact ⟨_, rfl, q _ L1 F1 H1 h1 E1 s1⟩⟩)
theorem et_notN {j : Nat} {p3 : Pos} (h : EvK X F0 a Γ L fun x L1 => kt (!isN x) L1) : EtK X F0 (.Compare a [.IsNot] [.Constant .none j p3] pos) Γ L kt := fun F σ H Q E q =>
  wpT.of (pt_cmpR op_notN we pe_non (nomark _)) (h F σ H _ E fun x L1 F1 v H1 h1 E1 s1 r1 => ⟨rfl, by
    rw [isN_rep r1]
    exact ⟨_, rfl, q _ L1 F1 H1 h1 E1 s1⟩⟩)
/-- a < b < c and its like -/
theorem ek_chain {op op' : CmpOp} {g g' : Int → Int → Bool} (ho : OpR X (compareOp op) (rI0 fun i j => .bl (g i j))) (ho' : OpR X (compareOp op') (rI0 fun i j => .bl (g' i j)))
    (h : EvK X F0 a Γ L fun x L1 => ∃ i, x = .int i ∧ EvK X F0 b Γ L1 fun y L2 => ∃ j, y = .int j ∧ (g i j = true → EvK X F0 c Γ L2 fun z L3 => ∃ l, z = .int l ∧ k (.bl (g' j l)) L3) ∧ (g i j = false → k (.bl false) L2))
    (hp : PE X e (tChain (rI0 fun i j => .bl (g i j)) (rI0 fun i j => .bl (g' i j)) (wpE X a) (wpE X b) (wpE X c))) : EvK X F0 e Γ L k := fun F σ H Q E q =>
  wpE.of hp (h F σ H _ E fun x L1 F1 v H1 ⟨i, e1, h1⟩ E1 s1 r1 => h1 F1 σ H1 _ E1 fun y L2 F2 u H2 ⟨j, e2, h2, h3⟩ E2 s2 r2 => by
    subst e1 e2
    cases r1
    cases r2
    refine ⟨i, j, rfl, rfl, g i j, rfl, ?_⟩
    cases hg : g i j with
    | true =>
      rw [if_pos rfl]
      exact h2 hg F2 σ H2 _ E2 fun z L3 F3 w H3 ⟨l, e3, h4⟩ E3 s3 r3 => by
        subst e3
        cases r3
        exact ⟨j, l, rfl, rfl, q _ L3 F3 _ H3 h4 E3 (s1.trans (s2.trans s3)) .bl⟩
    | false =>
      rw [if_neg Bool.false_ne_true]
      exact q _ L2 F2 _ H2 (h3 hg) E2 (s1.trans s2) .bl)

theorem ek_ch {op op' : CmpOp} {g g' : Int → Int → Bool} (ho : OpR X (compareOp op) (rI0 fun i j => .bl (g i j))) (ho' : OpR X (compareOp op') (rI0 fun i j => .bl (g' i j)))
    (h : EvK X F0 a Γ L fun x L1 => ∃ i, x = .int i ∧ EvK X F0 b Γ L1 fun y L2 => ∃ j, y = .int j ∧ (g i j = true → EvK X F0 c Γ L2 fun z L3 => ∃ l, z = .int l ∧ k (.bl (g' j l)) L3) ∧ (g i j = false → k (.bl false) L2))
    (hm : lastMarks [op, op'] [b, c] = false := by with_unfolding_all rfl) : EvK X F0 (.Compare a [op, op'] [b, c] pos) Γ L k := ek_chain ho ho' h (pe_chain ho ho' we we we hm)
theorem et_ch {op op' : CmpOp} {g g' : Int → Int → Bool} (ho : OpR X (compareOp op) (rI0 fun i j => .bl (g i j))) (ho' : OpR X (compareOp op') (rI0 fun i j => .bl (g' i j)))
    (h : EvK X F0 a Γ L fun x L1 => ∃ i, x = .int i ∧ EvK X F0 b Γ L1 fun y L2 => ∃ j, y = .int j ∧ (g i j = true → EvK X F0 c Γ L2 fun z L3 => ∃ l, z = .int l ∧ kt (g' j l) L3) ∧ (g i j = false → kt false L2))
    (hm : lastMarks [op, op'] [b, c] = false := by with_unfolding_all rfl) : EtK X F0 (.Compare a [op, op'] [b, c] pos) Γ L kt := fun F σ H Q E q =>
  wpT.of (pt_chain ho ho' we we we hm) (h F σ H _ E fun x L1 F1 v H1 ⟨i, e1, h1⟩ E1 s1 r1 => h1 F1 σ H1 _ E1 fun y L2 F2 u H2 ⟨j, e2, h2, h3⟩ E2 s2 r2 => by
    subst e1 e2
    cases r1
    cases r2
    refine ⟨i, j, rfl, rfl, g i j, rfl, ?_⟩
    cases hg : g i j with
    | true =>
      rw [if_pos rfl]
      exact h2 hg F2 σ H2 _ E2 fun z L3 F3 w H3 ⟨l, e3, h4⟩ E3 s3 r3 => by
        subst e3
        cases r3
        exact ⟨j, l, rfl, rfl, _, rfl, q _ L3 F3 H3 h4 E3 (s1.trans (s2.trans s3))⟩
    | false =>
      rw [if_neg Bool.false_ne_true]
      exact ⟨_, rfl, q _ L2 F2 H2 (h3 hg) E2 (s1.trans s2)⟩)
/-! data at any depth -/
mutual
inductive Dpd (L : Lg) : D → PyData → Prop
  | non : Dpd L .non .none
  | bl {b : Bool} : Dpd L (.bl b) (.bool b)
  | int {i : Int} : Dpd L (.int i) (.int i)
  | str {x : Str} : Dpd L (.str x) (.str x)
  | lst {ds : List D} {ps : List PyData} : Dpds L ds ps → Dpd L (.lst ds) (.list ps)
  | tup {ds : List D} {ps : List PyData} : Dpds L ds ps → Dpd L (.tup ds) (.tuple ps)
  | own {p : Addr} {ds : List D} {ps : List PyData} {j : Nat} : Get L j (p, C.lst ds) → Dpds L ds ps → Dpd L (.ref p) (.list ps)
inductive Dpds (L : Lg) : List D → List PyData → Prop
  | nil : Dpds L [] []
  | cons {d : D} {p : PyData} {ds : List D} {ps : List PyData} : Dpd L d p → Dpds L ds ps → Dpds L (d :: ds) (p :: ps)
end
mutual
theorem Dpd.dp {K : PySem.W.Frag} {F H : Hp} {L : Lg} (l : Led K F L H) : ∀ {d : D} {p : PyData} {v : V}, Dpd L d p → Rep K F d v → Dp K H v p
  | _, _, _, .non, .non => .non
  | _, _, _, .bl, .bl => .bl _
  | _, _, _, .int, .int => .int _
  | _, _, _, .str, .str => .str _
  | _, _, _, .lst h, .lst s r => .lst (l.sub.seq s) (Dpds.dp l h r)
  | _, _, _, .tup h, .tup s r => .tup (seqT l.sub s) (Dpds.dp l h r)
  | _, _, _, .own g h, .ref => by
    obtain ⟨_, xs, h1, h2⟩ := l.ent _ g.mem
    exact .lst (.inl (.inl h1)) (Dpds.dp l h h2)
theorem Dpds.dp {K : PySem.W.Frag} {F H : Hp} {L : Lg} (l : Led K F L H) : ∀ {ds : List D} {ps : List PyData} {vs : List V}, Dpds L ds ps → Reps K F ds vs → DpAll K H vs ps
  | _, _, _, .nil, .nil => .nil
  | _, _, _, .cons h t, .cons r s => .cons (Dpd.dp l h r) (Dpds.dp l t s)
end
theorem rd_eqD (hu : X.A.units + 64 < cLine) (h : EvK X F0 a Γ L fun x L1 => EvK X F0 b Γ L1 fun y L2 => ∃ d e, Dpd L2 x d ∧ Dpd L2 y e ∧ SeqAt.shaped d = true ∧ SeqAt.shaped e = true ∧ k (.bl (PyData.eqv d e)) L2) : RdK X F0 (tOp (rEqD X.K) (wpE X a) (wpE X b)) Γ L k := fun F σ H Q E q =>
  h F σ H _ E fun x L1 F1 v H1 h1 E1 s1 r1 => h1 F1 σ H1 _ E1 fun y L2 F2 u H2 ⟨d, e, d1, d2, z1, z2, h2⟩ E2 s2 r2 =>
    ⟨d, e, d1.dp E2.led (r1.mono s2), d2.dp E2.led r2, z1, z2, q _ L2 F2 _ H2 h2 E2 (s1.trans s2) .bl⟩
theorem ek_eqD (hu : X.A.units + 64 < cLine) (h : EvK X F0 a Γ L fun x L1 => EvK X F0 b Γ L1 fun y L2 => ∃ d e, Dpd L2 x d ∧ Dpd L2 y e ∧ SeqAt.shaped d = true ∧ SeqAt.shaped e = true ∧ k (.bl (PyData.eqv d e)) L2) (hm : behindInMarks .Eq b = false := by rfl) : EvK X F0 (.Compare a [.Eq] [b] pos) Γ L k := (rd_eqD hu h).ev (pe_cmpR (op_eqD hu) we we hm)
theorem et_eqD (hu : X.A.units + 64 < cLine) (h : EvK X F0 a Γ L fun x L1 => EvK X F0 b Γ L1 fun y L2 => ∃ d e, Dpd L2 x d ∧ Dpd L2 y e ∧ SeqAt.shaped d = true ∧ SeqAt.shaped e = true ∧ kt ((PyData.eqv d e)) L2) (hm : behindInMarks .Eq b = false := by rfl) : EtK X F0 (.Compare a [.Eq] [b] pos) Γ L kt := (rd_eqD hu (k := fun d L' => ∃ b, d = .bl b ∧ kt b L') (by
  exact fun F σ H Q E q => h F σ H Q E fun x L1 F1 v H1 h1 E1 s1 r1 => q x L1 F1 v H1 (fun F σ H Q E q => h1 F σ H Q E fun y L2 F2 u H2 ⟨d, e, a1, a2, a3, a4, h2⟩ E2 s2 r2 => q y L2 F2 u H2 ⟨d, e, a1, a2, a3, a4, _, rfl, h2⟩ E2 s2 r2) E1 s1 r1)).tst (pt_cmpR (op_eqD hu) we we hm)

theorem rd_neD (hu : X.A.units + 64 < cLine) (h : EvK X F0 a Γ L fun x L1 => EvK X F0 b Γ L1 fun y L2 => ∃ d e, Dpd L2 x d ∧ Dpd L2 y e ∧ SeqAt.shaped d = true ∧ SeqAt.shaped e = true ∧ k (.bl (!PyData.eqv d e)) L2) : RdK X F0 (tOp (rNeD X.K) (wpE X a) (wpE X b)) Γ L k := fun F σ H Q E q =>
  h F σ H _ E fun x L1 F1 v H1 h1 E1 s1 r1 => h1 F1 σ H1 _ E1 fun y L2 F2 u H2 ⟨d, e, d1, d2, z1, z2, h2⟩ E2 s2 r2 =>
    ⟨d, e, d1.dp E2.led (r1.mono s2), d2.dp E2.led r2, z1, z2, q _ L2 F2 _ H2 h2 E2 (s1.trans s2) .bl⟩
theorem ek_neD (hu : X.A.units + 64 < cLine) (h : EvK X F0 a Γ L fun x L1 => EvK X F0 b Γ L1 fun y L2 => ∃ d e, Dpd L2 x d ∧ Dpd L2 y e ∧ SeqAt.shaped d = true ∧ SeqAt.shaped e = true ∧ k (.bl (!PyData.eqv d e)) L2) (hm : behindInMarks .NotEq b = false := by rfl) : EvK X F0 (.Compare a [.NotEq] [b] pos) Γ L k := (rd_neD hu h).ev (pe_cmpR (op_neD hu) we we hm)
theorem et_neD (hu : X.A.units + 64 < cLine) (h : EvK X F0 a Γ L fun x L1 => EvK X F0 b Γ L1 fun y L2 => ∃ d e, Dpd L2 x d ∧ Dpd L2 y e ∧ SeqAt.shaped d = true ∧ SeqAt.shaped e = true ∧ kt ((!PyData.eqv d e)) L2) (hm : behindInMarks .NotEq b = false := by rfl) : EtK X F0 (.Compare a [.NotEq] [b] pos) Γ L kt := (rd_neD hu (k := fun d L' => ∃ b, d = .bl b ∧ kt b L') (by
  exact fun F σ H Q E q => h F σ H Q E fun x L1 F1 v H1 h1 E1 s1 r1 => q x L1 F1 v H1 (fun F σ H Q E q => h1 F σ H Q E fun y L2 F2 u H2 ⟨d, e, a1, a2, a3, a4, h2⟩ E2 s2 r2 => q y L2 F2 u H2 ⟨d, e, a1, a2, a3, a4, _, rfl, h2⟩ E2 s2 r2) E1 s1 r1)).tst (pt_cmpR (op_neD hu) we we hm)

/-! built-in functions -/
theorem reps1 {K : PySem.W.Frag} {F : Hp} {d : D} {vs : List V} (r : Reps K F [d] vs) : ∃ v, vs = [v] ∧ Rep K F d v := by
  cases r with
  | cons r t => cases t; exact ⟨_, rfl, r⟩
theorem reps2 {K : PySem.W.Frag} {F : Hp} {d d' : D} {vs : List V} (r : Reps K F [d, d'] vs) : ∃ v v', vs = [v, v'] ∧ Rep K F d v ∧ Rep K F d' v' := by
  cases r with
  | cons r t =>
    obtain ⟨v, rfl, r2⟩ := reps1 t
    exact ⟨_, _, rfl, r, r2⟩
theorem ek_len {p : Pos} (hm : X.mg "len" = none) (hg : Gl X "len") (h : EvK X F0 e Γ L fun x L1 => ∃ ds, (AsL L1 x ds ∨ x = .tup ds) ∧ k (.int (ds.length : Int)) L1)
    (he : starEach [e] X.env = (false, eval e X.env) :: starEach [] X.env := by rfl) : EvK X F0 (.Call (.Name "len" p) [e] [] pos) Γ L k :=
  ek_cb call_len_seq hm boot_len (P := fun ds L1 kk => ∃ d es, ds = [d] ∧ (AsL L1 d es ∨ d = .tup es) ∧ kk (.int (es.length : Int)))
    (fun F L' σ H ds vs kk Q E r ⟨d, es, e1, e2, hk⟩ q => by
      subst e1
      obtain ⟨v, rfl, r1⟩ := reps1 r
      rcases e2 with e2 | e2
      · obtain ⟨p, xs, rfl, hx, rx⟩ := e2.read E.led r1
        refine ⟨p, xs, rfl, .inl hx, ?_⟩
        rw [← rx.length]
        exact q _ F _ H hk E (Same.refl F) .int
      · subst e2
        cases r1 with
        | tup hx rx =>
          refine ⟨_, _, rfl, .inr (seqT E.led.sub hx), ?_⟩
          rw [← rx.length]
          exact q _ F _ H hk E (Same.refl F) .int)
    (ea_cons (fun F σ H Q E q => h F σ H Q E fun d L' F' v H' ⟨ds, h1, h2⟩ E' s r => q d L' F' v H' (ea_nil ⟨d, ds, rfl, h1, h2⟩) E' s r) he) hg (he := he)
theorem ek_lenS {p : Pos} (hm : X.mg "len" = none) (hg : Gl X "len") (h : EvK X F0 e Γ L fun x L1 => ∃ z, x = .str z ∧ z.length ≤ sizeLine ∧ k (.int (z.length : Int)) L1)
    (he : starEach [e] X.env = (false, eval e X.env) :: starEach [] X.env := by rfl) : EvK X F0 (.Call (.Name "len" p) [e] [] pos) Γ L k :=
  ek_cb call_len_str hm boot_len (P := fun ds L1 kk => ∃ z, ds = [.str z] ∧ z.length ≤ sizeLine ∧ kk (.int (z.length : Int)))
    (fun F L' σ H ds vs kk Q E r ⟨z, e1, hz, hk⟩ q => by
      subst e1
      obtain ⟨v, rfl, r1⟩ := reps1 r
      cases r1
      exact ⟨z, rfl, hz, q _ F _ H hk E (Same.refl F) .int⟩)
    (ea_cons (fun F σ H Q E q => h F σ H Q E fun d L' F' v H' ⟨z, h1, hz, h2⟩ E' s r => q d L' F' v H' (ea_nil ⟨z, by rw [h1], hz, h2⟩) E' s r) he) hg (he := he)
theorem ek_abs {p : Pos} (hm : X.mg "abs" = none) (hg : Gl X "abs") (h : EvK X F0 e Γ L fun x L1 => ∃ i, x = .int i ∧ k (.int (if i < 0 then -i else i)) L1)
    (he : starEach [e] X.env = (false, eval e X.env) :: starEach [] X.env := by rfl) : EvK X F0 (.Call (.Name "abs" p) [e] [] pos) Γ L k :=
  ek_cb call_abs hm boot_abs (P := fun ds L1 kk => ∃ i, ds = [.int i] ∧ kk (.int (if i < 0 then -i else i)))
    (fun F L' σ H ds vs kk Q E r ⟨z, e1, hk⟩ q => by
      subst e1
      obtain ⟨v, rfl, r1⟩ := reps1 r
      cases r1
      exact ⟨z, rfl, q _ F _ H hk E (Same.refl F) .int⟩)
    (ea_cons (fun F σ H Q E q => h F σ H Q E fun d L' F' v H' ⟨z, h1, h2⟩ E' s r => q d L' F' v H' (ea_nil ⟨z, by rw [h1], h2⟩) E' s r) he) hg (he := he)
theorem ek_sum {p : Pos} (hc : X.calm = true) (hm : X.mg "sum" = none) (hg : Gl X "sum") (h : EvK X F0 e Γ L fun x L1 => ∃ ns : List Int, AsL L1 x (dI ns) ∧ k (.int ns.sum) L1)
    (he : starEach [e] X.env = (false, eval e X.env) :: starEach [] X.env := by rfl) : EvK X F0 (.Call (.Name "sum" p) [e] [] pos) Γ L k :=
  ek_cb (cr_sum hc) hm (by decide +kernel) (P := fun ds L1 kk => ∃ d ns, ds = [d] ∧ AsL L1 d (dI ns) ∧ kk (.int ns.sum))
    (fun F L' σ H ds vs kk Q E r ⟨d, ns, e1, e2, hk⟩ q => by
      subst e1
      obtain ⟨v, rfl, r1⟩ := reps1 r
      obtain ⟨p, xs, rfl, hx, rx⟩ := e2.read E.led r1
      have e3 := il_reps rx
      subst e3
      exact ⟨p, ns, rfl, hx, q _ F _ H hk E (Same.refl F) .int⟩)
    (ea_cons (fun F σ H Q E q => h F σ H Q E fun d L' F' v H' ⟨ns, h1, h2⟩ E' s r => q d L' F' v H' (ea_nil ⟨d, ns, rfl, h1, h2⟩) E' s r) he) hg (he := he)
theorem ek_list {p : Pos} (hm : X.mg "list" = none) (hg : Gl X "list") (h : EvK X F0 e Γ L fun x L1 => ∃ ds, (AsL L1 x ds ∨ x = .tup ds) ∧ k (.lst ds) L1)
    (he : starEach [e] X.env = (false, eval e X.env) :: starEach [] X.env := by rfl) : EvK X F0 (.Call (.Name "list" p) [e] [] pos) Γ L k :=
  ek_ct call_list_of hm boot_list (P := fun ds L1 kk => ∃ d es, ds = [d] ∧ (AsL L1 d es ∨ d = .tup es) ∧ kk (.lst es))
    (fun F L' σ H ds vs kk Q E r ⟨d, es, e1, e2, hk⟩ q => by
      subst e1
      obtain ⟨v, rfl, r1⟩ := reps1 r
      rcases e2 with e2 | e2
      · obtain ⟨p, xs, rfl, hx, rx⟩ := e2.read E.led r1
        refine ⟨p, xs, rfl, .inl hx, fun n hn => ?_⟩
        have s1 : Same F (upd F n (.lst xs)) := same_new (E.led.free hn)
        exact q _ _ _ _ hk (E.new hn) s1 (.lst (.inl (.inl upd_same)) (rx.mono s1))
      · subst e2
        cases r1 with
        | tup hx rx =>
          rename_i a xs
          refine ⟨_, _, rfl, .inr (seqT E.led.sub hx), fun n hn => ?_⟩
          have s1 : Same F (upd F n (.lst xs)) := same_new (E.led.free hn)
          exact q _ _ _ _ hk (E.new hn) s1 (.lst (.inl (.inl upd_same)) (rx.mono s1)))
    (ea_cons (fun F σ H Q E q => h F σ H Q E fun d L' F' v H' ⟨ds, h1, h2⟩ E' s r => q d L' F' v H' (ea_nil ⟨d, ds, rfl, h1, h2⟩) E' s r) he) hg (he := he)
end
end Vs

set_option Elab.async false
set_option linter.all false
set_option maxRecDepth 100000
set_option maxHeartbeats 4000000
namespace Vs
open PySem PySem.Spec PyProof.Rows L2
/-! ### the ledger's objects changed -/
theorem Get.mem' {α β : Type} {f : α → β} {x : α} {xs : List α} {i : Nat} (g : Get xs i x) : f x ∈ xs.map f := List.mem_map_of_mem g.mem
theorem Put.map_fst {a : Addr} {c c' : C} : ∀ {L L' : Lg} {j : Nat}, Get L j (a, c) → Put L j (a, c') L' → L'.map (·.1) = L.map (·.1)
  | _, _, _, .z, .z => rfl
  | _, _, _, .s g, .s p => by
    rw [List.map_cons, List.map_cons, Put.map_fst g p]
theorem Put.ents {a : Addr} {c c' : C} : ∀ {L L' : Lg} {j : Nat}, (L.map (·.1)).Nodup → Get L j (a, c) → Put L j (a, c') L' → ∀ p ∈ L', p = (a, c') ∨ (p ∈ L ∧ p.1 ≠ a)
  | (_, _) :: xs, _, _, nd, .z, .z => fun p hp => by
    rcases List.mem_cons.mp hp with rfl | hp
    · exact .inl rfl
    · refine .inr ⟨List.mem_cons_of_mem _ hp, fun z => ?_⟩
      rw [List.map_cons] at nd
      have := (List.nodup_cons.mp nd).1
      exact this (z ▸ List.mem_map_of_mem (f := (·.1)) hp)
  | x :: xs, _, _, nd, .s g, .s q => fun p hp => by
    rw [List.map_cons] at nd
    have nd' := List.nodup_cons.mp nd
    rcases List.mem_cons.mp hp with rfl | hp
    · refine .inr ⟨List.mem_cons_self, fun z => ?_⟩
      exact nd'.1 (z ▸ Get.mem' (f := (·.1)) g)
    · rcases Put.ents nd'.2 g q p hp with h | ⟨h, h2⟩
      · exact .inl h
      · exact .inr ⟨List.mem_cons_of_mem _ h, h2⟩
theorem Led.put {K : PySem.W.Frag} {F H : Hp} {L L' : Lg} {j : Nat} {a : Addr} {c c' : C} {o : HO} (l : Led K F L H) (g : Get L j (a, c)) (p : Put L j (a, c') L') (h : CRep K F (upd H a o) a c') : Led K F L' (upd H a o) where
  sub := fun b u e => by
    have ne : b ≠ a := fun z => by
      have := (l.ent _ g.mem).1
      rw [z] at e
      rw [e] at this
      cases this
    rw [upd_ne ne]
    exact l.sub b u e
  nod := by rw [Put.map_fst g p]; exact l.nod
  ent := fun q hq => by
    rcases Put.ents l.nod g p q hq with rfl | ⟨hq, ne⟩
    · exact ⟨(l.ent _ g.mem).1, h⟩
    · obtain ⟨h1, h2⟩ := l.ent q hq
      exact ⟨h1, h2.mono (Same.refl F) (upd_ne ne)⟩
theorem Led.lst {K : PySem.W.Frag} {F H : Hp} {L : Lg} {j : Nat} {a : Addr} {ds : List D} (l : Led K F L H) (g : Get L j (a, C.lst ds)) : ∃ xs, H a = some (.lst xs) ∧ Reps K F ds xs := (l.ent _ g.mem).2
section
variable {X : Cx} {F0 : Hp} {Γ : Gm} {L : Lg} {k : D → Lg → Prop} {ka : List D → Lg → Prop} {kt : Bool → Lg → Prop} {e a b c o : Expr} {es rest : List Expr} {pos p2 apos cpos : Pos}
/-- xs.append(e) -/
theorem ek_app (h : EvK X F0 o Γ L fun x L1 => ∃ p ds1, x = .ref p ∧ AsL L1 x ds1 ∧ EvK X F0 e Γ L1 fun y L2 => ∃ ds j L3, Get L2 j (p, C.lst ds) ∧ Put L2 j (p, C.lst (ds ++ [y])) L3 ∧ ds.length < sizeLine ∧ k .non L3)
    (hbase : attributeBase o "append" X.env (eval o X.env) = eval o X.env := by rfl)
    (hfew : ((backTo cpos (starEach [e] X.env)).all (fun x => !x.1) && (backToKw cpos (keywordEach [] X.env)).all (fun x => x.1.isSome)
      && decide (([e] : List Expr).length + ([] : List Keyword).length + (if ([] : List Keyword).isEmpty then 0 else 1) < 30)) = true := by rfl)
    (hline : (apos.endLine == cpos.line) = true := by rfl) (hs : starEach [e] X.env = (false, eval e X.env) :: starEach [] X.env := by rfl) (hplain : (backTo cpos (starEach [] X.env)).any (·.1) = false := by rfl) :
    EvK X F0 (.Call (.Attribute o "append" apos) [e] [] cpos) Γ L k := fun F σ H Q E q =>
  wpE.of (pe_bm PySem.F.plainAttrs_list PySem.F.slot_list_append PySem.F.type_list_append mt_append we (pa_cons we pa_nil hs) hbase hfew hline hs hplain)
    (h F σ H _ E fun x L1 F1 v H1 ⟨p, ds1, e1, a1, h1⟩ E1 s1 r1 => by
      subst e1
      obtain ⟨p', xs1, ev, hx1, _⟩ := a1.read E1.led r1
      cases r1
      refine ⟨?_, ?_⟩
      · cases ev
        exact .inl ⟨rfl, xs1, hx1⟩
      · refine h1 F1 σ H1 _ E1 fun y L2 F2 u H2 ⟨ds, j, L3, g, pt, hz, h2⟩ E2 s2 r2 => ?_
        obtain ⟨xs, hx, rx⟩ := E2.led.lst g
        refine ⟨p, xs, u, rfl, rfl, hx, by rw [← rx.length]; exact hz, ?_⟩
        exact q _ L3 F2 _ _ h2 (E2.to (Same.refl F2) (E2.led.put g pt ⟨_, upd_same, rx.append (.cons r2 .nil)⟩)) (s1.trans s2) .non)
end
section
variable {X : Cx} {F0 : Hp} {Γ : Gm} {L : Lg} {k : Ks} {e a b c o i tg iter : Expr} {st : Stmt} {rest body orelse : List Stmt} {pos p' : Pos} {N Nc : List Str} {sc : Scope} {Z : Xc → Gm → Lg → Prop}
/-- xs[i] = e, xs of the ledger -/
theorem sk_seti (h : EvK X F0 e Γ L fun y L1 => EvK X F0 o Γ L1 fun x L2 => EvK X F0 i Γ L2 fun z L3 => ∃ p ds n j m L4, x = .ref p ∧ z = .int n ∧ Get L3 m (p, C.lst ds) ∧ ixN ds.length n = some j ∧ Put L3 m (p, C.lst (ds.set j y)) L4 ∧ k.nx Γ L4)
    (ha : ∀ v, assign (.Subscript o i p') X.env v = (do let ov ← holding [v] (eval o X.env); let iv ← holding [v, ov] (eval i X.env); standAt p'; holding [v, ov, iv] (setItem ov iv v); release [v, ov, iv] []) := by intros; rfl)
    (hs : swapsWithSole [.Subscript o i p'] e pos.line X.env = pure false := by rfl) (hw : swappedStores [.Subscript o i p'] e X.env = pure none := by rfl) : SK X F0 (.Assign [.Subscript o i p'] e pos) Γ L k := fun F σ H Dn E q =>
  wpS.of (ps_asg we (pg_sub we we set_list ha) hs hw) (h F σ H _ E fun y L1 F1 v H1 h1 E1 s1 r1 => h1 F1 σ H1 _ E1 fun x L2 F2 u H2 h2 E2 s2 r2 => h2 F2 σ H2 _ E2 fun z L3 F3 w H3 ⟨p, ds, n, j, m, L4, e1, e2, g, hj, pt, h3⟩ E3 s3 r3 => by
    subst e1 e2
    cases r2
    cases r3
    obtain ⟨xs, hx, rx⟩ := E3.led.lst g
    refine ⟨p, xs, n, j, rfl, rfl, hx, by rw [← rx.length]; exact hj, ?_⟩
    exact q.nx _ L4 F3 σ _ h3 (E3.to (Same.refl F3) (E3.led.put g pt ⟨_, upd_same, rx.set (r1.mono (s2.trans s3)) j⟩)))
/-! ### for -/
/-- the walk J gives the data ds, whatever is done meanwhile to what may change -/
structure ItD (K : PySem.W.Frag) (ds : List D) (F : Hp) (J : It) : Prop where
  go : ∀ i H F' L', i < ds.length → Same F F' → Led K F' L' H → J.go i H
  yld : ∀ i H x H' F' L', Same F F' → Led K F' L' H → J.yld i H x H' → i < ds.length → ∃ d F'', ds[i]? = some d ∧ Same F' F'' ∧ Led K F'' L' H' ∧ Rep K F'' d x
  stop : ∀ i H F' L', ds.length ≤ i → Same F F' → Led K F' L' H → J.stop i H
def wpI (X : Cx) (tg iter : Expr) : TI := fun σ H R => ∀ pins s, Inv X pins σ H s → wpAny (model X.prog X.w) X.A (eval iter X.env) (fun v s1 => wpAny (model X.prog X.w) X.A (pyIter v) (PIE X pins σ tg R) X.xe s1) X.xe s
theorem wi : PI X tg iter (wpI X tg iter) := ⟨fun pins s _ _ _ I h => h pins s I⟩
theorem wpI.of {t : TI} {σ : L2.St} {H : Hp} {R : It → Hp → Prop} (p : PI X tg iter t) (h : t σ H R) : wpI X tg iter σ H R := fun pins s I => p.run pins s σ H R I h
def EiK (X : Cx) (F0 : Hp) (tg iter : Expr) (Γ : Gm) (L : Lg) (k : List D → Lg → Prop) : Prop := ∀ (F : Hp) (σ : L2.St) (H : Hp) (R : It → Hp → Prop), At X.K F0 F Γ L σ H →
  (∀ ds L' F' H' J, k ds L' → At X.K F0 F' Γ L' σ H' → Same F F' → ItD X.K ds F' J → R J H') → wpI X tg iter σ H R
def wpG (X : Cx) (tg : Expr) : TG := fun v σ H Q => ∀ pins s u, Inv X pins σ H s → RelV v u → wpAny (model X.prog X.w) X.A (assign tg X.env u) (fun _ s' => ∃ σ' H', Inv X pins σ' H' s' ∧ Q σ' H') X.xe s
theorem wg : PG X tg (wpG X tg) := ⟨fun pins s _ _ _ u _ I r h => h pins s u I r⟩
theorem wpG.of {t : TG} {v : V} {σ : L2.St} {H : Hp} {Q : L2.St → Hp → Prop} (p : PG X tg t) (h : t v σ H Q) : wpG X tg v σ H Q := fun pins s u I r => p.run pins s σ H v u Q I r h
/-- the target tg is put to d -/
def TgK (X : Cx) (F0 : Hp) (tg : Expr) (d : D) (Γ : Gm) (L : Lg) (k : Gm → Lg → Prop) : Prop := ∀ (F : Hp) (σ : L2.St) (H : Hp) (v : V) (Q : L2.St → Hp → Prop), At X.K F0 F Γ L σ H → Rep X.K F d v →
  (∀ Γ' L' F' σ' H', k Γ' L' → At X.K F0 F' Γ' L' σ' H' → Q σ' H') → wpG X tg v σ H Q
theorem tg_n (c : Cn X N Nc sc) {j : Nat} {x : Str} {d : D} {kg : Gm → Lg → Prop} (h : ∃ Γ', Put Γ j (some d) Γ' ∧ kg Γ' L) (hj : N[j]? = some x := by rfl) : TgK X F0 (.Name x pos) d Γ L kg := fun F σ H v Q E r q => by
  obtain ⟨Γ', p, hk⟩ := h
  exact wpG.of (pg_name (i := j) (by rw [c.n]; exact c.nd) (by rw [c.n]; exact get_app hj) (by rw [c.scp]; exact c.loc x (List.mem_of_getElem? hj)) (.inl (c.fn x))) (q Γ' L F _ H hk ⟨E.ge, E.led, E.sl.put r p⟩)
/-- (a, b, ..) = d, d a tuple -/
def TgsK (X : Cx) (F0 : Hp) (ts : List Expr) (ds : List D) (Γ : Gm) (L : Lg) (k : Gm → Lg → Prop) : Prop := match ts, ds with
  | [], [] => k Γ L
  | t :: ts, d :: ds => TgK X F0 t d Γ L fun Γ' L' => TgsK X F0 ts ds Γ' L' k
  | _, _ => False
/-- for tg in iter: body -/
theorem At.base {K : PySem.W.Frag} {F0 F1 F H : Hp} {Γ : Gm} {L : Lg} {σ : L2.St} (E : At K F0 F Γ L σ H) (s : Same F1 F) : At K F1 F Γ L σ H := ⟨s, E.led, E.sl⟩
theorem At.low {K : PySem.W.Frag} {F0 F1 F H : Hp} {Γ : Gm} {L : Lg} {σ : L2.St} (E : At K F1 F Γ L σ H) (s : Same F0 F1) : At K F0 F Γ L σ H := ⟨s.trans E.ge, E.led, E.sl⟩
theorem Cf.up {F1 : Hp} (c : Cf X N Nc sc F0 Z) (s : Same F0 F1) : Cf X N Nc sc F1 Z :=
  ⟨c.toCn, c.calm, c.own, c.tk.imp fun cls od σ H ⟨x, Γ, L, F, e, z, E, r⟩ => ⟨x, Γ, L, F, e, z, E.low s, r⟩, c.stk, c.fr⟩
theorem Ek.up {F1 : Hp} {Dn : Ends} (q : Ek X F0 Dn k) (s : Same F0 F1) : Ek X F1 Dn k :=
  ⟨fun Γ L F σ H h E => q.nx Γ L F σ H h (E.low s), fun d L F v H h s' l r => q.rt d L F v H h (s.trans s') l r, fun Γ L F σ H h E => q.bk Γ L F σ H h (E.low s), fun Γ L F σ H h E => q.ct Γ L F σ H h (E.low s)⟩
theorem sk_for (cf : Cf X N Nc sc F0 Z) (h : EiK X F0 tg iter Γ L fun ds L1 => ∃ Pv : Nat → Gm → Lg → Prop, Pv 0 Γ L1 ∧
      (∀ F1, Cf X N Nc sc F1 Z → ∀ i d Γ' L', ds[i]? = some d → Pv i Γ' L' → TgK X F1 tg d Γ' L' fun Γ2 L2 => BK X F1 body Γ2 L2 { k with nx := Pv (i + 1), ct := Pv (i + 1), bk := k.nx }) ∧ (∀ Γ' L', Pv ds.length Γ' L' → k.nx Γ' L'))
    (hs : ∀ x, foldedSetIterable iter X.env x = pure x := by intro _; rfl) : SK X F0 (.For tg iter body [] pos) Γ L k := fun F σ H Dn E q =>
  wpS.of (ps_for cf.own cf.calm wi wg wb hs) (h F σ H _ E fun ds L1 F1 H1 J ⟨Pv, h0, hb, hd⟩ E1 s1 it => by
    refine ⟨fun i m σ H => ∃ F Γ L, i + m = ds.length ∧ Same F1 F ∧ Pv i Γ L ∧ At X.K F0 F Γ L σ H, ⟨ds.length, F1, Γ, L1, by omega, Same.refl F1, h0, E1⟩, ?_⟩
    rintro i m σ2 H2 ⟨F2, Γ2, L2, hm, s2, hP, E2⟩
    by_cases hi : i < ds.length
    · refine .inr ⟨it.go i H2 F2 L2 hi s2 E2.led, fun σ' H' => ∃ F Γ L, Same F1 F ∧ Pv (i + 1) Γ L ∧ At X.K F0 F Γ L σ' H', fun σ' H' ⟨F3, Γ3, L3, a, b, c⟩ => ⟨m - 1, by omega, F3, Γ3, L3, by omega, a, b, c⟩, fun x H' hy => ?_⟩
      obtain ⟨d, F3, hdi, s3, l3, r3⟩ := it.yld i H2 x H' F2 L2 s2 E2.led hy hi
      refine hb F1 (cf.up E1.ge) i d Γ2 L2 hdi hP F3 σ2 H' x _ ((E2.to s3 l3).base (s2.trans s3)) r3 fun Γ4 L4 F4 σ4 H4 h4 E4 => ?_
      have q' := q.up (F1 := F1) E1.ge
      exact h4 F4 σ4 H4 _ E4 ⟨fun Γ L F σ H h E => ⟨F, Γ, L, E.ge, h, E.low E1.ge⟩, q'.rt, q'.nx, fun Γ L F σ H h E => ⟨F, Γ, L, E.ge, h, E.low E1.ge⟩⟩
    · have e : i = ds.length := by omega
      subst e
      exact .inl ⟨it.stop _ H2 F2 L2 (Nat.le_refl _) s2 E2.led, q.nx Γ2 L2 F2 σ2 H2 (hd Γ2 L2 hP) E2⟩)
/-! what is walked -/
variable {kl : List D → Lg → Prop}
theorem ei_list (h : EvK X F0 a Γ L fun x L1 => ∃ ds, x = .lst ds ∧ kl ds L1) : EiK X F0 tg a Γ L kl := fun F σ H R E q =>
  wpI.of (pi_list we) (h F σ H _ E fun x L1 F1 v H1 ⟨ds, e1, h1⟩ E1 s1 r1 => by
    subst e1
    cases r1 with
    | lst hx rx =>
      rename_i p xs
      refine ⟨p, rfl, ⟨xs, E1.led.sub.seq hx⟩, q ds L1 F1 H1 _ h1 E1 s1 ⟨?_, ?_, ?_⟩⟩
      · intro i H F' L' hi s l
        have hi' : i < xs.length := by rw [← rx.length]; exact hi
        exact ⟨xs, xs[i], l.sub.seq (s.seq hx), List.getElem?_eq_getElem hi'⟩
      · rintro i H x H' F' L' s l ⟨rfl, hy⟩ hi
        have hx' := hy xs (l.sub.seq (s.seq hx))
        obtain ⟨d, hd, rd⟩ := rx.got hx'
        exact ⟨d, F', hd, Same.refl F', l, rd.mono s⟩
      · intro i H F' L' hi s l
        exact ⟨xs, l.sub.seq (s.seq hx), by rw [← rx.length]; exact hi⟩)
theorem ei_tup (h : EvK X F0 a Γ L fun x L1 => ∃ ds, x = .tup ds ∧ kl ds L1) : EiK X F0 tg a Γ L kl := fun F σ H R E q =>
  wpI.of (pi_tup we) (h F σ H _ E fun x L1 F1 v H1 ⟨ds, e1, h1⟩ E1 s1 r1 => by
    subst e1
    cases r1 with
    | tup hx rx =>
      rename_i p xs
      refine ⟨p, rfl, ⟨xs, seqT E1.led.sub hx⟩, q ds L1 F1 H1 _ h1 E1 s1 ⟨?_, ?_, ?_⟩⟩
      · intro i H F' L' hi s l
        have hi' : i < xs.length := by rw [← rx.length]; exact hi
        exact ⟨xs, xs[i], seqT l.sub (seqT s hx), List.getElem?_eq_getElem hi'⟩
      · rintro i H x H' F' L' s l ⟨rfl, hy⟩ hi
        have hx' := hy xs (seqT l.sub (seqT s hx))
        obtain ⟨d, hd, rd⟩ := rx.got hx'
        exact ⟨d, F', hd, Same.refl F', l, rd.mono s⟩
      · intro i H F' L' hi s l
        exact ⟨xs, seqT l.sub (seqT s hx), by rw [← rx.length]; exact hi⟩)
def rangeD (lo : Int) (n : Nat) : List D := (List.range n).map fun (i : Nat) => D.int (lo + (i : Int))
theorem rangeD_get {lo : Int} {n i : Nat} (h : i < n) : (rangeD lo n)[i]? = some (.int (lo + (i : Int))) := by
  unfold rangeD
  rw [List.getElem?_map, List.getElem?_range h]
  rfl
theorem rangeD_len {lo : Int} {n : Nat} : (rangeD lo n).length = n := by unfold rangeD; rw [List.length_map, List.length_range]
theorem itr_ok {K : PySem.W.Frag} {F : Hp} {lo : Int} {n : Nat} : ItD K (rangeD lo n) F (Itr lo n) := by
  refine ⟨?_, ?_, ?_⟩
  · intro i H F' L' hi _ _
    rw [rangeD_len] at hi
    exact hi
  · rintro i H x H' F' L' _ l ⟨rfl, rfl⟩ hi
    rw [rangeD_len] at hi
    exact ⟨_, F', rangeD_get hi, Same.refl F', l, .int⟩
  · intro i H F' L' hi _ _
    rw [rangeD_len] at hi
    exact hi
theorem ei_range1 {p : Pos} (hm : X.mg "range" = none) (hg : Gl X "range") (h : EvK X F0 a Γ L fun x L1 => ∃ j : Int, x = .int j ∧ (-(2 ^ 62) ≤ j ∧ j < 2 ^ 62) ∧ kl (rangeD 0 j.toNat) L1)
    (hs : starEach [a] X.env = [(false, eval a X.env)] := by rfl) : EiK X F0 tg (.Call (.Name "range" p) [a] [] pos) Γ L kl := fun F σ H R E q =>
  wpI.of (pi_range1 hg hm (pa_cons we pa_nil hs) hs) (h F σ H _ E fun x L1 F1 v H1 ⟨j, e1, hj, h1⟩ E1 s1 r1 => by
    subst e1
    cases r1
    exact ⟨j, rfl, hj.1, hj.2, q _ L1 F1 H1 _ h1 E1 s1 itr_ok⟩)
theorem ei_range2 {p : Pos} (hm : X.mg "range" = none) (hg : Gl X "range") (h : EvK X F0 a Γ L fun x L1 => ∃ i : Int, x = .int i ∧ EvK X F0 b Γ L1 fun y L2 => ∃ j : Int, y = .int j ∧ (-(2 ^ 62) ≤ i ∧ i < 2 ^ 62 ∧ -(2 ^ 62) ≤ j ∧ j < 2 ^ 62) ∧ kl (rangeD i (j - i).toNat) L2)
    (hs : starEach [a, b] X.env = [(false, eval a X.env), (false, eval b X.env)] := by rfl) (hs2 : starEach [b] X.env = [(false, eval b X.env)] := by rfl) : EiK X F0 tg (.Call (.Name "range" p) [a, b] [] pos) Γ L kl := fun F σ H R E q =>
  wpI.of (pi_range2 hg hm (pa_cons we (pa_cons we pa_nil hs2) (by rw [hs, hs2])) hs hs2) (h F σ H _ E fun x L1 F1 v H1 ⟨i, e1, h1⟩ E1 s1 r1 => h1 F1 σ H1 _ E1 fun y L2 F2 u H2 ⟨j, e2, hj, h2⟩ E2 s2 r2 => by
    subst e1 e2
    cases r1
    cases r2
    exact ⟨i, j, rfl, hj, q _ L2 F2 H2 _ h2 E2 (s1.trans s2) itr_ok⟩)
end
end Vs

set_option Elab.async false
set_option linter.all false
set_option maxRecDepth 100000
set_option maxHeartbeats 4000000
namespace Vs
open PySem PySem.Spec PyProof.Rows L2
/-! ### comprehensions -/
def wpPs (X : Cx) (ifs : List Expr) : TT := fun σ H Q => ∀ pins s, Inv X pins σ H s →
    wpAny (model X.prog X.w) X.A (forIn ifs true fun c r => if r = true then do let ok ← isTrue c X.env (eval c X.env); pure (ForInStep.yield ok) else pure (ForInStep.yield r)) (TP X pins σ Q) X.xe s
def EsK (X : Cx) (F0 : Hp) (ifs : List Expr) (Γ : Gm) (L : Lg) (k : Bool → Lg → Prop) : Prop := ∀ (F : Hp) (σ : L2.St) (H : Hp) (Q : Bool → Hp → Prop), At X.K F0 F Γ L σ H →
  (∀ (b : Bool) (L' : Lg) (F' : Hp) (H' : Hp), k b L' → At X.K F0 F' Γ L' σ H' → Same F F' → Q b H') → wpPs X ifs σ H Q
section
variable {X : Cx} {F0 : Hp} {Γ : Gm} {L : Lg} {k : D → Lg → Prop} {ka : List D → Lg → Prop} {kt : Bool → Lg → Prop} {e a b c o : Expr} {es rest : List Expr} {pos p2 apos cpos : Pos} {N Nc : List Str} {sc : Scope} {Z : Xc → Gm → Lg → Prop}
theorem wps {ifs : List Expr} : PTs X ifs (wpPs X ifs) := ⟨fun pins s _ _ _ I h => h pins s I⟩
theorem es_nil (h : kt true L) : EsK X F0 [] Γ L kt := fun F σ H Q E q => fun pins s I => pts_nil.run pins s σ H Q I (q true L F H h E (Same.refl F))
theorem es_one (h : EtK X F0 a Γ L kt) : EsK X F0 [a] Γ L kt := fun F σ H Q E q => fun pins s I => (pts_one wt).run pins s σ H Q I (h F σ H Q E q)
/-- the names of a comprehension's block -/
structure Cb (X : Cx) (N : List Str) (sc bs : Scope) : Prop where
  n : X.N = N
  nd : N.Nodup
  vis : ∀ x, (bs.names.lookup x = some .local ∨ bs.names.lookup x = some .cell ∨ bs.names.lookup x = some .free) → Vis X.env.scope x
  own : ∀ x, bs.names.lookup x = some .local → X.env.scope.names.lookup x = some .local
  cel : ∀ x, bs.names.lookup x = some .cell → X.env.scope.names.lookup x = some .cell ∧ X.fn x = true
  glo : ∀ x, bs.names.lookup x = some .globalImplicit → Gl X x
  calm : X.calm = true
  rel : ∃ env : Env, X.env.scope = relabel bs env
theorem relabel_free {env : Env} : ∀ {names : List (Str × NameKind)} {x : Str} {q : NameKind}, names.lookup x = some q →
    (names.map fun (n, k) => if (k == NameKind.free && env.scope.kind == .function && env.kindOf n == some .cell) then (n, NameKind.cell) else (n, k)).lookup x = some q ∨
    (q = .free ∧ (names.map fun (n, k) => if (k == NameKind.free && env.scope.kind == .function && env.kindOf n == some .cell) then (n, NameKind.cell) else (n, k)).lookup x = some .cell)
  | [], x, q, h => by simp at h
  | (n, kk) :: r, x, q, h => by
    rw [List.lookup_cons] at h
    rw [List.map_cons]
    by_cases hx : x == n
    · rw [hx] at h
      have h' : kk = q := Option.some.inj h
      subst h'
      dsimp only
      split
      · rename_i hc
        refine .inr ⟨?_, ?_⟩
        · simp only [Bool.and_eq_true, beq_iff_eq] at hc
          exact hc.1.1
        · rw [List.lookup_cons, hx]
      · refine .inl ?_
        rw [List.lookup_cons, hx]
    · have hx' : (x == n) = false := by simpa using hx
      rw [hx'] at h
      have ih := relabel_free (env := env) (names := r) (x := x) (q := q) h
      have key : ∀ (t : List (Str × NameKind)) (y : Str × NameKind), y.1 = n → (y :: t).lookup x = t.lookup x := fun t y hy => by
        obtain ⟨y1, y2⟩ := y
        rw [List.lookup_cons]
        dsimp only at hy
        rw [hy, hx']
      rw [key _ _ (by dsimp only; split <;> rfl)]
      exact ih
theorem blk_okM {M : List Str} {sc' : Scope} {s : Shared} {H : Hp} {C : Addr} {cl : List (Str × Addr)} {fp : List Addr} {bs : Scope} (hn : X.N = M) (nd : M.Nodup) (hc : X.calm = true) : Cb (X.blk s H bs (compEnvC bs cl C X.env) fp) M sc' bs where
  n := hn
  nd := nd
  vis := fun x h => by
    show Vis (relabel bs X.env) x
    unfold Vis
    rcases h with h | h | h
    · rcases relabel_free (env := X.env) h with h2 | ⟨h2, _⟩
      · exact .inl h2
      · cases h2
    · rcases relabel_free (env := X.env) h with h2 | ⟨h2, _⟩
      · exact .inr (.inl h2)
      · cases h2
    · rcases relabel_free (env := X.env) h with h2 | ⟨_, h2⟩
      · exact .inr (.inr h2)
      · exact .inr (.inl h2)
  own := fun x h => by
    rcases relabel_free (env := X.env) h with h2 | ⟨h2, _⟩
    · exact h2
    · cases h2
  cel := fun x h => by
    rcases relabel_free (env := X.env) h with h2 | ⟨h2, _⟩
    · exact ⟨h2, by show (bs.names.lookup x == some .cell) = true; rw [h]; rfl⟩
    · cases h2
  glo := fun x h => by
    rcases relabel_free (env := X.env) h with h2 | ⟨h2, _⟩
    · exact h2
    · cases h2
  calm := hc
  rel := ⟨X.env, rfl⟩
theorem relabel_lk {env : Env} {bs : Scope} {x : Str} (h : bs.names.lookup x = some .cell ∨ bs.names.lookup x = some .free) : (relabel bs env).names.lookup x = some .cell ∨ (relabel bs env).names.lookup x = some .free := by
  rcases h with h | h
  · rcases relabel_free (env := env) h with h2 | ⟨h2, _⟩
    · exact .inl h2
    · cases h2
  · rcases relabel_free (env := env) h with h2 | ⟨_, h2⟩
    · exact .inr h2
    · exact .inl h2
theorem blk_rel {M : List Str} {env : Env} {bs0 bs : Scope} {own : List (Str × Nat)} (h : BlkOk M bs0 bs own) : BlkOk M (relabel bs0 env) bs own :=
  ⟨h.kind, h.uniq, h.ix, fun y hy e => relabel_lk (h.free y hy e), h.own⟩
/-- a name read in a block -/
theorem ek_b {bs : Scope} (c : Cb X N sc bs) {i : Nat} {x : Str} {d : D} (g : Get Γ i (some d)) (h : k d L) (hi : N[i]? = some x := by rfl) (hv : bs.names.lookup x = some .local ∨ bs.names.lookup x = some .cell ∨ bs.names.lookup x = some .free := by first | exact .inl rfl | exact .inr (.inr rfl) | exact .inr (.inl rfl))
    (hd : (x == ("__debug__" : Str)) = false := by decide) (hcd : (x == ("__classdict__" : Str)) = false := by decide) : EvK X F0 (.Name x pos) Γ L k :=
  ek_v (pe_var (by rw [c.n]; exact hi) (c.vis x hv) hd hcd) g h
/-- the block's own places forgotten -/
def wipeG (Γ : Gm) : List Nat → Gm
  | [] => Γ
  | v :: vs => (wipeG Γ vs).set v none
theorem Slots.wset {K : PySem.W.Frag} {F : Hp} {x : Option V} : ∀ {Γ : Gm} {σ : L2.St} {i : Nat}, Slots K F Γ σ → Slots K F (Γ.set i none) (σ.set i x)
  | _, _, _, .nil => .nil
  | _, _, 0, .so _ t => .no t
  | _, _, 0, .no t => .no t
  | _, _, i + 1, .so r t => .so r (Slots.wset t)
  | _, _, i + 1, .no t => .no (Slots.wset t)
theorem Slots.wipe {K : PySem.W.Frag} {F : Hp} {Γ : Gm} {σ : L2.St} (h : Slots K F Γ σ) : ∀ vs : List Nat, Slots K F (wipeG Γ vs) (wipe σ vs)
  | [] => h
  | v :: vs => (Slots.wipe h vs).wset
theorem Led.last {K : PySem.W.Frag} {F H : Hp} {L : Lg} {q : Addr} {ds : List D} {xs : List V} (e : Led K F L H) (h : H q = none) (r : Reps K F ds xs) : Led K F (L ++ [(q, .lst ds)]) (upd H q (.lst xs)) := by
  have l := e.newL h r
  refine ⟨l.sub, ?_, fun p hp => l.ent p ?_⟩
  · have nd := l.nod
    rw [List.map_cons] at nd
    rw [List.map_append]
    obtain ⟨n1, n2⟩ := List.nodup_cons.mp nd
    refine List.nodup_append.mpr ⟨n2, by simp, fun a ha b hb z => ?_⟩
    have hb' : b = q := by simpa using hb
    subst z
    rw [hb'] at ha
    exact n1 ha
  · rcases List.mem_append.mp hp with h | h
    · exact List.mem_cons_of_mem _ h
    · have : p = (q, .lst ds) := by simpa using h
      rw [this]
      exact List.mem_cons_self
theorem get_last {α : Type} {x : α} : ∀ (xs : List α), Get (xs ++ [x]) xs.length x
  | [] => .z
  | _ :: xs => .s (get_last xs)
theorem put_last {α : Type} {x y : α} : ∀ (xs : List α), Put (xs ++ [x]) xs.length y (xs ++ [y])
  | [] => .z
  | _ :: xs => .s (put_last xs)
theorem Led.unlast {K : PySem.W.Frag} {F H : Hp} {L : Lg} {q : Addr} {ds : List D} (e : Led K F (L ++ [(q, .lst ds)]) H) : ∃ xs, H q = some (.lst xs) ∧ Led K (upd F q (.lst xs)) L H ∧ Same F (upd F q (.lst xs)) ∧ Reps K F ds xs := by
  have g := get_last (x := (q, C.lst ds)) L
  obtain ⟨xs, h1, h2⟩ := e.lst g
  have fq : F q = none := (e.ent _ g.mem).1
  have s1 : Same F (upd F q (.lst xs)) := same_new fq
  refine ⟨xs, h1, ⟨fun b u z => ?_, ?_, fun p hp => ?_⟩, s1, h2⟩
  · by_cases hb : b = q
    · subst hb; rw [upd_same] at z; rw [h1]; exact z
    · rw [upd_ne hb] at z; exact e.sub b u z
  · have nd := e.nod
    rw [List.map_append] at nd
    exact (List.nodup_append.mp nd).1
  · obtain ⟨a1, a2⟩ := e.ent p (List.mem_append_left _ hp)
    have ne : p.1 ≠ q := fun z => by
      have nd := e.nod
      rw [List.map_append] at nd
      exact (List.nodup_append.mp nd).2.2 p.1 (List.mem_map_of_mem hp) q (by simp) z
    exact ⟨(upd_ne ne).trans a1, a2.mono s1 rfl⟩

theorem wipe_in {σ : L2.St} {i : Nat} : ∀ {vs : List Nat}, i ∈ vs → (wipe σ vs)[i]? = if i < σ.length then some none else none
  | [], h => by cases h
  | v :: vs, h => by
    show ((wipe σ vs).set v none)[i]? = _
    rw [List.getElem?_set]
    by_cases hv : v = i
    · rw [if_pos hv, hv, wipe_length]
    · rw [if_neg hv]
      rcases List.mem_cons.mp h with h | h
      · exact absurd h.symm hv
      · exact wipe_in h
theorem wipe_set {σ : L2.St} {j : Nat} {x : Option V} {vs : List Nat} (h : j ∈ vs) : wipe (σ.set j x) vs = wipe σ vs := by
  refine List.ext_getElem? fun i => ?_
  by_cases hi : i ∈ vs
  · rw [wipe_in hi, wipe_in hi, List.length_set]
  · rw [wipe_out hi, wipe_out hi, List.getElem?_set, if_neg (fun (z : j = i) => hi (z ▸ h))]
/-- a block's target: only the places vs are put -/
def TbK (X : Cx) (F0 : Hp) (tg : Expr) (vs : List Nat) (d : D) (Γ : Gm) (L : Lg) (k : Gm → Lg → Prop) : Prop := ∀ (F : Hp) (σ : L2.St) (H : Hp) (v : V) (Q : L2.St → Hp → Prop), At X.K F0 F Γ L σ H → Rep X.K F d v →
  (∀ Γ' L' F' σ' H', k Γ' L' → At X.K F0 F' Γ' L' σ' H' → Same F F' → wipe σ' vs = wipe σ vs → Q σ' H') → wpG X tg v σ H Q
theorem tb_n {bs : Scope} (c : Cb X N sc bs) {j : Nat} {x : Str} {d : D} {vs : List Nat} {kg : Gm → Lg → Prop} (h : ∃ Γ', Put Γ j (some d) Γ' ∧ kg Γ' L) (hj : N[j]? = some x := by rfl) (hv : bs.names.lookup x = some .local ∨ bs.names.lookup x = some .cell := by first | exact .inl rfl | exact .inr rfl) (hm : j ∈ vs := by decide) : TbK X F0 (.Name x pos) vs d Γ L kg := fun F σ H v Q E r q => by
  obtain ⟨Γ', p, hk⟩ := h
  have hl : Loc X.env.scope x ∧ (X.fn x = true ∨ X.env.scope.names.lookup x = some .local) := by
    rcases hv with z | z
    · exact ⟨.inl (c.own x z), .inr (c.own x z)⟩
    · exact ⟨.inr (c.cel x z).1, .inl (c.cel x z).2⟩
  exact wpG.of (pg_name (i := j) (by rw [c.n]; exact c.nd) (by rw [c.n]; exact hj) hl.1 hl.2) (q Γ' L F _ H hk ⟨E.ge, E.led, E.sl.put r p⟩ (Same.refl F) (wipe_set hm))

theorem Get.app {α : Type} {x : α} {ys : List α} : ∀ {xs : List α} {i : Nat}, Get xs i x → Get (xs ++ ys) i x
  | _, _, .z => .z
  | _, _, .s g => .s g.app
theorem AsL.app {L M : Lg} {x : D} {ds : List D} (h : AsL L x ds) : AsL (L ++ M) x ds := by
  cases h with
  | lst => exact .lst
  | own g => exact .own g.app
/-! what is walked in a comprehension: the ledger stays -/
structure ItP (K : PySem.W.Frag) (L : Lg) (ds : List D) (F : Hp) (J : It) : Prop where
  go : ∀ i H F' L', i < ds.length → Same F F' → Led K F' (L ++ L') H → J.go i H
  yld : ∀ i H x H' F' L', Same F F' → Led K F' (L ++ L') H → J.yld i H x H' → i < ds.length → ∃ d F'', ds[i]? = some d ∧ Same F' F'' ∧ Led K F'' (L ++ L') H' ∧ Rep K F'' d x
  stop : ∀ i H F' L', ds.length ≤ i → Same F F' → Led K F' (L ++ L') H → J.stop i H
def EiP (X : Cx) (F0 : Hp) (tg iter : Expr) (Γ : Gm) (L : Lg) (k : List D → Lg → Prop) : Prop := ∀ (F : Hp) (σ : L2.St) (H : Hp) (R : It → Hp → Prop), At X.K F0 F Γ L σ H →
  (∀ ds L' F' H' J, k ds L' → At X.K F0 F' Γ L' σ H' → Same F F' → ItP X.K L' ds F' J → R J H') → wpI X tg iter σ H R
theorem ei_p {tg iter : Expr} {kl : List D → Lg → Prop} (h : EiK X F0 tg iter Γ L kl) : EiP X F0 tg iter Γ L kl := fun F σ H R E q => h F σ H R E fun ds L' F' H' J hk E' s it =>
  q ds L' F' H' J hk E' s ⟨fun i H F1 L1 hi s l => it.go i H F1 _ hi s l, fun i H x H' F1 L1 s l hy hi => it.yld i H x H' F1 _ s l hy hi, fun i H F1 L1 hi s l => it.stop i H F1 _ hi s l⟩
theorem eip_mono {tg iter : Expr} {kl kl' : List D → Lg → Prop} (h : EiP X F0 tg iter Γ L kl) (hk : ∀ ds L', kl ds L' → kl' ds L') : EiP X F0 tg iter Γ L kl' := fun F σ H R E q => h F σ H R E fun ds L' F' H' J h1 => q ds L' F' H' J (hk ds L' h1)
theorem eip_as {tg : Expr} {kl : List D → Lg → Prop} (h : EvK X F0 a Γ L fun x L1 => ∃ ds, AsL L1 x ds ∧ kl ds L1) : EiP X F0 tg a Γ L kl := fun F σ H R E q =>
  wpI.of (pi_list we) (h F σ H _ E fun x L1 F1 v H1 ⟨ds, as, h1⟩ E1 s1 r1 => by
    obtain ⟨p, xs, rfl, hx, rx⟩ := as.read E1.led r1
    have rd : ∀ {F' : Hp} {L' : Lg} {H' : Hp}, Same F1 F' → Led X.K F' (L1 ++ L') H' → ∃ xs, SqL X.K H' p xs ∧ Reps X.K F' ds xs := fun s l => by
      obtain ⟨p', ys, e, hy, ry⟩ := as.app.read l (r1.mono s)
      cases e
      exact ⟨ys, hy, ry⟩
    refine ⟨p, rfl, ⟨xs, hx⟩, q ds L1 F1 H1 _ h1 E1 s1 ⟨?_, ?_, ?_⟩⟩
    · intro i H F' L' hi s l
      obtain ⟨ys, hy, ry⟩ := rd s l
      have hi' : i < ys.length := by rw [← ry.length]; exact hi
      exact ⟨ys, ys[i], hy, List.getElem?_eq_getElem hi'⟩
    · rintro i H x H' F' L' s l ⟨rfl, hy⟩ hi
      obtain ⟨ys, hy2, ry⟩ := rd s l
      obtain ⟨d, hd, rd'⟩ := ry.got (hy ys hy2)
      exact ⟨d, F', hd, Same.refl F', l, rd'⟩
    · intro i H F' L' hi s l
      obtain ⟨ys, hy, ry⟩ := rd s l
      exact ⟨ys, hy, by rw [← ry.length]; exact hi⟩)
/-- a heap above F0 -/
structure UpH (F0 : Hp) where
  h : Hp
  s : Same F0 h
def gS (X : Cx) (bs : Scope) (tg : Expr) : TG := fun v σ H Q => ∀ s0 H0 C cl fp, wpG (X.blk s0 H0 bs (compEnvC bs cl C X.env) fp) tg v σ H Q
def tS (X : Cx) (bs : Scope) (ifs : List Expr) : TT := fun σ H Q => ∀ s0 H0 C cl fp, wpPs (X.blk s0 H0 bs (compEnvC bs cl C X.env) fp) ifs σ H Q
def eS (X : Cx) (bs : Scope) (elt : Expr) : TE := fun σ H Q => ∀ s0 H0 C cl fp, wpE (X.blk s0 H0 bs (compEnvC bs cl C X.env) fp) elt σ H Q
theorem pgS {bs : Scope} {tg : Expr} (s0 : Shared) (H0 : Hp) (C : Addr) (cl : List (Str × Addr)) (fp : List Addr) : PG (X.blk s0 H0 bs (compEnvC bs cl C X.env) fp) tg (gS X bs tg) := ⟨fun pins s _ _ _ u _ I r h => h s0 H0 C cl fp pins s u I r⟩
theorem ptS {bs : Scope} {ifs : List Expr} (s0 : Shared) (H0 : Hp) (C : Addr) (cl : List (Str × Addr)) (fp : List Addr) : PTs (X.blk s0 H0 bs (compEnvC bs cl C X.env) fp) ifs (tS X bs ifs) := ⟨fun pins s _ _ _ I h => h s0 H0 C cl fp pins s I⟩
theorem peS {bs : Scope} {elt : Expr} (s0 : Shared) (H0 : Hp) (C : Addr) (cl : List (Str × Addr)) (fp : List Addr) : PE (X.blk s0 H0 bs (compEnvC bs cl C X.env) fp) elt (eS X bs elt) := ⟨fun pins s _ _ _ I h => h s0 H0 C cl fp pins s I⟩
theorem rd_lc {elt tg iter : Expr} {ifs : List Expr} {bs : Scope} (own : List (Str × Nat)) {M : List Str} {sc' : Scope} (hM : X.N = M) (nd : M.Nodup) (hc : X.calm = true)
    (h : EiP X F0 tg iter Γ L fun ds L1 => ∃ es : List (Option D), es.length = ds.length ∧ ds.length ≤ 1000000 ∧
      (∀ (F1 : UpH F0) (n : Nat) (d : D) (e : Option D) (acc : List D) (Dp : Addr), ds[n]? = some d → es[n]? = some e →
        (∀ X', Cb X' M sc' bs → (∃ s H C cl fp, X' = X.blk s H bs (compEnvC bs cl C X.env) fp) → TbK X' F1.h tg (own.map (·.2)) d (wipeG Γ (own.map (·.2))) (L1 ++ [(Dp, .lst acc)]) fun Γ2 L2 => L2 = L1 ++ [(Dp, .lst acc)] ∧
          (∀ X', Cb X' M sc' bs → (∃ s H C cl fp, X' = X.blk s H bs (compEnvC bs cl C X.env) fp) → EsK X' F1.h ifs Γ2 L2 fun t L3 => L3 = L2 ∧
            (t = true → ∀ X', Cb X' M sc' bs → (∃ s H C cl fp, X' = X.blk s H bs (compEnvC bs cl C X.env) fp) → EvK X' F1.h elt Γ2 L2 fun y L4 => L4 = L2 ∧ e = some y) ∧ (t = false → e = none)))) ∧ k (.lst (es.filterMap id)) L1)
    : RdK X F0 (tLc (wpI X tg iter) (gS X bs tg) (tS X bs ifs) (eS X bs elt) (own.map (·.2))) Γ L k := fun F σ H Q E q => by
  refine h F σ H _ E fun ds L1 F1 H1 J ⟨es, hes, hds, hb, hk⟩ E1 s1 it => ?_
  intro Dp hD
  have len : ∀ i, ((es.take i).filterMap id).length ≤ es.length := fun i => Nat.le_trans (List.length_filterMap_le _ _) (by rw [List.length_take]; exact Nat.min_le_right _ _)
  refine ⟨fun i m H => i + m = ds.length ∧ ∃ F, Same F1 F ∧ At X.K F0 F Γ (L1 ++ [(Dp, .lst ((es.take i).filterMap id))]) σ H, ⟨ds.length, by omega, F1, Same.refl F1, E1.to (Same.refl F1) (E1.led.last hD .nil)⟩, ?_⟩
  rintro i m H2 ⟨hm, F2, s2, E2⟩
  by_cases hi : i < ds.length
  · refine .inr ⟨it.go i H2 F2 _ hi s2 E2.led, fun H' => ∃ F, Same F1 F ∧ At X.K F0 F Γ (L1 ++ [(Dp, .lst ((es.take (i + 1)).filterMap id))]) σ H', fun H' ⟨F3, a, b⟩ => ⟨m - 1, by omega, by omega, F3, a, b⟩, fun x H' hy => ?_⟩
    obtain ⟨d, F3, hdi, s3, l3, r3⟩ := it.yld i H2 x H' F2 _ s2 E2.led hy hi
    have E3 := E2.to s3 l3
    have hei : ∃ e, es[i]? = some e := ⟨es[i]'(by omega), List.getElem?_eq_getElem (by omega)⟩
    obtain ⟨e, hei⟩ := hei
    have htk : (es.take (i + 1)).filterMap id = (es.take i).filterMap id ++ e.toList := by
      rw [List.take_add_one, hei, List.filterMap_append]
      cases e <;> rfl
    intro s0 H0 C0 cl0 fp0
    refine hb ⟨F1, E1.ge⟩ i d e ((es.take i).filterMap id) Dp hdi hei _ (blk_okM hM nd hc) ⟨s0, H0, C0, cl0, fp0, rfl⟩ F3 (wipe σ (own.map (·.2))) H' x _ ⟨s2.trans s3, E3.led, E3.sl.wipe _⟩ r3 ?_
    rintro Γ4 L4 F4 σ4 H4 ⟨rfl, h4⟩ E4 s4 hw
    refine ⟨by rw [hw]; refine List.ext_getElem? fun z => ?_; by_cases hz : z ∈ own.map (·.2); (rw [wipe_in hz, wipe_in hz, wipe_length]); (rw [wipe_out hz]), ?_⟩
    intro s0 H0 C0 cl0 fp0
    refine h4 _ (blk_okM hM nd hc) ⟨s0, H0, C0, cl0, fp0, rfl⟩ F4 σ4 H4 _ E4 ?_
    rintro t L5 F5 H5 ⟨rfl, h5, h6⟩ E5 s5
    cases t with
    | false =>
      rw [if_neg Bool.false_ne_true]
      have e0 := h6 rfl
      subst e0
      refine ⟨F5, E5.ge, ?_⟩
      rw [htk]
      show At X.K F0 F5 Γ (L1 ++ [(Dp, C.lst ((es.take i).filterMap id ++ []))]) σ H5
      rw [List.append_nil]
      exact E3.to (s4.trans s5) E5.led
    | true =>
      rw [if_pos rfl]
      intro s0 H0 C0 cl0 fp0
      refine h5 rfl _ (blk_okM hM nd hc) ⟨s0, H0, C0, cl0, fp0, rfl⟩ F5 σ4 H5 _ E5 ?_
      rintro y L6 F6 v6 H6 ⟨rfl, he⟩ E6 s6 r6
      subst he
      have g := get_last (x := (Dp, C.lst ((es.take i).filterMap id))) L1
      obtain ⟨xs, hx, rx⟩ := E6.led.lst g
      refine ⟨xs, hx, ?_, F6, E6.ge, ?_⟩
      · rw [← rx.length]
        exact Nat.lt_of_le_of_lt (len i) (Nat.lt_of_le_of_lt (by rw [hes]; exact hds) (by decide))
      · rw [htk]
        exact E3.to (s4.trans (s5.trans s6)) (E6.led.put g (put_last L1) ⟨_, upd_same, rx.append (.cons r6 .nil)⟩)
  · have e : i = ds.length := by omega
    subst e
    refine .inl ⟨it.stop _ H2 F2 _ (Nat.le_refl _) s2 E2.led, ?_⟩
    have e2 : es.take ds.length = es := List.take_of_length_le (by omega)
    rw [e2] at E2
    obtain ⟨xs, hx, l, s3, r⟩ := E2.led.unlast
    exact q _ L1 _ _ _ hk (E2.to s3 l) (s1.trans (s2.trans s3)) (.lst (.inl (.inl upd_same)) (r.mono s3))
theorem ek_lc {elt tg iter : Expr} {ifs : List Expr} {bs : Scope} (own : List (Str × Nat)) (cf : Cn X N Nc sc) (hc : X.calm = true) (ok : blkC (N ++ Nc) sc bs own = true)
    (h : EiP X F0 tg iter Γ L fun ds L1 => ∃ es : List (Option D), es.length = ds.length ∧ ds.length ≤ 1000000 ∧
      (∀ (F1 : UpH F0) (n : Nat) (d : D) (e : Option D) (acc : List D) (Dp : Addr), ds[n]? = some d → es[n]? = some e →
        (∀ X', Cb X' (N ++ Nc) sc bs → (∃ s H C cl fp, X' = X.blk s H bs (compEnvC bs cl C X.env) fp) → TbK X' F1.h tg (own.map (·.2)) d (wipeG Γ (own.map (·.2))) (L1 ++ [(Dp, .lst acc)]) fun Γ2 L2 => L2 = L1 ++ [(Dp, .lst acc)] ∧
          (∀ X', Cb X' (N ++ Nc) sc bs → (∃ s H C cl fp, X' = X.blk s H bs (compEnvC bs cl C X.env) fp) → EsK X' F1.h ifs Γ2 L2 fun t L3 => L3 = L2 ∧
            (t = true → ∀ X', Cb X' (N ++ Nc) sc bs → (∃ s H C cl fp, X' = X.blk s H bs (compEnvC bs cl C X.env) fp) → EvK X' F1.h elt Γ2 L2 fun y L4 => L4 = L2 ∧ e = some y) ∧ (t = false → e = none)))) ∧ k (.lst (es.filterMap id)) L1)
    (hs : ∀ x, foldedSetIterable iter X.env x = pure x := by intro _; rfl) : EvK X F0 (.ListComp elt [⟨tg, iter, ifs, 0⟩] bs pos) Γ L k :=
  (rd_lc own cf.n cf.nd hc h).ev (pe_lc (own := own) hc (by rw [cf.n]; exact cf.nd) wi (by rw [cf.n, cf.scp]; exact blkOk_by ok) pgS ptS peS hs)
theorem sk_setLc {elt tg iter : Expr} {ifs : List Expr} {bs : Scope} {ks : Ks} {j : Nat} {y : Str} {py spos : Pos} (own : List (Str × Nat)) (cf : Cn X N Nc sc) (hc : X.calm = true) (ok : blkC (N ++ Nc) sc bs own = true)
    (h : EiP X F0 tg iter Γ L fun ds L1 => ∃ es : List (Option D), es.length = ds.length ∧ ds.length ≤ 1000000 ∧
      (∀ (F1 : UpH F0) (n : Nat) (d : D) (e : Option D) (acc : List D) (Dp : Addr), ds[n]? = some d → es[n]? = some e →
        (∀ X', Cb X' (N ++ Nc) sc bs → (∃ s H C cl fp, X' = X.blk s H bs (compEnvC bs cl C X.env) fp) → TbK X' F1.h tg (own.map (·.2)) d (wipeG Γ (own.map (·.2))) (L1 ++ [(Dp, .lst acc)]) fun Γ2 L2 => L2 = L1 ++ [(Dp, .lst acc)] ∧
          (∀ X', Cb X' (N ++ Nc) sc bs → (∃ s H C cl fp, X' = X.blk s H bs (compEnvC bs cl C X.env) fp) → EsK X' F1.h ifs Γ2 L2 fun t L3 => L3 = L2 ∧
            (t = true → ∀ X', Cb X' (N ++ Nc) sc bs → (∃ s H C cl fp, X' = X.blk s H bs (compEnvC bs cl C X.env) fp) → EvK X' F1.h elt Γ2 L2 fun y L4 => L4 = L2 ∧ e = some y) ∧ (t = false → e = none)))) ∧ ∃ Γ', Put Γ j (some (.lst (es.filterMap id))) Γ' ∧ ks.nx Γ' L1)
    (hj : N[j]? = some y := by rfl) (hyl : sc.names.lookup y = some .local := by rfl)
    (hl : (py.line == pos.line) = true := by rfl) (hn : (bs.names.any fun (n, k) => n == y && (k == .local || k == .cell)) = false := by decide +kernel) (hk : sc.kind = .function := by rfl)
    (hs : ∀ x, foldedSetIterable iter X.env x = pure x := by intro _; rfl) : SK X F0 (.Assign [.Name y py] (.ListComp elt [⟨tg, iter, ifs, 0⟩] bs pos) spos) Γ L ks := fun F σ H Dn E q =>
  wpS.of (ps_setLc (own := own) hc (by rw [cf.n]; exact cf.nd) (by rw [cf.n]; exact get_app hj) (by rw [cf.scp]; exact hyl) (sw_true (by rw [cf.scp]; exact hk) (by rw [cf.scp]; exact hyl) hl hn) wi (by rw [cf.n, cf.scp]; exact blkOk_by ok) pgS ptS peS hs)
    (rd_lc own cf.n cf.nd hc (k := fun d L' => ∃ Γ', Put Γ j (some d) Γ' ∧ ks.nx Γ' L') h F σ H _ E fun d L1 F1 v H1 ⟨Γ', hp, h1⟩ E1 s1 r1 => q.nx Γ' L1 F1 _ H1 h1 ⟨E1.ge, E1.led, E1.sl.put r1 hp⟩)

/-- a comprehension within a comprehension's block -/
theorem ek_lcB {elt tg iter : Expr} {ifs : List Expr} {bs bs0 : Scope} {M : List Str} (own : List (Str × Nat)) (cb : Cb X M sc bs0) (ok : blkC M bs0 bs own = true)
    (h : EiP X F0 tg iter Γ L fun ds L1 => ∃ es : List (Option D), es.length = ds.length ∧ ds.length ≤ 1000000 ∧
      (∀ (F1 : UpH F0) (n : Nat) (d : D) (e : Option D) (acc : List D) (Dp : Addr), ds[n]? = some d → es[n]? = some e →
        (∀ X', Cb X' M sc bs → (∃ s H C cl fp, X' = X.blk s H bs (compEnvC bs cl C X.env) fp) → TbK X' F1.h tg (own.map (·.2)) d (wipeG Γ (own.map (·.2))) (L1 ++ [(Dp, .lst acc)]) fun Γ2 L2 => L2 = L1 ++ [(Dp, .lst acc)] ∧
          (∀ X', Cb X' M sc bs → (∃ s H C cl fp, X' = X.blk s H bs (compEnvC bs cl C X.env) fp) → EsK X' F1.h ifs Γ2 L2 fun t L3 => L3 = L2 ∧
            (t = true → ∀ X', Cb X' M sc bs → (∃ s H C cl fp, X' = X.blk s H bs (compEnvC bs cl C X.env) fp) → EvK X' F1.h elt Γ2 L2 fun y L4 => L4 = L2 ∧ e = some y) ∧ (t = false → e = none)))) ∧ k (.lst (es.filterMap id)) L1)
    (hs : ∀ x, foldedSetIterable iter X.env x = pure x := by intro _; rfl) : EvK X F0 (.ListComp elt [⟨tg, iter, ifs, 0⟩] bs pos) Γ L k := by
  obtain ⟨env, he⟩ := cb.rel
  exact (rd_lc own cb.n cb.nd cb.calm h).ev (pe_lc (own := own) cb.calm (by rw [cb.n]; exact cb.nd) wi (by rw [cb.n, he]; exact blk_rel (blkOk_by ok)) pgS ptS peS hs)
/-! without a test -/
theorem fm_some {es : List D} : (es.map some).filterMap id = es := by
  induction es with
  | nil => rfl
  | cons x xs ih => rw [List.map_cons, List.filterMap_cons]; exact congrArg (x :: ·) ih
section
variable {M : List Str} {elt tg iter : Expr} {bs : Scope}
/-- what the rules without a test ask -/
def LcM (X : Cx) (F0 : Hp) (M : List Str) (sc bs : Scope) (own : List (Str × Nat)) (elt tg : Expr) (Γ : Gm) (L1 : Lg) (ds es : List D) : Prop :=
  es.length = ds.length ∧ ds.length ≤ 1000000 ∧ ∀ (F1 : UpH F0) (n : Nat) (d e : D) (acc : List D) (Dp : Addr), ds[n]? = some d → es[n]? = some e →
    ∀ X', Cb X' M sc bs → (∃ s H C cl fp, X' = X.blk s H bs (compEnvC bs cl C X.env) fp) → TbK X' F1.h tg (own.map (·.2)) d (wipeG Γ (own.map (·.2))) (L1 ++ [(Dp, .lst acc)]) fun Γ2 L2 => L2 = L1 ++ [(Dp, .lst acc)] ∧
      ∀ X', Cb X' M sc bs → (∃ s H C cl fp, X' = X.blk s H bs (compEnvC bs cl C X.env) fp) → EvK X' F1.h elt Γ2 L2 fun y L4 => L4 = L2 ∧ y = e
theorem lcm_to {own : List (Str × Nat)} {L1 : Lg} {ds es : List D} {kk : D → Lg → Prop} (h : LcM X F0 M sc bs own elt tg Γ L1 ds es) (hk : kk (.lst es) L1) :
    ∃ es : List (Option D), es.length = ds.length ∧ ds.length ≤ 1000000 ∧
      (∀ (F1 : UpH F0) (n : Nat) (d : D) (e : Option D) (acc : List D) (Dp : Addr), ds[n]? = some d → es[n]? = some e →
        (∀ X', Cb X' M sc bs → (∃ s H C cl fp, X' = X.blk s H bs (compEnvC bs cl C X.env) fp) → TbK X' F1.h tg (own.map (·.2)) d (wipeG Γ (own.map (·.2))) (L1 ++ [(Dp, .lst acc)]) fun Γ2 L2 => L2 = L1 ++ [(Dp, .lst acc)] ∧
          (∀ X', Cb X' M sc bs → (∃ s H C cl fp, X' = X.blk s H bs (compEnvC bs cl C X.env) fp) → EsK X' F1.h [] Γ2 L2 fun t L3 => L3 = L2 ∧
            (t = true → ∀ X', Cb X' M sc bs → (∃ s H C cl fp, X' = X.blk s H bs (compEnvC bs cl C X.env) fp) → EvK X' F1.h elt Γ2 L2 fun y L4 => L4 = L2 ∧ e = some y) ∧ (t = false → e = none)))) ∧ kk (.lst (es.filterMap id)) L1 := by
  obtain ⟨h1, h2, h3⟩ := h
  refine ⟨es.map some, by rw [List.length_map]; exact h1, h2, fun F1 n d e acc Dp hd he X' cb hX' => ?_, by rw [fm_some]; exact hk⟩
  rw [List.getElem?_map] at he
  cases z : es[n]? with
  | none => rw [z] at he; cases he
  | some y =>
    rw [z] at he
    have he := Option.some.inj he
    subst he
    intro F σ H v Q E r q
    refine h3 F1 n d y acc Dp hd z X' cb hX' F σ H v Q E r fun Γ' L' F' σ' H' ⟨e1, h4⟩ E' s' w' => q Γ' L' F' σ' H' ⟨e1, fun X'' cb' hX'' => es_nil ⟨rfl, fun _ X3 cb3 hX3 => ?_, fun h => nomatch h⟩⟩ E' s' w'
    intro F σ H Q E q
    exact h4 X3 cb3 hX3 F σ H Q E fun d L' F' v H' ⟨a, b⟩ E' s r => q d L' F' v H' ⟨a, by rw [b]⟩ E' s r
theorem ei_mono {kl kl' : List D → Lg → Prop} (h : EiK X F0 tg iter Γ L kl) (hk : ∀ ds L', kl ds L' → kl' ds L') : EiK X F0 tg iter Γ L kl' := fun F σ H R E q => h F σ H R E fun ds L' F' H' J h1 => q ds L' F' H' J (hk ds L' h1)
theorem ek_lcM (own : List (Str × Nat)) (cf : Cn X N Nc sc) (hc : X.calm = true) (ok : blkC (N ++ Nc) sc bs own = true)
    (h : EiP X F0 tg iter Γ L fun ds L1 => ∃ es : List D, LcM X F0 (N ++ Nc) sc bs own elt tg Γ L1 ds es ∧ k (.lst es) L1)
    (hs : ∀ x, foldedSetIterable iter X.env x = pure x := by intro _; rfl) : EvK X F0 (.ListComp elt [⟨tg, iter, [], 0⟩] bs pos) Γ L k :=
  ek_lc own cf hc ok (eip_mono h fun ds L' ⟨es, h1, h2⟩ => lcm_to h1 h2) hs
theorem ek_lcBM {bs0 : Scope} (own : List (Str × Nat)) (cb : Cb X M sc bs0) (ok : blkC M bs0 bs own = true)
    (h : EiP X F0 tg iter Γ L fun ds L1 => ∃ es : List D, LcM X F0 M sc bs own elt tg Γ L1 ds es ∧ k (.lst es) L1)
    (hs : ∀ x, foldedSetIterable iter X.env x = pure x := by intro _; rfl) : EvK X F0 (.ListComp elt [⟨tg, iter, [], 0⟩] bs pos) Γ L k :=
  ek_lcB own cb ok (eip_mono h fun ds L' ⟨es, h1, h2⟩ => lcm_to h1 h2) hs
theorem sk_setLcM {ks : Ks} {j : Nat} {y : Str} {py spos : Pos} (own : List (Str × Nat)) (cf : Cn X N Nc sc) (hc : X.calm = true) (ok : blkC (N ++ Nc) sc bs own = true)
    (h : EiP X F0 tg iter Γ L fun ds L1 => ∃ es : List D, LcM X F0 (N ++ Nc) sc bs own elt tg Γ L1 ds es ∧ ∃ Γ', Put Γ j (some (.lst es)) Γ' ∧ ks.nx Γ' L1)
    (hj : N[j]? = some y := by rfl) (hyl : sc.names.lookup y = some .local := by rfl)
    (hl : (py.line == pos.line) = true := by rfl) (hn : (bs.names.any fun (n, k) => n == y && (k == .local || k == .cell)) = false := by decide +kernel) (hk : sc.kind = .function := by rfl)
    (hs : ∀ x, foldedSetIterable iter X.env x = pure x := by intro _; rfl) : SK X F0 (.Assign [.Name y py] (.ListComp elt [⟨tg, iter, [], 0⟩] bs pos) spos) Γ L ks :=
  sk_setLc own cf hc ok (eip_mono h fun ds L' ⟨es, h1, h2⟩ => lcm_to (kk := fun d L1 => ∃ Γ', Put Γ j (some d) Γ' ∧ ks.nx Γ' L1) h1 h2) hj hyl hl hn hk hs
end
end
end Vs

set_option Elab.async false
set_option linter.all false
set_option maxRecDepth 100000
set_option maxHeartbeats 4000000
namespace Vs
open PySem PySem.Spec PyProof.Rows L2
/-! ### isinstance -/
inductive ClsD : D → Value → Prop
  | ty {n : String} : ClsD (.ty n) (.type n)
  | own {C : Addr} : ClsD (.ref C) (.ref C)
theorem ClsD.v {K : PySem.W.Frag} {F : Hp} {d : D} {u : Value} {v : V} (c : ClsD d u) (r : Rep K F d v) : ClsV v u := by
  cases c <;> cases r
  · exact .ty _
  · exact .own _
theorem ClsD.vs {K : PySem.W.Frag} {F : Hp} : ∀ {ds : List D} {us : List Value} {vs : List V}, Paired ClsD ds us → Reps K F ds vs → Paired ClsV vs us
  | _, _, _, .nil, .nil => .nil
  | _, _, _, .cons c t, .cons r s => .cons (c.v r) (ClsD.vs t s)
/-- the type of a datum -/
inductive TyD (L : Lg) : D → String → Prop
  | non : TyD L .non "NoneType"
  | bl {b : Bool} : TyD L (.bl b) "bool"
  | int {i : Int} : TyD L (.int i) "int"
  | str {x : Str} : TyD L (.str x) "str"
  | lst {ds : List D} : TyD L (.lst ds) "list"
  | tup {ds : List D} : TyD L (.tup ds) "tuple"
  | own {p : Addr} {ds : List D} {j : Nat} : Get L j (p, C.lst ds) → TyD L (.ref p) "list"
theorem TyD.tyx {K : PySem.W.Frag} {F H : Hp} {L : Lg} {d : D} {n : String} {v : V} (t : TyD L d n) (l : Led K F L H) (r : Rep K F d v) : TyX K H v (.type n) := by
  cases t with
  | non => cases r; exact .base .non
  | bl => cases r; exact .base (.bl _)
  | int => cases r; exact .base (.int _)
  | str => cases r; exact .base (.str _)
  | lst =>
    cases r with
    | lst h r =>
      rcases h with (h | ⟨o, h⟩) | ⟨o, its, m, h1, h2, _⟩
      · exact .base (.lst (l.sub _ _ h))
      · exact .base (.frz (l.sub _ _ h))
      · exact .kList h1 h2
  | tup =>
    cases r with
    | tup h r =>
      rcases h with (h | ⟨o, h⟩) | ⟨o, its, m, h1, h2, _⟩
      · exact .base (.tup (l.sub _ _ h))
      · exact .fTuple (l.sub _ _ h)
      · exact .kTuple h1 h2
  | own g =>
    cases r
    obtain ⟨xs, h, _⟩ := l.lst g
    exact .base (.lst h)
section
variable {X : Cx} {F0 : Hp} {Γ : Gm} {L : Lg} {k : D → Lg → Prop} {ka : List D → Lg → Prop} {kt : Bool → Lg → Prop} {e a b c o : Expr} {es rest : List Expr} {pos p2 apos cpos : Pos} {N Nc : List Str} {sc : Scope} {Z : Xc → Gm → Lg → Prop}
/-- a built-in class's name as a value -/
theorem ek_ty {x : Str} {n : String} (hm : X.mg x = none) (hg : Gl X x) (hv : bootBuiltins x = some (.type n)) (h : k (.ty n) L) (hn : x ≠ "__name__" := by decide) (hd : (x == ("__debug__" : Str)) = false := by decide) : EvK X F0 (.Name x pos) Γ L k :=
  ek_c (pe_bltn hg hm hv (v := .ty n) rfl hn hd) (fun _ => .ty) h
/-- a class of the module as a value -/
theorem ek_cls {x : Str} {C : Addr} (hm : X.mg x = some (.ref C)) (hg : Gl X x) (h : k (.ref C) L) (hd : (x == ("__debug__" : Str)) = false := by decide) : EvK X F0 (.Name x pos) Γ L k :=
  ek_c (pe_glob hg hm (v := .ref C) rfl hd) (fun _ => .ref) h
theorem ek_isi {p : Pos} (hm : X.mg "isinstance" = none) (hg : Gl X "isinstance") (h : EvK X F0 a Γ L fun x L1 => EvK X F0 b Γ L1 fun y L2 => ∃ t n r, TyD L2 x t ∧ y = .ty n ∧ kitB t n = some r ∧ k (.bl r) L2)
    (he : starEach [a, b] X.env = (false, eval a X.env) :: starEach [b] X.env := by rfl) (he2 : starEach [b] X.env = (false, eval b X.env) :: starEach [] X.env := by rfl) (hpl : (backTo pos (starEach [b] X.env)).any (·.1) = false := by rfl) :
    EvK X F0 (.Call (.Name "isinstance" p) [a, b] [] pos) Γ L k :=
  ek_cb call_isi hm boot_isinstance (P := fun ds L1 kk => ∃ x t n r, ds = [x, .ty n] ∧ TyD L1 x t ∧ kitB t n = some r ∧ kk (.bl r))
    (fun F L' σ H ds vs kk Q E r ⟨x, t, n, rr, e1, ht, hk, hq⟩ q => by
      subst e1
      obtain ⟨v, v', rfl, r1, r2⟩ := reps2 r
      cases r2
      exact ⟨v, .ty n, .type t, .type n, rr, rfl, .ty n, ht.tyx E.led r1, kit_ty hk, q _ F _ H hq E (Same.refl F) .bl⟩)
    (ea_cons (fun F σ H Q E q => h F σ H Q E fun x L1 F1 v H1 h1 E1 s1 r1 => q x L1 F1 v H1 (ea_cons (fun F σ H Q E q => h1 F σ H Q E fun y L2 F2 u H2 ⟨t, n, rr, h2, e2, h3, h4⟩ E2 s2 r2 => q y L2 F2 u H2 (ea_nil ⟨x, t, n, rr, by rw [e2], h2, h3, h4⟩) E2 s2 r2) he2) E1 s1 r1) he) hg (he := he) (hpl := hpl)
end
/-- isinstance(e, c), e the exception that the suite holds: one class, or a tuple of classes -/
theorem call_isET {X : Cx} {a Dc : Addr} {oe : Obj} {pn : List (Addr × Obj)} (C : ExcC X.K Dc) (hz : Zc (.ref Dc) none oe) (hf : ∃ vs, oe.data = .fields vs) :
    CallR (X.suite a ((a, oe) :: pn)) (.builtin "isinstance") (fun xs H Q => ∃ (tp : Addr) (cs : List V) (us : List Value) (b : Bool), xs = [.ref a, .ref tp] ∧ SqT X.K H tp cs ∧ Paired ClsV cs us ∧ PySem.W.kitAny X.K (.ref Dc) us = some b ∧ Q (.bl b) H) := by
  intro pins s σ H xs us Q I r h
  obtain ⟨tp, cs, ws, b, rfl, hT, k, e, q⟩ := h
  obtain ⟨u1, u2, rfl, r1, r2⟩ := vals2 r
  cases (show u1 = Value.ref a from r1)
  cases (show u2 = Value.ref tp from r2)
  obtain ⟨hget, _⟩ := I.pin (a, oe) (List.mem_append.mpr (.inl List.mem_cons_self))
  obtain ⟨vs, hv⟩ := hf
  have J : PySem.W.InstAt s.heap a oe Dc none := by
    obtain ⟨oc, od, oda, osl⟩ := oe
    obtain ⟨h1, h2⟩ := hz
    dsimp only at h1 h2 hv
    subst h1 h2 hv
    exact ⟨hget, rfl, rfl, trivial⟩
  obtain ⟨its, rv, ⟨o, h1, h2, n, h3⟩, _⟩ := I.tuple (show SqT (X.suite a ((a, oe) :: pn)).K H tp cs from hT)
  have e3 := ClsV.all k rv
  subst e3
  obtain ⟨oc, od, dt, sl⟩ := o
  simp only at h2 h3
  subst h2 h3
  exact PySem.W.kia_tup (PySem.W.handS_kitx_exc C.hg C.hk C.hs C.hd C.ha C.hn C.ht C.hm) I.kIn J h1 e (fun z => nomatch z) fun tk => ⟨.bl b, H, I.tok tk, rfl, q⟩
section
variable {X : Cx} {F0 : Hp} {Γ : Gm} {L : Lg} {k : D → Lg → Prop} {e a b c o : Expr} {pos p2 : Pos} {ad Dc : Addr} {oe : Obj} {pn : List (Addr × Obj)}
theorem ek_isE {p : Pos} (C : ExcC X.K Dc) (hz : Zc (.ref Dc) none oe) (hf : ∃ vs, oe.data = .fields vs) (hm : X.mg "isinstance" = none) (hg : Gl X "isinstance")
    (h : EvK (X.suite ad ((ad, oe) :: pn)) F0 a Γ L fun x L1 => x = .ref ad ∧ EvK (X.suite ad ((ad, oe) :: pn)) F0 b Γ L1 fun y L2 => ∃ u r, ClsD y u ∧ PySem.W.kitOne X.K (.ref Dc) u = some r ∧ k (.bl r) L2)
    (he : starEach [a, b] X.env = (false, eval a X.env) :: starEach [b] X.env := by rfl) (he2 : starEach [b] X.env = (false, eval b X.env) :: starEach [] X.env := by rfl) (hpl : (backTo pos (starEach [b] X.env)).any (·.1) = false := by rfl) :
    EvK (X.suite ad ((ad, oe) :: pn)) F0 (.Call (.Name "isinstance" p) [a, b] [] pos) Γ L k :=
  ek_cb (call_isE C hz hf) hm boot_isinstance (P := fun ds L1 kk => ∃ y u r, ds = [.ref ad, y] ∧ ClsD y u ∧ PySem.W.kitOne X.K (.ref Dc) u = some r ∧ kk (.bl r))
    (fun F L' σ H ds vs kk Q E r ⟨y, u, rr, e1, hc, hk, hq⟩ q => by
      subst e1
      obtain ⟨v, v', rfl, r1, r2⟩ := reps2 r
      cases r1
      exact ⟨v', u, rr, rfl, fun w hw => (hc.v r2).eq hw, hk, q _ F _ H hq E (Same.refl F) .bl⟩)
    (ea_cons (fun F σ H Q E q => h F σ H Q E fun x L1 F1 v H1 ⟨e1, h1⟩ E1 s1 r1 => q x L1 F1 v H1 (ea_cons (fun F σ H Q E q => h1 F σ H Q E fun y L2 F2 u H2 ⟨w, rr, h2, h3, h4⟩ E2 s2 r2 => q y L2 F2 u H2 (ea_nil ⟨y, w, rr, by rw [e1], h2, h3, h4⟩) E2 s2 r2) he2) E1 s1 r1) he) hg (he := he) (hpl := hpl)
theorem ek_isET {p : Pos} (C : ExcC X.K Dc) (hz : Zc (.ref Dc) none oe) (hf : ∃ vs, oe.data = .fields vs) (hm : X.mg "isinstance" = none) (hg : Gl X "isinstance")
    (h : EvK (X.suite ad ((ad, oe) :: pn)) F0 a Γ L fun x L1 => x = .ref ad ∧ EvK (X.suite ad ((ad, oe) :: pn)) F0 b Γ L1 fun y L2 => ∃ ds us r, y = .tup ds ∧ Paired ClsD ds us ∧ PySem.W.kitAny X.K (.ref Dc) us = some r ∧ k (.bl r) L2)
    (he : starEach [a, b] X.env = (false, eval a X.env) :: starEach [b] X.env := by rfl) (he2 : starEach [b] X.env = (false, eval b X.env) :: starEach [] X.env := by rfl) (hpl : (backTo pos (starEach [b] X.env)).any (·.1) = false := by rfl) :
    EvK (X.suite ad ((ad, oe) :: pn)) F0 (.Call (.Name "isinstance" p) [a, b] [] pos) Γ L k :=
  ek_cb (call_isET C hz hf) hm boot_isinstance (P := fun ds L1 kk => ∃ es us r, ds = [.ref ad, .tup es] ∧ Paired ClsD es us ∧ PySem.W.kitAny X.K (.ref Dc) us = some r ∧ kk (.bl r))
    (fun F L' σ H ds vs kk Q E r ⟨es, us, rr, e1, hc, hk, hq⟩ q => by
      subst e1
      obtain ⟨v, v', rfl, r1, r2⟩ := reps2 r
      cases r1
      cases r2 with
      | tup hx rx => exact ⟨_, _, us, rr, rfl, seqT E.led.sub hx, ClsD.vs hc rx, hk, q _ F _ H hq E (Same.refl F) .bl⟩)
    (ea_cons (fun F σ H Q E q => h F σ H Q E fun x L1 F1 v H1 ⟨e1, h1⟩ E1 s1 r1 => q x L1 F1 v H1 (ea_cons (fun F σ H Q E q => h1 F σ H Q E fun y L2 F2 u H2 ⟨ds, us, rr, e2, h2, h3, h4⟩ E2 s2 r2 => q y L2 F2 u H2 (ea_nil ⟨ds, us, rr, by rw [e1, e2], h2, h3, h4⟩) E2 s2 r2) he2) E1 s1 r1) he) hg (he := he) (hpl := hpl)
end
end Vs

set_option Elab.async false
set_option linter.all false
set_option maxRecDepth 100000
set_option maxHeartbeats 4000000
namespace Vs
open PySem PySem.Spec PyProof.Rows L2
section
variable {X : Cx} {F0 : Hp} {Γ : Gm} {L : Lg} {k : D → Lg → Prop} {ka : List D → Lg → Prop} {kt : Bool → Lg → Prop} {e a b c o : Expr} {es rest : List Expr} {pos p2 apos cpos : Pos} {N Nc : List Str} {sc : Scope} {Z : Xc → Gm → Lg → Prop}
theorem Cn.gl (c : Cn X N Nc sc) {x : Str} (h : sc.names.lookup x = some .globalImplicit := by rfl) : Gl X x := by
  show X.env.scope.names.lookup x = _
  rw [c.scp]
  exact h
theorem Cb.gl {bs : Scope} (c : Cb X N sc bs) {x : Str} (h : bs.names.lookup x = some .globalImplicit := by rfl) : Gl X x := c.glo x h
/-- a whole number of the module's top -/
theorem ek_gi {x : Str} {i : Int} (hm : ∃ t, X.mg x = some (.int i t)) (hg : Gl X x) (h : k (.int i) L) (hd : (x == ("__debug__" : Str)) = false := by decide) : EvK X F0 (.Name x pos) Γ L k := by
  obtain ⟨t, hm⟩ := hm
  exact ek_glob hm (v := .int i) ⟨t, rfl⟩ (fun _ => .int) h hg hd
theorem ek_gs {x : Str} {z : Str} (hm : ∃ t, X.mg x = some (.str z t)) (hg : Gl X x) (h : k (.str z) L) (hd : (x == ("__debug__" : Str)) = false := by decide) : EvK X F0 (.Name x pos) Γ L k := by
  obtain ⟨t, hm⟩ := hm
  exact ek_glob hm (v := .str z) ⟨t, rfl⟩ (fun _ => .str) h hg hd
/-- an object of the module's top that stands still -/
structure GObj (K : PySem.W.Frag) (mg : Str → Option Value) (x : Str) (d : D) : Prop where
  ex : ∃ a, mg x = some (.ref a) ∧ ∀ F, Rep K F d (.ref a)
theorem ek_go {x : Str} {d : D} (hm : GObj X.K X.mg x d) (hg : Gl X x) (h : k d L) (hd : (x == ("__debug__" : Str)) = false := by decide) : EvK X F0 (.Name x pos) Γ L k := by
  obtain ⟨a, hm, r⟩ := hm.ex
  exact ek_glob hm (v := .ref a) rfl r h hg hd
/-- and, or without forks -/
theorem ew_or {p q : Bool} (ha : EtK X F0 a Γ L fun x L1 => x = p ∧ L1 = L) (hb : p = false → EwK X F0 (.BoolOp .Or (b :: rest) pos) Γ L fun y L2 => y = q ∧ L2 = L) (h : kt (p || q) L) : EwK X F0 (.BoolOp .Or (a :: b :: rest) pos) Γ L kt :=
  et_orw fun F σ H Q E qq => ha F σ H Q E fun x L1 F1 H1 ⟨e1, e2⟩ E1 s1 => qq x L1 F1 H1 (by
    subst e1 e2
    refine ⟨fun hx => by subst hx; simpa using h, fun hx => ?_⟩
    subst hx
    exact fun F σ H Q E q2 => hb rfl F σ H Q E fun y L2 F2 H2 ⟨e3, e4⟩ E2 s2 => q2 y L2 F2 H2 (by subst e3 e4; simpa using h) E2 s2) E1 s1
theorem ew_and {p q : Bool} (ha : EtK X F0 a Γ L fun x L1 => x = p ∧ L1 = L) (hb : p = true → EwK X F0 (.BoolOp .And (b :: rest) pos) Γ L fun y L2 => y = q ∧ L2 = L) (h : kt (p && q) L) : EwK X F0 (.BoolOp .And (a :: b :: rest) pos) Γ L kt :=
  et_andw fun F σ H Q E qq => ha F σ H Q E fun x L1 F1 H1 ⟨e1, e2⟩ E1 s1 => qq x L1 F1 H1 (by
    subst e1 e2
    refine ⟨fun hx => ?_, fun hx => by subst hx; simpa using h⟩
    subst hx
    exact fun F σ H Q E q2 => hb rfl F σ H Q E fun y L2 F2 H2 ⟨e3, e4⟩ E2 s2 => q2 y L2 F2 H2 (by subst e3 e4; simpa using h) E2 s2) E1 s1
theorem ek_or {p q : Bool} (ha : EvK X F0 a Γ L fun x L1 => x = .bl p ∧ L1 = L) (hb : p = false → EvK X F0 (.BoolOp .Or (b :: rest) pos) Γ L fun y L2 => y = .bl q ∧ L2 = L) (h : k (.bl (p || q)) L) : EvK X F0 (.BoolOp .Or (a :: b :: rest) pos) Γ L k :=
  ek_orv fun F σ H Q E qq => ha F σ H Q E fun x L1 F1 v H1 ⟨e1, e2⟩ E1 s1 r1 => qq x L1 F1 v H1 (by
    subst e2
    refine ⟨p, e1, fun hx => by subst hx; simpa using h, fun hx => ?_⟩
    subst hx
    exact fun F σ H Q E q2 => hb rfl F σ H Q E fun y L2 F2 v2 H2 ⟨e3, e4⟩ E2 s2 r2 => q2 y L2 F2 v2 H2 (by subst e3 e4; simpa using h) E2 s2 r2) E1 s1 r1
theorem ek_and' {p q : Bool} (ha : EvK X F0 a Γ L fun x L1 => x = .bl p ∧ L1 = L) (hb : p = true → EvK X F0 (.BoolOp .And (b :: rest) pos) Γ L fun y L2 => y = .bl q ∧ L2 = L) (h : k (.bl (p && q)) L) : EvK X F0 (.BoolOp .And (a :: b :: rest) pos) Γ L k :=
  ek_andv fun F σ H Q E qq => ha F σ H Q E fun x L1 F1 v H1 ⟨e1, e2⟩ E1 s1 r1 => qq x L1 F1 v H1 (by
    subst e2
    refine ⟨p, e1, fun hx => ?_, fun hx => by subst hx; simpa using h⟩
    subst hx
    exact fun F σ H Q E q2 => hb rfl F σ H Q E fun y L2 F2 v2 H2 ⟨e3, e4⟩ E2 s2 r2 => q2 y L2 F2 v2 H2 (by subst e3 e4; simpa using h) E2 s2 r2) E1 s1 r1
end
section
variable {X : Cx} {F0 : Hp} {Γ : Gm} {L : Lg} {k : D → Lg → Prop} {kt : Bool → Lg → Prop} {a b c : Expr} {pos : Pos}
/-- a < b < c without forks -/
theorem ek_ch2 {op op' : CmpOp} {g g' : Int → Int → Bool} (ho : OpR X (compareOp op) (rI0 fun i j => .bl (g i j))) (ho' : OpR X (compareOp op') (rI0 fun i j => .bl (g' i j)))
    (h : EvK X F0 a Γ L fun x L1 => ∃ i, x = .int i ∧ EvK X F0 b Γ L1 fun y L2 => ∃ j l, y = .int j ∧ (g i j = true → EvK X F0 c Γ L2 fun z L3 => z = .int l ∧ L3 = L2) ∧ k (.bl (g i j && g' j l)) L2)
    (hm : lastMarks [op, op'] [b, c] = false := by with_unfolding_all rfl) : EvK X F0 (.Compare a [op, op'] [b, c] pos) Γ L k :=
  ek_ch ho ho' (fun F σ H Q E q => h F σ H Q E fun x L1 F1 v H1 ⟨i, e1, h1⟩ E1 s1 r1 => q x L1 F1 v H1 ⟨i, e1, fun F σ H Q E q => h1 F σ H Q E fun y L2 F2 v2 H2 ⟨j, l, e2, h2, h3⟩ E2 s2 r2 => q y L2 F2 v2 H2 ⟨j, e2,
    fun hg F σ H Q E q => h2 hg F σ H Q E fun z L3 F3 v3 H3 ⟨e3, e4⟩ E3 s3 r3 => q z L3 F3 v3 H3 ⟨l, e3, by rw [hg] at h3; rw [e4]; simpa using h3⟩ E3 s3 r3, fun hg => by rw [hg] at h3; simpa using h3⟩ E2 s2 r2⟩ E1 s1 r1) hm
theorem et_ch2 {op op' : CmpOp} {g g' : Int → Int → Bool} (ho : OpR X (compareOp op) (rI0 fun i j => .bl (g i j))) (ho' : OpR X (compareOp op') (rI0 fun i j => .bl (g' i j)))
    (h : EvK X F0 a Γ L fun x L1 => ∃ i, x = .int i ∧ EvK X F0 b Γ L1 fun y L2 => ∃ j l, y = .int j ∧ (g i j = true → EvK X F0 c Γ L2 fun z L3 => z = .int l ∧ L3 = L2) ∧ kt (g i j && g' j l) L2)
    (hm : lastMarks [op, op'] [b, c] = false := by with_unfolding_all rfl) : EtK X F0 (.Compare a [op, op'] [b, c] pos) Γ L kt :=
  et_ch ho ho' (fun F σ H Q E q => h F σ H Q E fun x L1 F1 v H1 ⟨i, e1, h1⟩ E1 s1 r1 => q x L1 F1 v H1 ⟨i, e1, fun F σ H Q E q => h1 F σ H Q E fun y L2 F2 v2 H2 ⟨j, l, e2, h2, h3⟩ E2 s2 r2 => q y L2 F2 v2 H2 ⟨j, e2,
    fun hg F σ H Q E q => h2 hg F σ H Q E fun z L3 F3 v3 H3 ⟨e3, e4⟩ E3 s3 r3 => q z L3 F3 v3 H3 ⟨l, e3, by rw [hg] at h3; rw [e4]; simpa using h3⟩ E3 s3 r3, fun hg => by rw [hg] at h3; simpa using h3⟩ E2 s2 r2⟩ E1 s1 r1) hm
theorem bl_is {q : D → Lg → Prop} {b : Bool} (h : b = true) (hq : q (.bl true) L) : q (.bl b) L := by rw [h]; exact hq
end
/-- an error class of the program's own, over ValueError, without an __init__ -/
structure ExF (K : PySem.W.Frag) (mg : Str → Option Value) (x : Str) : Prop where
  g : mg x = some (.ref (He.ga K x))
  q : PySem.W.excIn K (He.ga K x) He.veBase "ValueError.__new__" = true
  k : PySem.W.keepIn K (.ref (He.ga K x)) = true
  s : PySem.W.subIn K (.ref (He.ga K x)) (.type "BaseException") = some true
  t : PySem.W.typeIn K (.ref (He.ga K x)) = some (.type "type")
abbrev xcOf (K : PySem.W.Frag) (x : Str) : Xc := ⟨.ref (He.ga K x), none⟩
section
variable {X : Cx} {F0 : Hp} {Γ : Gm} {L : Lg} {k : Ks} {N Nc : List Str} {sc : Scope} {Z : Xc → Gm → Lg → Prop}
theorem sk_rz {x m : Str} {j : Nat} {p p2 pos2 pos : Pos} (c : Cf X N Nc sc F0 Z) (f : ExF X.K X.mg x) (h : Z (xcOf X.K x) Γ L) (hg : sc.names.lookup x = some .globalImplicit := by rfl) (hdb : (x == ("__debug__" : Str)) = false := by decide) :
    SK X F0 (.Raise (some (.Call (.Name x p) [.Constant (.str m) j p2] [] pos)) none pos2) Γ L k :=
  sk_raise c.calm c.tk f.q f.g f.k (raises_own f.s f.t) (c.toCn.gl hg) h hdb
end
end Vs

set_option Elab.async false
set_option linter.all false
set_option maxRecDepth 100000
set_option maxHeartbeats 4000000
namespace Vs
open PySem PySem.Spec PyProof.Rows L2
theorem Get.put {α : Type} {x y : α} : ∀ {xs : List α} {j : Nat}, Get xs j x → Put xs j y (xs.set j y)
  | _, _, .z => .z
  | _, _, .s g => .s g.put
theorem Get.got {α : Type} {x y : α} : ∀ {xs : List α} {j : Nat}, Get xs j x → Get (xs.set j y) j y
  | _, _, .z => .z
  | _, _, .s g => .s g.got
theorem sz_ok {n : Nat} (h : n ≤ 1000000) : n ≤ sizeLine := Nat.le_trans h (by decide)
theorem sz_lt {n : Nat} (h : n ≤ 1000000) : n < sizeLine := Nat.lt_of_le_of_lt h (by decide)
/-- facts of the module's top that the walk asks -/
theorem free_of {K : PySem.W.Frag} {h : Heap} {mg : Str → Option Value} (X : K.In h) (G : h.Ns mainGlobals mg) {x : Str} (c : (He.Fa.free x).ok K = true) : mg x = none := He.free_ok X G c
theorem exF_of {K : PySem.W.Frag} {h : Heap} {mg : Str → Option Value} (X : K.In h) (G : h.Ns mainGlobals mg) {x : Str} (c1 : (He.Fa.glo x).ok K = true) (c2 : (He.Fa.exc x).ok K = true) : ExF K mg x := by
  obtain ⟨h1, h2, h3, h4⟩ := He.exc_ok c2
  exact ⟨He.glo_ok X G c1, h1, h2, h3, h4⟩
structure ClF (K : PySem.W.Frag) (mg : Str → Option Value) (x : Str) : Prop where
  g : mg x = some (.ref (He.ga K x))
/-- what the class of a caught error tells (isinstance, except) -/
def excCB (K : PySem.W.Frag) (x : Str) : Bool :=
  He.eqO (PySem.W.findIn K (.ref (He.ga K x)) "__getattribute__") (some (some (.builtin "BaseException.__getattribute__"))) &&
  (He.eqO (PySem.W.findIn K (.ref (He.ga K x)) "__getattr__") (some none) &&
  (decide (PySem.W.subIn K (.ref (He.ga K x)) (.type "BaseException") = some true) &&
  (PySem.W.hasDictIn K (He.ga K x) &&
  (He.eqO (PySem.W.findIn K (.ref (He.ga K x)) "__class__") (some (some (.builtin "object.__class__"))) &&
  (He.eqO (PySem.W.specialIn K (.builtin "object.__class__") "__get__") (some (some (.builtin "getset_descriptor.__get__"))) &&
  (decide (PySem.W.takesIn K (.builtin "object.__class__") = some true) &&
  decide (PySem.W.mroIn K (He.ga K x) (.type "object") = some true)))))))
theorem excCB_ok {K : PySem.W.Frag} {x : Str} (h : excCB K x = true) : ExcC K (He.ga K x) := by
  unfold excCB at h
  obtain ⟨h1, h⟩ := He.ba h
  obtain ⟨h2, h⟩ := He.ba h
  obtain ⟨h3, h⟩ := He.ba h
  obtain ⟨h4, h⟩ := He.ba h
  obtain ⟨h5, h⟩ := He.ba h
  obtain ⟨h6, h⟩ := He.ba h
  obtain ⟨h7, h⟩ := He.ba h
  exact ⟨He.eqO_ok h1, He.eqO_ok h2, of_decide_eq_true h3, h4, He.eqO_ok h5, He.eqO_ok h6, of_decide_eq_true h7, of_decide_eq_true h⟩
/-- isinstance of an instance of the class x by the class y, or the built-in class n -/
def kitB1 (K : PySem.W.Frag) (x y : Str) (b : Bool) : Bool := decide (PySem.W.kitOne K (.ref (He.ga K x)) (.ref (He.ga K y)) = some b)
def kitB2 (K : PySem.W.Frag) (x : Str) (n : String) (b : Bool) : Bool := decide (PySem.W.kitOne K (.ref (He.ga K x)) (.type n) = some b)
theorem kitAll {K : PySem.W.Frag} {t : Value} : ∀ {us : List Value}, (∀ u ∈ us, PySem.W.kitOne K t u = some false) → PySem.W.kitAny K t us = some false
  | [], _ => rfl
  | u :: us, h => by
    unfold PySem.W.kitAny
    rw [h u List.mem_cons_self]
    exact kitAll fun v hv => h v (List.mem_cons_of_mem _ hv)
theorem kaN {K : PySem.W.Frag} {t : Value} : PySem.W.kitAny K t [] = some false := rfl
theorem kaF {K : PySem.W.Frag} {t u : Value} {us : List Value} (h : PySem.W.kitOne K t u = some false) (r : PySem.W.kitAny K t us = some false) : PySem.W.kitAny K t (u :: us) = some false := by
  unfold PySem.W.kitAny
  rw [h]
  exact r
theorem at_nat {α : Type} {xs : List α} {i : Int} {d : α} (h0 : 0 ≤ i) (h : xs[i.toNat]? = some d) : atI xs i = some d := by
  obtain ⟨hl, _⟩ := List.getElem?_eq_some_iff.mp h
  unfold atI ixN
  rw [if_pos h0, if_pos (by omega)]
  exact h
theorem ixN_at {n : Nat} {i : Int} (h0 : 0 ≤ i) (h : i < n) : ixN n i = some i.toNat := by
  unfold ixN
  rw [if_pos h0, if_pos h]
theorem Cal.imp {P : Program} {w : World} {K : PySem.W.Frag} {mg : Str → Option Value} {base : Heap} {n : Nat} {x : Str} {ps : List Str} {S S' : SpD} (G : Cal P w K mg base n x ps S) (h : ∀ ds L q e, S' ds L q e → S ds L q e) : Cal P w K mg base n x ps S' := by
  obtain ⟨f, fd, h1, h2, h3, F⟩ := G.ex
  exact ⟨f, fd, h1, h2, h3, F.imp fun vs H Q E ⟨F, ds, L, q, e, l, r, s, k1, k2⟩ => ⟨F, ds, L, q, e, l, r, h ds L q e s, k1, k2⟩⟩
end Vs

set_option Elab.async false
set_option linter.all false
set_option maxRecDepth 100000
set_option maxHeartbeats 4000000
namespace Vs
open PySem PySem.Spec PyProof.Rows L2
theorem Reps.rep {K : PySem.W.Frag} {F : Hp} {ds : List D} {vs : List V} (r : Reps K F ds vs) : ∀ n : Nat, Reps K F (List.replicate n ds).flatten (List.replicate n vs).flatten
  | 0 => .nil
  | n + 1 => by
    rw [List.replicate_succ, List.replicate_succ, List.flatten_cons, List.flatten_cons]
    exact r.append (r.rep n)
section
variable {X : Cx} {F0 : Hp} {Γ : Gm} {L : Lg} {k : D → Lg → Prop} {ka : List D → Lg → Prop} {kt : Bool → Lg → Prop} {e a b c o : Expr} {es rest : List Expr} {pos p2 apos cpos : Pos} {N Nc : List Str} {sc : Scope} {Z : Xc → Gm → Lg → Prop}
/-- [..] * n -/
theorem ek_repL (h : EaK X F0 es Γ L fun ds L1 => ds.length ≤ sizeLine ∧ EvK X F0 b Γ L1 fun y L2 => ∃ n, y = .int n ∧ (-9223372036854775808 ≤ n ∧ n < 9223372036854775808 ∧ ds.length * n.toNat ≤ sizeLine) ∧ k (.lst (List.replicate n.toNat ds).flatten) L2) :
    EvK X F0 (.BinOp (.List es p2) .Mult b pos) Γ L k := fun F σ H Q E q =>
  wpE.of (pe_op op_rep (pe_lst wa) we) (h F σ H _ E fun ds L1 F1 vs H1 ⟨hz, h1⟩ E1 s1 r1 => ⟨by rw [← r1.length]; exact hz, fun p hp => by
    have s2 : Same F1 (upd F1 p (.lst vs)) := same_new (E1.led.free hp)
    refine h1 _ σ _ _ (E1.new hp) fun y L2 F2 u H2 ⟨n, e1, ⟨b1, b2, b3⟩, h2⟩ E2 s3 r2 => ?_
    subst e1
    cases r2
    refine ⟨p, n, vs, rfl, rfl, E2.led.sub _ _ (s3 _ _ upd_same), by omega, by omega, by rw [← r1.length]; exact b3, fun m hm => ?_⟩
    have s4 : Same F2 (upd F2 m (.lst (List.replicate n.toNat vs).flatten)) := same_new (E2.led.free hm)
    exact q _ L2 _ _ _ h2 (E2.new hm) (s1.trans (s2.trans (s3.trans s4))) (.lst (.inl (.inl upd_same)) (((r1.mono s2).mono s3).mono s4 |>.rep n.toNat))⟩)
/-- list(xs), to be changed -/
theorem ek_listO {p : Pos} (hm : X.mg "list" = none) (hg : Gl X "list") (h : EvK X F0 e Γ L fun x L1 => ∃ ds, (AsL L1 x ds ∨ x = .tup ds) ∧ ∀ p, k (.ref p) ((p, .lst ds) :: L1))
    (he : starEach [e] X.env = (false, eval e X.env) :: starEach [] X.env := by rfl) (hpl : (backTo pos (starEach [] X.env)).any (·.1) = false := by rfl) : EvK X F0 (.Call (.Name "list" p) [e] [] pos) Γ L k := fun F σ H Q E q =>
  wpE.of (pe_callTy call_list_of hg hm boot_list (pa_cons we pa_nil he) (by decide) (by decide) he hpl) (h F σ H _ E fun x L1 F1 v H1 ⟨ds, e2, h1⟩ E1 s1 r1 => by
    rcases e2 with e2 | e2
    · obtain ⟨p, xs, rfl, hx, rx⟩ := e2.read E1.led r1
      exact ⟨p, xs, rfl, .inl hx, fun n hn => q _ _ F1 _ _ (h1 n) (E1.to (Same.refl F1) (E1.led.newL hn rx)) s1 .ref⟩
    · subst e2
      cases r1 with
      | tup hx rx => exact ⟨_, _, rfl, .inr (seqT E1.led.sub hx), fun n hn => q _ _ F1 _ _ (h1 n) (E1.to (Same.refl F1) (E1.led.newL hn rx)) s1 .ref⟩)
theorem ek_isB (h : EvK X F0 a Γ L fun x L1 => ∃ i, x = .bl i ∧ EvK X F0 b Γ L1 fun y L2 => ∃ j, y = .bl j ∧ k (.bl (decide (i = j))) L2) (hm : behindInMarks .Is b = false := by rfl) : EvK X F0 (.Compare a [.Is] [b] pos) Γ L k := fun F σ H Q E q =>
  wpE.of (pe_cmpR op_is_bl we we hm) (h F σ H _ E fun x L1 F1 v H1 ⟨i, e1, h1⟩ E1 s1 r1 => h1 F1 σ H1 _ E1 fun y L2 F2 u H2 ⟨j, e2, h2⟩ E2 s2 r2 => by
    subst e1 e2
    cases r1
    cases r2
    exact ⟨i, j, rfl, rfl, q _ L2 F2 _ H2 h2 E2 (s1.trans s2) .bl⟩)
theorem ek_isnotB (h : EvK X F0 a Γ L fun x L1 => ∃ i, x = .bl i ∧ EvK X F0 b Γ L1 fun y L2 => ∃ j, y = .bl j ∧ k (.bl (!decide (i = j))) L2) (hm : behindInMarks .IsNot b = false := by rfl) : EvK X F0 (.Compare a [.IsNot] [b] pos) Γ L k := fun F σ H Q E q =>
  wpE.of (pe_cmpR op_isnot_bl we we hm) (h F σ H _ E fun x L1 F1 v H1 ⟨i, e1, h1⟩ E1 s1 r1 => h1 F1 σ H1 _ E1 fun y L2 F2 u H2 ⟨j, e2, h2⟩ E2 s2 r2 => by
    subst e1 e2
    cases r1
    cases r2
    exact ⟨i, j, rfl, rfl, q _ L2 F2 _ H2 h2 E2 (s1.trans s2) .bl⟩)
theorem et_isB (h : EvK X F0 a Γ L fun x L1 => ∃ i, x = .bl i ∧ EvK X F0 b Γ L1 fun y L2 => ∃ j, y = .bl j ∧ kt (decide (i = j)) L2) (hm : behindInMarks .Is b = false := by rfl) : EtK X F0 (.Compare a [.Is] [b] pos) Γ L kt := fun F σ H Q E q =>
  wpT.of (pt_cmpR op_is_bl we we hm) (h F σ H _ E fun x L1 F1 v H1 ⟨i, e1, h1⟩ E1 s1 r1 => h1 F1 σ H1 _ E1 fun y L2 F2 u H2 ⟨j, e2, h2⟩ E2 s2 r2 => by
    subst e1 e2
    cases r1
    cases r2
    exact ⟨i, j, rfl, rfl, _, rfl, q _ L2 F2 H2 h2 E2 (s1.trans s2)⟩)
theorem et_isnotB (h : EvK X F0 a Γ L fun x L1 => ∃ i, x = .bl i ∧ EvK X F0 b Γ L1 fun y L2 => ∃ j, y = .bl j ∧ kt (!decide (i = j)) L2) (hm : behindInMarks .IsNot b = false := by rfl) : EtK X F0 (.Compare a [.IsNot] [b] pos) Γ L kt := fun F σ H Q E q =>
  wpT.of (pt_cmpR op_isnot_bl we we hm) (h F σ H _ E fun x L1 F1 v H1 ⟨i, e1, h1⟩ E1 s1 r1 => h1 F1 σ H1 _ E1 fun y L2 F2 u H2 ⟨j, e2, h2⟩ E2 s2 r2 => by
    subst e1 e2
    cases r1
    cases r2
    exact ⟨i, j, rfl, rfl, _, rfl, q _ L2 F2 H2 h2 E2 (s1.trans s2)⟩)
theorem ek_max2 {p : Pos} (hc : X.calm = true) (hm : X.mg "max" = none) (hg : Gl X "max") (h : EvK X F0 a Γ L fun x L1 => ∃ i, x = .int i ∧ EvK X F0 b Γ L1 fun y L2 => ∃ j, y = .int j ∧ k (.int (if j > i then j else i)) L2)
    (he : starEach [a, b] X.env = (false, eval a X.env) :: starEach [b] X.env := by rfl) (he2 : starEach [b] X.env = (false, eval b X.env) :: starEach [] X.env := by rfl) (hpl : (backTo pos (starEach [b] X.env)).any (·.1) = false := by rfl) :
    EvK X F0 (.Call (.Name "max" p) [a, b] [] pos) Γ L k := fun F σ H Q E q =>
  wpE.of (pe_callB (call_max2 hc) hg hm (by decide +kernel) (pa_cons we (pa_cons we pa_nil he2) he) (by decide) (by decide) he hpl) (h F σ H _ E fun x L1 F1 v H1 ⟨i, e1, h1⟩ E1 s1 r1 => h1 F1 σ H1 _ E1 fun y L2 F2 u H2 ⟨j, e2, h2⟩ E2 s2 r2 => by
    subst e1 e2
    cases r1
    cases r2
    exact ⟨i, j, rfl, q _ L2 F2 _ H2 h2 E2 (s1.trans s2) .int⟩)
theorem ek_min2 {p : Pos} (hc : X.calm = true) (hm : X.mg "min" = none) (hg : Gl X "min") (h : EvK X F0 a Γ L fun x L1 => ∃ i, x = .int i ∧ EvK X F0 b Γ L1 fun y L2 => ∃ j, y = .int j ∧ k (.int (if j < i then j else i)) L2)
    (he : starEach [a, b] X.env = (false, eval a X.env) :: starEach [b] X.env := by rfl) (he2 : starEach [b] X.env = (false, eval b X.env) :: starEach [] X.env := by rfl) (hpl : (backTo pos (starEach [b] X.env)).any (·.1) = false := by rfl) :
    EvK X F0 (.Call (.Name "min" p) [a, b] [] pos) Γ L k := fun F σ H Q E q =>
  wpE.of (pe_callB (call_min2 hc) hg hm (by decide +kernel) (pa_cons we (pa_cons we pa_nil he2) he) (by decide) (by decide) he hpl) (h F σ H _ E fun x L1 F1 v H1 ⟨i, e1, h1⟩ E1 s1 r1 => h1 F1 σ H1 _ E1 fun y L2 F2 u H2 ⟨j, e2, h2⟩ E2 s2 r2 => by
    subst e1 e2
    cases r1
    cases r2
    exact ⟨i, j, rfl, q _ L2 F2 _ H2 h2 E2 (s1.trans s2) .int⟩)
theorem ek_all {p : Pos} (hc : X.calm = true) (hm : X.mg "all" = none) (hg : Gl X "all") (h : EvK X F0 e Γ L fun x L1 => ∃ bs : List Bool, AsL L1 x (bs.map D.bl) ∧ k (.bl (bs.all id)) L1)
    (he : starEach [e] X.env = (false, eval e X.env) :: starEach [] X.env := by rfl) (hpl : (backTo pos (starEach [] X.env)).any (·.1) = false := by rfl) : EvK X F0 (.Call (.Name "all" p) [e] [] pos) Γ L k := fun F σ H Q E q =>
  wpE.of (pe_callB (cr_all hc) hg hm (by decide +kernel) (pa_cons we pa_nil he) (by decide) (by decide) he hpl) (h F σ H _ E fun x L1 F1 v H1 ⟨bs, e2, h1⟩ E1 s1 r1 => by
    obtain ⟨p, xs, rfl, hx, rx⟩ := e2.read E1.led r1
    have e3 := bls_reps rx
    subst e3
    exact ⟨p, bs, rfl, hx, q _ L1 F1 _ H1 h1 E1 s1 .bl⟩)
theorem ek_any {p : Pos} (hc : X.calm = true) (hm : X.mg "any" = none) (hg : Gl X "any") (h : EvK X F0 e Γ L fun x L1 => ∃ bs : List Bool, AsL L1 x (bs.map D.bl) ∧ k (.bl (bs.any id)) L1)
    (he : starEach [e] X.env = (false, eval e X.env) :: starEach [] X.env := by rfl) (hpl : (backTo pos (starEach [] X.env)).any (·.1) = false := by rfl) : EvK X F0 (.Call (.Name "any" p) [e] [] pos) Γ L k := fun F σ H Q E q =>
  wpE.of (pe_callB (cr_any hc) hg hm (by decide +kernel) (pa_cons we pa_nil he) (by decide) (by decide) he hpl) (h F σ H _ E fun x L1 F1 v H1 ⟨bs, e2, h1⟩ E1 s1 r1 => by
    obtain ⟨p, xs, rfl, hx, rx⟩ := e2.read E1.led r1
    have e3 := bls_reps rx
    subst e3
    exact ⟨p, bs, rfl, hx, q _ L1 F1 _ H1 h1 E1 s1 .bl⟩)

theorem Led.perm {K : PySem.W.Frag} {F H : Hp} {L L' : Lg} (e : Led K F L H) (p : L.Perm L') : Led K F L' H := ⟨e.sub, (p.map _).nodup_iff.mp e.nod, fun q hq => e.ent q (p.mem_iff.mpr hq)⟩
theorem rd_lcO {elt tg iter : Expr} {ifs : List Expr} {bs : Scope} (own : List (Str × Nat)) {M : List Str} {sc' : Scope} (hM : X.N = M) (nd : M.Nodup) (hc : X.calm = true)
    (h : EiK X F0 tg iter Γ L fun ds L1 => ∃ Pv : Nat → List D → Lg → Prop, Pv 0 [] L1 ∧ ds.length ≤ 1000000 ∧
      (∀ (F1 : UpH F0) (n : Nat) (d : D) (acc : List D) (Lc : Lg) (Dp : Addr), ds[n]? = some d → acc.length ≤ n → Pv n acc Lc →
        (∀ X', Cb X' M sc' bs → (∃ s H C cl fp, X' = X.blk s H bs (compEnvC bs cl C X.env) fp) → TbK X' F1.h tg (own.map (·.2)) d (wipeG Γ (own.map (·.2))) (Lc ++ [(Dp, .lst acc)]) fun Γ2 L2 =>
          (∀ X', Cb X' M sc' bs → (∃ s H C cl fp, X' = X.blk s H bs (compEnvC bs cl C X.env) fp) → EsK X' F1.h ifs Γ2 L2 fun t L3 =>
            (t = true → ∀ X', Cb X' M sc' bs → (∃ s H C cl fp, X' = X.blk s H bs (compEnvC bs cl C X.env) fp) → EvK X' F1.h elt Γ2 L3 fun y L4 => ∃ L5, L4 = L5 ++ [(Dp, .lst acc)] ∧ Pv (n + 1) (acc ++ [y]) L5) ∧
            (t = false → ∃ L5, L3 = L5 ++ [(Dp, .lst acc)] ∧ Pv (n + 1) acc L5)))) ∧ (∀ acc L' Dp, Pv ds.length acc L' → acc.length ≤ ds.length → k (.ref Dp) ((Dp, .lst acc) :: L')))
    : RdK X F0 (tLc (wpI X tg iter) (gS X bs tg) (tS X bs ifs) (eS X bs elt) (own.map (·.2))) Γ L k := fun F σ H Q E q => by
  refine h F σ H _ E fun ds L1 F1 H1 J ⟨Pv, h0, hds, hb, hk⟩ E1 s1 it => ?_
  intro Dp hD
  refine ⟨fun i m H => i + m = ds.length ∧ ∃ F acc Lc, Same F1 F ∧ acc.length ≤ i ∧ Pv i acc Lc ∧ At X.K F0 F Γ (Lc ++ [(Dp, .lst acc)]) σ H, ⟨ds.length, by omega, F1, [], L1, Same.refl F1, Nat.le_refl _, h0, E1.to (Same.refl F1) (E1.led.last hD .nil)⟩, ?_⟩
  rintro i m H2 ⟨hm, F2, acc, Lc, s2, hacc, hP, E2⟩
  by_cases hi : i < ds.length
  · refine .inr ⟨it.go i H2 F2 _ hi s2 E2.led, fun H' => ∃ F acc Lc, Same F1 F ∧ acc.length ≤ i + 1 ∧ Pv (i + 1) acc Lc ∧ At X.K F0 F Γ (Lc ++ [(Dp, .lst acc)]) σ H', fun H' ⟨F3, a, b, c, d, e, f⟩ => ⟨m - 1, by omega, by omega, F3, a, b, c, d, e, f⟩, fun x H' hy => ?_⟩
    obtain ⟨d, F3, hdi, s3, l3, r3⟩ := it.yld i H2 x H' F2 _ s2 E2.led hy hi
    have E3 := E2.to s3 l3
    intro s0 H0 C0 cl0 fp0
    refine hb ⟨F1, E1.ge⟩ i d acc Lc Dp hdi hacc hP _ (blk_okM hM nd hc) ⟨s0, H0, C0, cl0, fp0, rfl⟩ F3 (wipe σ (own.map (·.2))) H' x _ ⟨s2.trans s3, E3.led, E3.sl.wipe _⟩ r3 ?_
    rintro Γ4 L4 F4 σ4 H4 h4 E4 s4 hw
    refine ⟨by rw [hw]; refine List.ext_getElem? fun z => ?_; by_cases hz : z ∈ own.map (·.2); (rw [wipe_in hz, wipe_in hz, wipe_length]); (rw [wipe_out hz]), ?_⟩
    intro s0 H0 C0 cl0 fp0
    refine h4 _ (blk_okM hM nd hc) ⟨s0, H0, C0, cl0, fp0, rfl⟩ F4 σ4 H4 _ E4 ?_
    rintro t L5 F5 H5 ⟨h5, h6⟩ E5 s5
    cases t with
    | false =>
      rw [if_neg Bool.false_ne_true]
      obtain ⟨L6, rfl, hP'⟩ := h6 rfl
      exact ⟨F5, acc, L6, E5.ge, by omega, hP', E3.to (s4.trans s5) E5.led⟩
    | true =>
      rw [if_pos rfl]
      intro s0 H0 C0 cl0 fp0
      refine h5 rfl _ (blk_okM hM nd hc) ⟨s0, H0, C0, cl0, fp0, rfl⟩ F5 σ4 H5 _ E5 ?_
      rintro y L6 F6 v6 H6 ⟨L7, rfl, hP'⟩ E6 s6 r6
      have g := get_last (x := (Dp, C.lst acc)) L7
      obtain ⟨xs, hx, rx⟩ := E6.led.lst g
      refine ⟨xs, hx, ?_, F6, acc ++ [y], L7, E6.ge, ?_, hP', ?_⟩
      · rw [← rx.length]
        exact Nat.lt_of_le_of_lt (Nat.le_trans hacc (by omega : i ≤ 1000000)) (by decide)
      · rw [List.length_append]
        exact Nat.add_le_add_right hacc 1
      · exact E3.to (s4.trans (s5.trans s6)) (E6.led.put g (put_last L7) ⟨_, upd_same, rx.append (.cons r6 .nil)⟩)
  · have e : i = ds.length := by omega
    subst e
    refine .inl ⟨it.stop _ H2 F2 _ (Nat.le_refl _) s2 E2.led, ?_⟩
    exact q _ _ _ _ _ (hk acc Lc Dp hP hacc) (E2.to (Same.refl F2) (E2.led.perm (List.perm_append_comm.trans (List.Perm.refl _)))) (s1.trans s2) .ref
theorem ek_lcO {elt tg iter : Expr} {ifs : List Expr} {bs : Scope} (own : List (Str × Nat)) (cf : Cn X N Nc sc) (hc : X.calm = true) (ok : blkC (N ++ Nc) sc bs own = true)
    (h : EiK X F0 tg iter Γ L fun ds L1 => ∃ Pv : Nat → List D → Lg → Prop, Pv 0 [] L1 ∧ ds.length ≤ 1000000 ∧
      (∀ (F1 : UpH F0) (n : Nat) (d : D) (acc : List D) (Lc : Lg) (Dp : Addr), ds[n]? = some d → acc.length ≤ n → Pv n acc Lc →
        (∀ X', Cb X' (N ++ Nc) sc bs → (∃ s H C cl fp, X' = X.blk s H bs (compEnvC bs cl C X.env) fp) → TbK X' F1.h tg (own.map (·.2)) d (wipeG Γ (own.map (·.2))) (Lc ++ [(Dp, .lst acc)]) fun Γ2 L2 =>
          (∀ X', Cb X' (N ++ Nc) sc bs → (∃ s H C cl fp, X' = X.blk s H bs (compEnvC bs cl C X.env) fp) → EsK X' F1.h ifs Γ2 L2 fun t L3 =>
            (t = true → ∀ X', Cb X' (N ++ Nc) sc bs → (∃ s H C cl fp, X' = X.blk s H bs (compEnvC bs cl C X.env) fp) → EvK X' F1.h elt Γ2 L3 fun y L4 => ∃ L5, L4 = L5 ++ [(Dp, .lst acc)] ∧ Pv (n + 1) (acc ++ [y]) L5) ∧
            (t = false → ∃ L5, L3 = L5 ++ [(Dp, .lst acc)] ∧ Pv (n + 1) acc L5)))) ∧ (∀ acc L' Dp, Pv ds.length acc L' → acc.length ≤ ds.length → k (.ref Dp) ((Dp, .lst acc) :: L')))
    (hs : ∀ x, foldedSetIterable iter X.env x = pure x := by intro _; rfl) : EvK X F0 (.ListComp elt [⟨tg, iter, ifs, 0⟩] bs pos) Γ L k :=
  (rd_lcO own cf.n cf.nd hc h).ev (pe_lc (own := own) hc (by rw [cf.n]; exact cf.nd) wi (by rw [cf.n, cf.scp]; exact blkOk_by ok) pgS ptS peS hs)
theorem sk_setLcO {elt tg iter : Expr} {ifs : List Expr} {bs : Scope} {ks : Ks} {j : Nat} {y : Str} {py spos : Pos} (own : List (Str × Nat)) (cf : Cn X N Nc sc) (hc : X.calm = true) (ok : blkC (N ++ Nc) sc bs own = true)
    (h : EiK X F0 tg iter Γ L fun ds L1 => ∃ Pv : Nat → List D → Lg → Prop, Pv 0 [] L1 ∧ ds.length ≤ 1000000 ∧
      (∀ (F1 : UpH F0) (n : Nat) (d : D) (acc : List D) (Lc : Lg) (Dp : Addr), ds[n]? = some d → acc.length ≤ n → Pv n acc Lc →
        (∀ X', Cb X' (N ++ Nc) sc bs → (∃ s H C cl fp, X' = X.blk s H bs (compEnvC bs cl C X.env) fp) → TbK X' F1.h tg (own.map (·.2)) d (wipeG Γ (own.map (·.2))) (Lc ++ [(Dp, .lst acc)]) fun Γ2 L2 =>
          (∀ X', Cb X' (N ++ Nc) sc bs → (∃ s H C cl fp, X' = X.blk s H bs (compEnvC bs cl C X.env) fp) → EsK X' F1.h ifs Γ2 L2 fun t L3 =>
            (t = true → ∀ X', Cb X' (N ++ Nc) sc bs → (∃ s H C cl fp, X' = X.blk s H bs (compEnvC bs cl C X.env) fp) → EvK X' F1.h elt Γ2 L3 fun y L4 => ∃ L5, L4 = L5 ++ [(Dp, .lst acc)] ∧ Pv (n + 1) (acc ++ [y]) L5) ∧
            (t = false → ∃ L5, L3 = L5 ++ [(Dp, .lst acc)] ∧ Pv (n + 1) acc L5)))) ∧ (∀ acc L' Dp, Pv ds.length acc L' → acc.length ≤ ds.length → ∃ Γ', Put Γ j (some (.ref Dp)) Γ' ∧ ks.nx Γ' ((Dp, .lst acc) :: L')))
    (hj : N[j]? = some y := by rfl) (hyl : sc.names.lookup y = some .local := by rfl)
    (hl : (py.line == pos.line) = true := by rfl) (hn : (bs.names.any fun (n, k) => n == y && (k == .local || k == .cell)) = false := by decide +kernel) (hk : sc.kind = .function := by rfl)
    (hs : ∀ x, foldedSetIterable iter X.env x = pure x := by intro _; rfl) : SK X F0 (.Assign [.Name y py] (.ListComp elt [⟨tg, iter, ifs, 0⟩] bs pos) spos) Γ L ks := fun F σ H Dn E q =>
  wpS.of (ps_setLc (own := own) hc (by rw [cf.n]; exact cf.nd) (by rw [cf.n]; exact get_app hj) (by rw [cf.scp]; exact hyl) (sw_true (by rw [cf.scp]; exact hk) (by rw [cf.scp]; exact hyl) hl hn) wi (by rw [cf.n, cf.scp]; exact blkOk_by ok) pgS ptS peS hs)
    (rd_lcO own cf.n cf.nd hc (k := fun d L' => ∃ Γ', Put Γ j (some d) Γ' ∧ ks.nx Γ' L') h F σ H _ E fun d L1 F1 v H1 ⟨Γ', hp, h1⟩ E1 s1 r1 => q.nx Γ' L1 F1 _ H1 h1 ⟨E1.ge, E1.led, E1.sl.put r1 hp⟩)

end
/-! ### what was changed stands still from here on -/
inductive Rem {α : Type} : List α → Nat → α → List α → Prop
  | z {x : α} {xs : List α} : Rem (x :: xs) 0 x xs
  | s {x y : α} {xs ys : List α} {i : Nat} : Rem xs i y ys → Rem (x :: xs) (i + 1) y (x :: ys)
theorem Rem.get {α : Type} {x : α} : ∀ {xs ys : List α} {i : Nat}, Rem xs i x ys → Get xs i x
  | _, _, _, .z => .z
  | _, _, _, .s r => .s r.get
theorem Rem.sub {α : Type} {x : α} : ∀ {xs ys : List α} {i : Nat}, Rem xs i x ys → ys.Sublist xs
  | _, _, _, .z => List.sublist_cons_self _ _
  | _, _, _, .s r => r.sub.cons_cons _
theorem Rem.ne {a : Addr} {c : C} : ∀ {L L' : Lg} {i : Nat}, (L.map (·.1)).Nodup → Rem L i (a, c) L' → ∀ p ∈ L', p.1 ≠ a
  | _, _, _, nd, .z => fun p hp z => by
    rw [List.map_cons] at nd
    exact (List.nodup_cons.mp nd).1 (z ▸ List.mem_map_of_mem (f := (·.1)) hp)
  | _, _, _, nd, .s r => fun p hp => by
    rw [List.map_cons] at nd
    have nd' := List.nodup_cons.mp nd
    rcases List.mem_cons.mp hp with rfl | hp
    · intro z
      exact nd'.1 (z ▸ Get.mem' (f := (·.1)) r.get)
    · exact Rem.ne nd'.2 r p hp
theorem Led.frz {K : PySem.W.Frag} {F H : Hp} {L L' : Lg} {q : Addr} {ds : List D} {j : Nat} (e : Led K F L H) (r : Rem L j (q, .lst ds) L') : ∃ xs, Led K (upd F q (.lst xs)) L' H ∧ Same F (upd F q (.lst xs)) ∧ Reps K F ds xs := by
  obtain ⟨xs, h1, h2⟩ := e.lst r.get
  have fq : F q = none := (e.ent _ r.get.mem).1
  have s1 : Same F (upd F q (.lst xs)) := same_new fq
  refine ⟨xs, ⟨fun b u z => ?_, (r.sub.map _).nodup e.nod, fun p hp => ?_⟩, s1, h2⟩
  · by_cases hb : b = q
    · subst hb; rw [upd_same] at z; rw [h1]; exact z
    · rw [upd_ne hb] at z; exact e.sub b u z
  · obtain ⟨a1, a2⟩ := e.ent p (r.sub.subset hp)
    exact ⟨(upd_ne (Rem.ne e.nod r p hp)).trans a1, a2.mono s1 rfl⟩
section
variable {X : Cx} {F0 : Hp} {Γ Γ' : Gm} {L L' : Lg} {k : Ks} {ss : List Stmt}
/-- the list at p, in slot i: frozen -/
theorem bk_frz {p : Addr} {ds : List D} {i j : Nat} (g : Get Γ i (some (.ref p))) (r : Rem L j (p, .lst ds) L') (pt : Put Γ i (some (.lst ds)) Γ') (h : BK X F0 ss Γ' L' k) : BK X F0 ss Γ L k := fun F σ H Dn E q => by
  obtain ⟨xs, l, s1, rr⟩ := E.led.frz r
  refine h _ σ H Dn ⟨E.ge.trans s1, l, ?_⟩ q
  have sl := E.sl.mono s1
  obtain ⟨v, h1, h2⟩ := sl.get g
  cases h2
  have sp := sl.put (Rep.lst (ds := ds) (.inl (.inl upd_same)) (rr.mono s1) : Rep X.K (upd F p (.lst xs)) (.lst ds) (.ref p)) pt
  have e : σ.set i (some (.ref p)) = σ := by
    refine List.ext_getElem? fun z => ?_
    rw [List.getElem?_set]
    by_cases hz : i = z
    · rw [if_pos hz]
      subst hz
      have hl : i < σ.length := (List.getElem?_eq_some_iff.mp h1).1
      rw [if_pos hl, h1]
    · rw [if_neg hz]
  rw [e] at sp
  exact sp
/-- forget an entry of the ledger -/
theorem bk_drop {x : Addr × C} {j : Nat} (r : Rem L j x L') (h : BK X F0 ss Γ L' k) : BK X F0 ss Γ L k := fun F σ H Dn E q =>
  h F σ H Dn ⟨E.ge, ⟨E.led.sub, (r.sub.map _).nodup E.led.nod, fun p hp => E.led.ent p (r.sub.subset hp)⟩, E.sl⟩ q
end
end Vs

set_option Elab.async false
set_option linter.all false
set_option maxRecDepth 100000
set_option maxHeartbeats 4000000
namespace Vs
open PySem PySem.Spec PyProof.Rows L2
/-! ### lists of numbers -/
theorem dI_get {xs : List Int} {i : Nat} {d : D} (h : (dI xs)[i]? = some d) : ∃ v, xs[i]? = some v ∧ d = .int v := by
  rw [List.getElem?_map] at h
  cases z : xs[i]? with
  | none => rw [z] at h; cases h
  | some v => rw [z] at h; exact ⟨v, rfl, (Option.some.inj h).symm⟩
theorem at_dI {xs : List Int} {i : Int} {v : Int} (h0 : 0 ≤ i) (h : xs[i.toNat]? = some v) : atI (dI xs) i = some (.int v) := at_nat h0 (by rw [List.getElem?_map, h]; rfl)
theorem at_dIn {xs : List Int} {n : Nat} {v : Int} (h : xs[n]? = some v) : atI (dI xs) (0 + (n : Int)) = some (.int v) := by
  have e : (0 + (n : Int)).toNat = n := by omega
  exact at_dI (by omega) (by rw [e]; exact h)
theorem at_dIk {xs : List Int} {n : Nat} {v : Int} (h : xs[n]? = some v) : atI (dI xs) (n : Int) = some (.int v) := at_dI (by omega) (by rw [Int.toNat_natCast]; exact h)
theorem dI_app {xs : List Int} {v : Int} : dI xs ++ [D.int v] = dI (xs ++ [v]) := by
  show xs.map D.int ++ [v].map D.int = (xs ++ [v]).map D.int
  exact List.map_append.symm
theorem dI_len {xs : List Int} : (dI xs).length = xs.length := List.length_map _
theorem dI_set {xs : List Int} {j : Nat} {v : Int} : (dI xs).set j (D.int v) = dI (xs.set j v) := List.map_set.symm
theorem cut_to {xs : List D} {n : Int} (h : 0 ≤ n) : cutD xs none (some n) = xs.take n.toNat := by
  obtain ⟨m, rfl⟩ : ∃ m : Nat, n = m := ⟨n.toNat, by omega⟩
  unfold cutD
  rw [HT.sIx_none, HT.sIx_nat, List.drop_zero, Int.toNat_natCast, Nat.sub_zero]
  by_cases hm : m ≤ xs.length
  · rw [Nat.min_eq_left hm]
  · rw [Nat.min_eq_right (by omega), List.take_of_length_le (Nat.le_refl _), List.take_of_length_le (by omega)]
theorem cut_from {xs : List D} {n : Int} (h : 0 ≤ n) : cutD xs (some n) none = xs.drop n.toNat := by
  obtain ⟨m, rfl⟩ : ∃ m : Nat, n = m := ⟨n.toNat, by omega⟩
  unfold cutD
  rw [HT.sIx_none, HT.sIx_nat, Int.toNat_natCast]
  by_cases hm : m ≤ xs.length
  · rw [Nat.min_eq_left hm, List.take_of_length_le (by rw [List.length_drop]; omega)]
  · rw [Nat.min_eq_right (by omega), List.drop_of_length_le (Nat.le_refl _), List.drop_of_length_le (by omega), List.take_nil]
theorem cut_dI {xs : List Int} {n : Int} (h : 0 ≤ n) : cutD (dI xs) none (some n) = dI (xs.take n.toNat) := by rw [cut_to h]; exact List.map_take.symm
theorem cut_dI' {xs : List Int} {n : Int} (h : 0 ≤ n) : cutD (dI xs) (some n) none = dI (xs.drop n.toNat) := by rw [cut_from h]; exact List.map_drop.symm
/-! ### == of data -/
theorem dpds_dI {L : Lg} : ∀ {xs : List Int}, Dpds L (dI xs) (xs.map PyData.int)
  | [] => .nil
  | _ :: _ => .cons .int dpds_dI
theorem dpd_as {L : Lg} {x : D} {xs : List Int} (h : AsL L x (dI xs)) : Dpd L x (.list (xs.map PyData.int)) := by
  generalize hd : dI xs = ds at h
  cases h with
  | lst => subst hd; exact .lst dpds_dI
  | own g => subst hd; exact .own g dpds_dI
theorem eqv_ints : ∀ {xs ys : List Int}, PyData.eqvAll (xs.map PyData.int) (ys.map PyData.int) = decide (xs = ys)
  | [], [] => by simp [PyData.eqvAll]
  | [], _ :: _ => by simp [PyData.eqvAll]
  | _ :: _, [] => by simp [PyData.eqvAll]
  | x :: xs, y :: ys => by
    simp only [List.map_cons, PyData.eqvAll, PyData.eqv]
    rw [eqv_ints]
    by_cases h : x = y
    · subst h; simp
    · simp [h]
theorem eqv_dI {xs ys : List Int} : PyData.eqv (.list (xs.map PyData.int)) (.list (ys.map PyData.int)) = decide (xs = ys) := by
  simp only [PyData.eqv]
  exact eqv_ints
/-- data of a depth -/
def Shp (k : Nat) (d : PyData) : Prop := d.canLay0 = true ∧ d.depth ≤ k
theorem shp_ok {k : Nat} {d : PyData} (h : Shp k d) (hk : k ≤ 64) : SeqAt.shaped d = true := by
  unfold SeqAt.shaped
  rw [h.1, Bool.true_and]
  exact decide_eq_true (Nat.le_trans h.2 hk)
theorem shp_refl {k : Nat} {d : PyData} (h : Shp k d) : PyData.eqv d d = true := SeqAt.eqv_refl d h.1
theorem shpAll {k : Nat} : ∀ {ds : List PyData}, (∀ d ∈ ds, Shp k d) → PyData.canLayAll0 ds = true ∧ PyData.depthAll ds ≤ k
  | [], _ => ⟨rfl, Nat.zero_le _⟩
  | d :: ds, h => by
    obtain ⟨h1, h2⟩ := h d List.mem_cons_self
    obtain ⟨h3, h4⟩ := shpAll fun e he => h e (List.mem_cons_of_mem _ he)
    refine ⟨?_, ?_⟩
    · simp only [PyData.canLayAll0, h1, h3, Bool.and_self]
    · simp only [PyData.depthAll]
      exact Nat.max_le.mpr ⟨h2, h4⟩
theorem shp_lst {k : Nat} {ds : List PyData} (h : ∀ d ∈ ds, Shp k d) : Shp (k + 1) (.list ds) := by
  obtain ⟨h1, h2⟩ := shpAll h
  exact ⟨by simp only [PyData.canLay0]; exact h1, by simp only [PyData.depth]; omega⟩
theorem shp_tup {k : Nat} {ds : List PyData} (h : ∀ d ∈ ds, Shp k d) : Shp (k + 1) (.tuple ds) := by
  obtain ⟨h1, h2⟩ := shpAll h
  exact ⟨by simp only [PyData.canLay0]; exact h1, by simp only [PyData.depth]; omega⟩
theorem shp_int {k : Nat} {i : Int} : Shp k (.int i) := ⟨by simp only [PyData.canLay0], by simp only [PyData.depth]; exact Nat.zero_le _⟩
theorem shp_bl {k : Nat} {b : Bool} : Shp k (.bool b) := ⟨by simp only [PyData.canLay0], by simp only [PyData.depth]; exact Nat.zero_le _⟩
theorem shp_non {k : Nat} : Shp k .none := ⟨by simp only [PyData.canLay0], by simp only [PyData.depth]; exact Nat.zero_le _⟩
theorem shp_dI {k : Nat} {xs : List Int} : Shp (k + 1) (.list (xs.map PyData.int)) := shp_lst fun d hd => by
  obtain ⟨x, _, rfl⟩ := List.mem_map.mp hd
  exact shp_int
theorem Shp.up {k j : Nat} {d : PyData} (h : Shp k d) (hj : k ≤ j) : Shp j d := ⟨h.1, Nat.le_trans h.2 hj⟩
theorem shaped_dI {xs : List Int} : SeqAt.shaped (.list (xs.map PyData.int)) = true := shp_ok (k := 1) shp_dI (by decide)
/-- lists of lists of numbers -/
abbrev dII (xss : List (List Int)) : List D := xss.map fun xs => D.lst (dI xs)
abbrev pI (xs : List Int) : PyData := .list (xs.map PyData.int)
theorem dpds_dII {L : Lg} : ∀ {xss : List (List Int)}, Dpds L (dII xss) (xss.map pI)
  | [] => .nil
  | _ :: _ => .cons (.lst dpds_dI) dpds_dII
theorem shp_dII {k : Nat} {xss : List (List Int)} : Shp (k + 2) (.list (xss.map pI)) := shp_lst fun d hd => by
  obtain ⟨x, _, rfl⟩ := List.mem_map.mp hd
  exact shp_dI
theorem eqv_iis : ∀ {xs ys : List (List Int)}, PyData.eqvAll (xs.map pI) (ys.map pI) = decide (xs = ys)
  | [], [] => by simp [PyData.eqvAll]
  | [], _ :: _ => by simp [PyData.eqvAll]
  | _ :: _, [] => by simp [PyData.eqvAll]
  | x :: xs, y :: ys => by
    simp only [List.map_cons, PyData.eqvAll]
    rw [eqv_iis, eqv_dI]
    by_cases h : x = y
    · subst h; simp
    · simp [h]
end Vs

set_option Elab.async false
set_option linter.all false
set_option maxRecDepth 100000
set_option maxHeartbeats 4000000
namespace Vs
open PySem PySem.Spec PyProof.Rows L2
section
variable {X : Cx} {F0 : Hp} {Γ : Gm} {L : Lg} {k : Ks} {e a b c o i tg iter : Expr} {st : Stmt} {rest body orelse : List Stmt} {pos p' : Pos} {N Nc : List Str} {sc : Scope} {Z : Xc → Gm → Lg → Prop}
/-- for tg in xs, xs a list of the ledger that stays as it is -/
theorem sk_forO (cf : Cf X N Nc sc F0 Z) (h : EvK X F0 a Γ L fun x L1 => ∃ p ds, x = .ref p ∧ ∃ Pv : Nat → Gm → Lg → Prop, Pv 0 Γ L1 ∧ (∀ i Γ' L', Pv i Γ' L' → ∃ j, Get L' j (p, C.lst ds)) ∧
      (∀ F1, Cf X N Nc sc F1 Z → ∀ i d Γ' L', ds[i]? = some d → Pv i Γ' L' → TgK X F1 tg d Γ' L' fun Γ2 L2 => BK X F1 body Γ2 L2 { k with nx := Pv (i + 1), ct := Pv (i + 1), bk := k.nx }) ∧ (∀ Γ' L', Pv ds.length Γ' L' → k.nx Γ' L'))
    (hs : ∀ x, foldedSetIterable a X.env x = pure x := by intro _; rfl) : SK X F0 (.For tg a body [] pos) Γ L k := fun F σ H Dn E q =>
  wpS.of (ps_for cf.own cf.calm (pi_list we) wg wb hs) (h F σ H _ E fun x L1 F1 v H1 ⟨p, ds, e1, Pv, h0, hg, hb, hd⟩ E1 s1 r1 => by
    subst e1
    cases r1
    have rd : ∀ {F : Hp} {L : Lg} {H : Hp} {i : Nat} {Γ' : Gm}, Pv i Γ' L → Led X.K F L H → ∃ xs, SqL X.K H p xs ∧ Reps X.K F ds xs := fun hP l => by
      obtain ⟨j, g⟩ := hg _ _ _ hP
      obtain ⟨xs, h1, h2⟩ := l.lst g
      exact ⟨xs, .inl (.inl h1), h2⟩
    obtain ⟨xs0, hx0, _⟩ := rd h0 E1.led
    refine ⟨p, rfl, ⟨xs0, hx0⟩, fun i m σ H => ∃ F Γ L, i + m = ds.length ∧ Same F1 F ∧ Pv i Γ L ∧ At X.K F0 F Γ L σ H, ⟨ds.length, F1, Γ, L1, by omega, Same.refl F1, h0, E1⟩, ?_⟩
    rintro i m σ2 H2 ⟨F2, Γ2, L2, hm, s2, hP, E2⟩
    obtain ⟨xs, hx, rx⟩ := rd hP E2.led
    by_cases hi : i < ds.length
    · have hi' : i < xs.length := by rw [← rx.length]; exact hi
      refine .inr ⟨⟨xs, xs[i], hx, List.getElem?_eq_getElem hi'⟩, fun σ' H' => ∃ F Γ L, Same F1 F ∧ Pv (i + 1) Γ L ∧ At X.K F0 F Γ L σ' H', fun σ' H' ⟨F3, Γ3, L3, a, b, c⟩ => ⟨m - 1, by omega, F3, Γ3, L3, by omega, a, b, c⟩, ?_⟩
      rintro x H' ⟨rfl, hy⟩
      obtain ⟨d, hdi, rd'⟩ := rx.got (hy xs hx)
      refine hb F1 (cf.up E1.ge) i d Γ2 L2 hdi hP F2 σ2 H' x _ (E2.base s2) rd' fun Γ4 L4 F4 σ4 H4 h4 E4 => ?_
      have q' := q.up (F1 := F1) E1.ge
      exact h4 F4 σ4 H4 _ E4 ⟨fun Γ L F σ H h E => ⟨F, Γ, L, E.ge, h, E.low E1.ge⟩, q'.rt, q'.nx, fun Γ L F σ H h E => ⟨F, Γ, L, E.ge, h, E.low E1.ge⟩⟩
    · have e : i = ds.length := by omega
      subst e
      exact .inl ⟨⟨xs, hx, by rw [← rx.length]; exact Nat.le_refl _⟩, q.nx Γ2 L2 F2 σ2 H2 (hd Γ2 L2 hP) E2⟩)
end
theorem asl_get {L : Lg} {x : D} {ds : List D} (h : AsL L x ds) : x = .lst ds ∨ ∃ p j, x = .ref p ∧ Get L j (p, C.lst ds) := by
  cases h with
  | lst => exact .inl rfl
  | own g => exact .inr ⟨_, _, rfl, g⟩
theorem tyd_as {L : Lg} {x : D} {ds : List D} (h : AsL L x ds) : TyD L x "list" := by
  cases h with
  | lst => exact .lst
  | own g => exact .own g
/-- for tg in xs, xs a name of either kind -/
theorem sk_forN {X : Cx} {F0 : Hp} {Γ : Gm} {L : Lg} {k : Ks} {a tg : Expr} {body : List Stmt} {pos : Pos} {N Nc : List Str} {sc : Scope} {Z : Xc → Gm → Lg → Prop} {x : D} {ds : List D} (cf : Cf X N Nc sc F0 Z)
    (he : ∀ kk : D → Lg → Prop, kk x L → EvK X F0 a Γ L kk) (hx : AsL L x ds) (Pv : Nat → Gm → Lg → Prop) (h0 : Pv 0 Γ L) (hp : ∀ i Γ' L', Pv i Γ' L' → AsL L' x ds)
    (hb : ∀ F1, Cf X N Nc sc F1 Z → ∀ i d Γ' L', ds[i]? = some d → Pv i Γ' L' → TgK X F1 tg d Γ' L' fun Γ2 L2 => BK X F1 body Γ2 L2 { k with nx := Pv (i + 1), ct := Pv (i + 1), bk := k.nx }) (hd : ∀ Γ' L', Pv ds.length Γ' L' → k.nx Γ' L')
    (hs : ∀ x, foldedSetIterable a X.env x = pure x := by intro _; rfl) : SK X F0 (.For tg a body [] pos) Γ L k := by
  cases hx with
  | lst => exact sk_for cf (ei_list (he _ ⟨ds, rfl, Pv, h0, hb, hd⟩)) hs
  | own g =>
    refine sk_forO cf (he _ ⟨_, ds, rfl, Pv, h0, fun i Γ' L' hP => ?_, hb, hd⟩) hs
    have := hp i Γ' L' hP
    generalize hz : D.ref _ = z at this
    cases this with
    | lst => cases hz
    | own g2 => cases hz; exact ⟨_, g2⟩
theorem AsL.cons {L : Lg} {y : Addr × C} {x : D} {ds : List D} (h : AsL L x ds) : AsL (y :: L) x ds := by
  cases h with
  | lst => exact .lst
  | own g => exact .own (.s g)
section
variable {X : Cx} {F0 : Hp} {Γ : Gm} {L : Lg} {k : Ks} {e : Expr} {pos : Pos}
/-- return e, what the ledger has no more use for dropped -/
theorem sk_retS (h : EvK X F0 e Γ L fun d L' => ∃ L'', L''.Sublist L' ∧ k.rt d L'') : SK X F0 (.Return (some e) pos) Γ L k := fun F σ H Dn E q =>
  wpS.of (ps_ret we) (h F σ H _ E fun d L1 F1 v H1 ⟨L2, hs, h1⟩ E1 s1 r1 => q.rt d L2 F1 v H1 h1 E1.ge ⟨E1.led.sub, (hs.map _).nodup E1.led.nod, fun p hp => E1.led.ent p (hs.subset hp)⟩ r1)
end
section
variable {X : Cx} {F0 : Hp} {Γ : Gm} {L : Lg} {k : D → Lg → Prop} {pos : Pos} {N Nc : List Str} {sc : Scope} {elt tg iter : Expr} {bs : Scope}
/-- a comprehension without a test, its list to be changed -/
theorem ek_lcF (own : List (Str × Nat)) (cf : Cn X N Nc sc) (hc : X.calm = true) (ok : blkC (N ++ Nc) sc bs own = true)
    (h : EiK X F0 tg iter Γ L fun ds L1 => ∃ es : List D, LcM X F0 (N ++ Nc) sc bs own elt tg Γ L1 ds es ∧ ∀ p, k (.ref p) ((p, .lst es) :: L1))
    (hs : ∀ x, foldedSetIterable iter X.env x = pure x := by intro _; rfl) : EvK X F0 (.ListComp elt [⟨tg, iter, [], 0⟩] bs pos) Γ L k :=
  ek_lcO own cf hc ok (ei_mono h fun ds L1 ⟨es, ⟨h1, h2, h3⟩, hk⟩ => ⟨fun n acc L' => L' = L1 ∧ acc = es.take n, ⟨rfl, rfl⟩, h2, fun F1 n d acc Lc Dp hd hacc ⟨e1, e2⟩ X' cb hX' => by
    subst e1 e2
    have hn : n < es.length := by rw [h1]; exact (List.getElem?_eq_some_iff.mp hd).1
    have he : es[n]? = some es[n] := List.getElem?_eq_getElem hn
    intro F σ H v Q E r q
    refine h3 F1 n d es[n] (es.take n) Dp hd he X' cb hX' F σ H v Q E r fun Γ' L' F' σ' H' ⟨e1, h4⟩ E' s' w' => q Γ' L' F' σ' H' (fun X'' cb' hX'' => es_nil ⟨fun _ X3 cb3 hX3 => ?_, fun h => nomatch h⟩) E' s' w'
    intro F σ H Q E q
    exact h4 X3 cb3 hX3 F σ H Q E fun d L' F' v H' ⟨a, b⟩ E' s r => q d L' F' v H' ⟨Lc, by rw [a, e1], rfl, by rw [b, List.take_add_one, he]; rfl⟩ E' s r,
    fun acc L' Dp ⟨e1, e2⟩ _ => by
      subst e1 e2
      rw [List.take_of_length_le (by omega)]
      exact hk Dp⟩) hs
end
section
variable {X : Cx} {F0 : Hp} {Γ : Gm} {L : Lg} {k : D → Lg → Prop} {e : Expr}
/-- a list made new, frozen at once -/
theorem ek_frz (h : EvK X F0 e Γ L fun d L1 => ∃ p ds j L2, d = .ref p ∧ Rem L1 j (p, .lst ds) L2 ∧ k (.lst ds) L2) : EvK X F0 e Γ L k := fun F σ H Q E q =>
  h F σ H Q E fun d L1 F1 v H1 ⟨p, ds, j, L2, hd, r, hk⟩ E1 s1 rr => by
    subst hd
    cases rr
    obtain ⟨xs, l, s2, rx⟩ := E1.led.frz r
    exact q _ L2 _ _ H1 hk ⟨E1.ge.trans s2, l, E1.sl.mono s2⟩ (s1.trans s2) (.lst (.inl (.inl upd_same)) (rx.mono s2))
/-- entries of the ledger forgotten -/
theorem ek_drp (h : EvK X F0 e Γ L fun d L1 => ∃ L2, L2.Sublist L1 ∧ k d L2) : EvK X F0 e Γ L k := fun F σ H Q E q =>
  h F σ H Q E fun d L1 F1 v H1 ⟨L2, hs, h1⟩ E1 s1 r1 => q d L2 F1 v H1 h1 ⟨E1.ge, ⟨E1.led.sub, (hs.map _).nodup E1.led.nod, fun p hp => E1.led.ent p (hs.subset hp)⟩, E1.sl⟩ s1 r1
end
end Vs

set_option Elab.async false
set_option linter.all false
set_option maxRecDepth 100000
set_option maxHeartbeats 4000000
namespace Vs
open PySem PySem.Spec PyProof.Rows L2
/-! ### tuples as targets -/
def wpGs (X : Cx) (ts : List Expr) : TGs := fun vs σ H Q => ∀ pins s us, Inv X pins σ H s → Vals vs us → wpAny (model X.prog X.w) X.A (assignInOrder ((assignEach ts X.env).map (·.2)) us) (fun _ s' => ∃ σ' H', Inv X pins σ' H' s' ∧ Q σ' H') X.xe s
theorem wgs {X : Cx} {ts : List Expr} : PGs X ts (wpGs X ts) := ⟨fun pins s _ _ _ us _ I r h => h pins s us I r⟩
theorem wpGs.of {X : Cx} {ts : List Expr} {t : TGs} {vs : List V} {σ : L2.St} {H : Hp} {Q : L2.St → Hp → Prop} (p : PGs X ts t) (h : t vs σ H Q) : wpGs X ts vs σ H Q := fun pins s us I r => p.run pins s σ H vs us Q I r h
/-- names = data, one by one -/
def TnK (X : Cx) (F0 : Hp) (ts : List Expr) (ds : List D) (Γ : Gm) (L : Lg) (k : Gm → Lg → Prop) : Prop := ∀ (F : Hp) (σ : L2.St) (H : Hp) (vs : List V) (Q : L2.St → Hp → Prop), At X.K F0 F Γ L σ H → Reps X.K F ds vs →
  (∀ Γ' L' F' σ' H', k Γ' L' → At X.K F0 F' Γ' L' σ' H' → Q σ' H') → wpGs X ts vs σ H Q
def TnbK (X : Cx) (F0 : Hp) (ts : List Expr) (vs : List Nat) (ds : List D) (Γ : Gm) (L : Lg) (k : Gm → Lg → Prop) : Prop := ∀ (F : Hp) (σ : L2.St) (H : Hp) (us : List V) (Q : L2.St → Hp → Prop), At X.K F0 F Γ L σ H → Reps X.K F ds us →
  (∀ Γ' L' F' σ' H', k Γ' L' → At X.K F0 F' Γ' L' σ' H' → Same F F' → wipe σ' vs = wipe σ vs → Q σ' H') → wpGs X ts us σ H Q
section
variable {X : Cx} {F0 : Hp} {Γ : Gm} {L : Lg} {k : Gm → Lg → Prop} {es : List Expr} {ds : List D} {d : D} {pos : Pos} {N Nc : List Str} {sc bs : Scope} {x : Str} {j kk n : Nat} {vs : List Nat}
theorem tn_z (h : k Γ L) : TnK X F0 [] [] Γ L k := fun F σ H us Q E r q => by
  cases r
  exact wpGs.of pgs_nil ⟨rfl, q Γ L F σ H h E⟩
theorem tn_c (c : Cn X N Nc sc) (h : ∃ Γ', Put Γ j (some d) Γ' ∧ TnK X F0 es ds Γ' L k) (hj : N[j]? = some x := by rfl)
    (hs : (assignEach (.Name x pos :: es) X.env).map (·.2) = assign (.Name x pos) X.env :: (assignEach es X.env).map (·.2) := by rfl) : TnK X F0 (.Name x pos :: es) (d :: ds) Γ L k := fun F σ H us Q E r q => by
  obtain ⟨Γ', p, hk⟩ := h
  cases r with
  | cons r rr =>
    refine wpGs.of (pgs_cons (pg_name (i := j) (by rw [c.n]; exact c.nd) (by rw [c.n]; exact get_app hj) (by rw [c.scp]; exact c.loc x (List.mem_of_getElem? hj)) (.inl (c.fn x))) wgs hs) ⟨_, _, rfl, ?_⟩
    exact hk F _ H _ Q ⟨E.ge, E.led, E.sl.put r p⟩ rr q
theorem tg_tup (hc : X.calm = true) (h : ∃ ds, d = .tup ds ∧ ds.length = n ∧ TnK X F0 es ds Γ L k) (hn : (assignEach es X.env).length = n := by rfl) (hst : (assignEach es X.env).findIdx? (·.1) = none := by rfl) :
    TgK X F0 (.Tuple es kk pos) d Γ L k := fun F σ H v Q E r q => by
  obtain ⟨ds, rfl, hl, h⟩ := h
  cases r with
  | tup hx rx => exact wpG.of (pg_tup hc wgs hn hst) ⟨_, _, rfl, seqT E.led.sub hx, by rw [← rx.length]; exact hl, h F σ H _ Q E rx q⟩
theorem tnb_z (h : k Γ L) : TnbK X F0 [] vs [] Γ L k := fun F σ H us Q E r q => by
  cases r
  exact wpGs.of pgs_nil ⟨rfl, q Γ L F σ H h E (Same.refl F) rfl⟩
theorem tnb_c (c : Cb X N sc bs) (h : ∃ Γ', Put Γ j (some d) Γ' ∧ TnbK X F0 es vs ds Γ' L k) (hj : N[j]? = some x := by rfl) (hv : bs.names.lookup x = some .local ∨ bs.names.lookup x = some .cell := by first | exact .inl rfl | exact .inr rfl) (hm : j ∈ vs := by decide)
    (hs : (assignEach (.Name x pos :: es) X.env).map (·.2) = assign (.Name x pos) X.env :: (assignEach es X.env).map (·.2) := by rfl) : TnbK X F0 (.Name x pos :: es) vs (d :: ds) Γ L k := fun F σ H us Q E r q => by
  obtain ⟨Γ', p, hk⟩ := h
  have hl : Loc X.env.scope x ∧ (X.fn x = true ∨ X.env.scope.names.lookup x = some .local) := by
    rcases hv with z | z
    · exact ⟨.inl (c.own x z), .inr (c.own x z)⟩
    · exact ⟨.inr (c.cel x z).1, .inl (c.cel x z).2⟩
  cases r with
  | cons r rr =>
    refine wpGs.of (pgs_cons (pg_name (i := j) (by rw [c.n]; exact c.nd) (by rw [c.n]; exact hj) hl.1 hl.2) wgs hs) ⟨_, _, rfl, ?_⟩
    exact hk F _ H _ Q ⟨E.ge, E.led, E.sl.put r p⟩ rr fun Γ' L' F' σ' H' hk' E' s' w' => q Γ' L' F' σ' H' hk' E' s' (w'.trans (wipe_set hm))
theorem tb_tup (c : Cb X N sc bs) (h : ∃ ds, d = .tup ds ∧ ds.length = n ∧ TnbK X F0 es vs ds Γ L k) (hn : (assignEach es X.env).length = n := by rfl) (hst : (assignEach es X.env).findIdx? (·.1) = none := by rfl) :
    TbK X F0 (.Tuple es kk pos) vs d Γ L k := fun F σ H v Q E r q => by
  obtain ⟨ds, rfl, hl, h⟩ := h
  cases r with
  | tup hx rx => exact wpG.of (pg_tup c.calm wgs hn hst) ⟨_, _, rfl, seqT E.led.sub hx, by rw [← rx.length]; exact hl, h F σ H _ Q E rx q⟩
end
section
variable {X : Cx} {F0 : Hp} {Γ : Gm} {L : Lg} {k : Ks} {e a : Expr} {pos p tpos p2 : Pos} {tg : Expr} {elts : List Expr} {kk : Nat}
/-- a, b, .. = e -/
theorem sk_asg (h : EvK X F0 e Γ L fun d L' => TgK X F0 tg d Γ L' k.nx) (hs : swapsWithSole [tg] e pos.line X.env = pure false := by rfl) (hw : swappedStores [tg] e X.env = pure none := by rfl)
    (h1 : (assignEach [tg] X.env).map (·.2) = [assign tg X.env] := by rfl) : SK X F0 (.Assign [tg] e pos) Γ L k := fun F σ H Dn E q =>
  wpS.of (ps_asg we wg hs hw h1) (h F σ H _ E fun d L1 F1 v H1 h1 E1 s1 r1 => h1 F1 σ H1 v _ E1 r1 fun Γ' L' F' σ' H' hk E' => q.nx Γ' L' F' σ' H' hk E')
/-! enumerate -/
def enumD (ds : List D) : List D := ds.mapIdx fun i d => D.tup [.int (i : Int), d]
theorem enumD_len {ds : List D} : (enumD ds).length = ds.length := by unfold enumD; exact List.length_mapIdx
theorem enumD_get {ds : List D} {i : Nat} : (enumD ds)[i]? = ds[i]?.map fun d => D.tup [.int (i : Int), d] := by unfold enumD; exact List.getElem?_mapIdx
theorem enumD_at {ds : List D} {i : Nat} {d : D} (h : (enumD ds)[i]? = some d) : ∃ y, ds[i]? = some y ∧ d = .tup [.int (i : Int), y] := by
  rw [enumD_get] at h
  cases z : ds[i]? with
  | none => rw [z] at h; cases h
  | some y => rw [z] at h; exact ⟨y, rfl, (Option.some.inj h).symm⟩
theorem ei_enum {kl : List D → Lg → Prop} (hm : X.mg "enumerate" = none) (hg : Gl X "enumerate") (h : EvK X F0 a Γ L fun x L1 => ∃ ds, x = .lst ds ∧ kl (enumD ds) L1) (hs : starEach [a] X.env = [(false, eval a X.env)] := by rfl) :
    EiK X F0 (.Tuple elts kk tpos) (.Call (.Name "enumerate" p) [a] [] pos) Γ L kl := fun F σ H R E q =>
  wpI.of (pi_enum hg hm (pa_cons we pa_nil hs) hs) (h F σ H _ E fun x L1 F1 v H1 ⟨ds, e1, h1⟩ E1 s1 r1 => by
    subst e1
    cases r1 with
    | lst hx rx =>
      rename_i p xs
      refine ⟨p, xs, rfl, E1.led.sub.seq hx, q _ L1 F1 H1 _ h1 E1 s1 ⟨?_, ?_, ?_⟩⟩
      · intro i H F' L' hi s l
        have hi' : i < xs.length := by rw [← rx.length]; rw [enumD_len] at hi; exact hi
        exact ⟨xs, xs[i], l.sub.seq (s.seq hx), List.getElem?_eq_getElem hi'⟩
      · rintro i H x H' F' L' s l ⟨T, y, rfl, hT, rfl, hy⟩ hi
        have hx' := hy xs (l.sub.seq (s.seq hx))
        obtain ⟨d, hd, rd⟩ := rx.got hx'
        have s2 : Same F' (upd F' T (.tup [.int (i : Nat), y])) := same_new (l.free hT)
        exact ⟨.tup [.int (i : Int), d], _, by rw [enumD_get, hd]; rfl, s2, l.new hT, .tup (.inl (.inl upd_same)) (.cons .int (.cons (rd.mono (s.trans s2)) .nil))⟩
      · intro i H F' L' hi s l
        exact ⟨xs, l.sub.seq (s.seq hx), by rw [← rx.length]; rw [enumD_len] at hi; exact hi⟩)
end
end Vs

set_option Elab.async false
set_option linter.all false
set_option maxRecDepth 100000
set_option maxHeartbeats 4000000
namespace Vs
open PySem PySem.Spec PyProof.Rows L2
/-! ### list(reversed(list)) -/
section
variable {prog : Program} {w : World} {A : Around} {E : Value → Shared → Prop} {s : Shared}
theorem ext_rev {R : Result → Shared → Prop} {it l : Addr} {items : Array Value} (hh : A.handled = none) (hit : s.heap.IsRevIter it l ((items.size : Int) - 1)) (hl : s.heap.IsList l items) (hne : l ≠ it) (hn : items.size ≤ sizeLine)
    (S : Addr) (hSi : S ≠ it) (hSl : S ≠ l) (res : Value) (c₀ : Nat) (hS : s.heap.get? S = some { cls := .type "list", data := .seq #[] c₀ })
    (hR : ∀ (h' : Heap) (tk : Nat) (acc' : Array Value) (c' : Nat), (∀ b o, b ≠ S → b ≠ it → s.heap.get? b = some o → h'.get? b = some o) → h'.get? S = some { cls := .type "list", dict := none, data := .seq acc' c', slots := #[] } →
      ItemsOf (fun i v => items[items.size - 1 - i]? = some v) acc' items.size → R (.ok (.ret res)) { s with heap := h', toks := tk }) :
    wpAny (model prog w) A.in1 (Builtin.List.listExtendWith (.ref S) (.ref it) res)
      (fun fin s' => match fin with | .done f => R (.ok f) s' | .again c' => c'.quiet = true ∧ codeAny (model prog w) A c' R s') (fun e s' => R (.error e) s') s := by
  have W := (Walks.listRev (prog := prog) (w := w) (A := A.in1) hh it l hne items).toS
  have hSf : S ∉ [it, l] := by simp only [List.mem_cons, List.not_mem_nil, or_false, not_or]; exact ⟨hSi, hSl⟩
  have hT : s.TypeIs (.ref it) "list_reverseiterator" := Heap.IsRevIter.typeIs (s := s) hit
  have h1 : Builtin.List.listSameRef (.ref S) (.ref it) = false := by simp [Builtin.List.listSameRef, hSi]
  unfold Builtin.List.listExtendWith
  refine wpAny_bind (wpAny_typeOf hT ?_)
  rw [if_neg (by rw [h1]; decide)]
  refine wpAny_bind (wpAny_pyIter_revIter hit ?_)
  refine wpAny_bind (wpAny_holding ?_)
  unfold Builtin.List.listLengthHint
  refine wpAny_bind (wpAny_specialOf hT RT.nolen_lri ?_)
  show wpAny _ A.in1 (specialOf (Value.ref it) (Str.ofString "__length_hint__") >>= _) _ _ _
  refine wpAny_bind (wpAny_specialOf hT RT.hint_lri ?_)
  generalize hid : ("list_reverseiterator.__length_hint__" : String) = id0
  wp_delta
  rw [show splitId id0 = some ("list_reverseiterator", "__length_hint__") from by subst hid; decide +kernel]
  subst hid
  refine wpAny_bind (wpAny_isInstance (b := true) hT (by rw [isSubtype_type]; kernel_rfl) ?_)
  refine wpAny_pure ?_
  rw [if_neg (by decide)]
  have e0 : ((items.size : Nat) : Int) - 1 - ((0 : Nat) : Int) = (items.size : Int) - 1 := by omega
  refine wpAny_pure ⟨plainId_quiet F.plain_extend_loop _, codeAny_extend_loopS W hn _ hSf _ items.size 0 _ _ _ rfl (Nat.zero_le _) ⟨Nat.zero_le _, by rw [e0]; exact hit, hl⟩ hS (ItemsOf.nil _) fun s' acc' c' hm hS' hacc => ?_⟩
  rw [Moved.eq_with hm]
  refine hR s'.heap s'.toks acc' c' (fun b o hb hb2 e => hm.heap b o (fun hmem => ?_) e) hS' hacc
  rcases List.mem_cons.mp hmem with e' | hmem
  · exact hb e'
  · exact hb2 (List.mem_singleton.mp hmem)
theorem init_rev {R : Result → Shared → Prop} {it l : Addr} {items : Array Value} (hh : A.handled = none) (hit : s.heap.IsRevIter it l ((items.size : Int) - 1)) (hl : s.heap.IsList l items) (hne : l ≠ it) (hn : items.size ≤ sizeLine)
    (S : Addr) (hSi : S ≠ it) (hSl : S ≠ l) (hS : s.heap.get? S = some { cls := .type "list", data := .seq #[] })
    (hR : ∀ (h' : Heap) (tk : Nat) (acc' : Array Value) (c' : Nat), (∀ b o, b ≠ S → b ≠ it → s.heap.get? b = some o → h'.get? b = some o) → h'.get? S = some { cls := .type "list", dict := none, data := .seq acc' c', slots := #[] } →
      ItemsOf (fun i v => items[items.size - 1 - i]? = some v) acc' items.size → R (.ok (.ret .none)) { s with heap := h', toks := tk }) :
    wpAny (model prog w) A.in1 (Builtin.«list.__init__» ⟨[.ref S, .ref it], []⟩)
      (fun fin s' => match fin with | .done f => R (.ok f) s' | .again c' => c'.quiet = true ∧ codeAny (model prog w) A c' R s') (fun e s' => R (.error e) s') s := by
  show wpAny _ _ (do let old ← Builtin.List.listItems (.ref S); Builtin.List.listUpdate (.ref S) (fun _ => #[]); letGo old.toList.reverse; Builtin.List.listExtendWith (.ref S) (.ref it) .none) _ _ s
  refine wpAny_bind ?_
  unfold Builtin.List.listItems
  refine wpAny_bind (wpAny_seqItems hS rfl (wpAny_pure ?_))
  show wpAny _ _ (updateSeq S (fun _ => #[]) >>= fun _ => letGo (#[] : Array Value).toList.reverse >>= fun _ => Builtin.List.listExtendWith (.ref S) (.ref it) .none) _ _ s
  refine wpAny_bind (wpAny_updateSeq hS rfl ?_)
  have hS₂ := Heap.get?_update_self (Obj.mapSeq (fun _ => (#[] : Array Value))) hS rfl
  have oth : ∀ b o, b ≠ S → s.heap.get? b = some o → (s.heap.update S (Obj.mapSeq (fun _ => (#[] : Array Value)))).get? b = some o :=
    fun b o hb e => (Heap.get?_update_other _ _ (Ne.symm hb)).trans e
  refine wpAny_bind (wpAny_letGo ?_)
  obtain ⟨ol, hol, r⟩ := id hl
  refine ext_rev (s := { s with heap := s.heap.update S (Obj.mapSeq (fun _ => (#[] : Array Value))) }) hh (hit.at fun o e => oth it o (Ne.symm hSi) e) ⟨ol, oth l ol (Ne.symm hSl) hol, r⟩ hne hn S hSi hSl .none _ hS₂ fun h' tk acc' c' hk hS' hacc => ?_
  exact hR h' tk acc' c' (fun b o hb hb2 e => hk b o hb hb2 (oth b o hb e)) hS' hacc
theorem call_list_rev {Q : Value → Shared → Prop} {it l : Addr} {items : Array Value} (hh : A.handled = none) (hit : s.heap.IsRevIter it l ((items.size : Int) - 1)) (hl : s.heap.IsList l items) (hne : l ≠ it) (hn : items.size ≤ sizeLine)
    (hQ : ∀ (h' : Heap) (tk : Nat) (acc' : Array Value) (c' : Nat), (∀ b o, b ≠ it → s.heap.get? b = some o → h'.get? b = some o) →
      h'.get? s.heap.objs.size = some { cls := .type "list", dict := none, data := .seq acc' c', slots := #[] } → ItemsOf (fun i v => items[items.size - 1 - i]? = some v) acc' items.size → Q (.ref s.heap.objs.size) { s with heap := h', toks := tk }) :
    wpAny (model prog w) A (call (.type "list") [.ref it]) Q E s := by
  refine callType_codes (Q₁ := fun obj s₁ => obj = .ref s.heap.objs.size ∧ s₁ = { s with heap := s.heap.push { cls := .type "list", data := .seq #[] } }) F.called_list (F.typeCall_list_1 _) F.entry_list_init
    (code_list_new _ ⟨rfl, rfl⟩) fun obj s₁ h₁ => ?_
  obtain ⟨rfl, rfl⟩ := h₁
  have hS : (s.heap.push { cls := .type "list", data := .seq #[] }).get? s.heap.objs.size = some { cls := .type "list", data := .seq #[] } := Heap.get?_push_size _ rfl
  obtain ⟨oi, hoi, _⟩ := id hit
  obtain ⟨ol, hol, _⟩ := id hl
  have hSi : s.heap.objs.size ≠ it := Nat.ne_of_gt (Heap.lt_size hoi)
  have hSl : s.heap.objs.size ≠ l := Nat.ne_of_gt (Heap.lt_size hol)
  refine ⟨⟨_, hS, rfl⟩, F.args_list_init_2 _ _, init_rev (s := { s with heap := s.heap.push { cls := .type "list", data := .seq #[] } }) (A := A.in1) hh (hit.at fun o e => Heap.get?_push_of_some _ e) (hl.push _) hne hn _ hSi hSl hS fun h' tk acc' c' hk hS' hacc => ?_⟩
  exact ⟨rfl, hQ h' tk acc' c' (fun b o hb e => hk b o (Nat.ne_of_lt (Heap.lt_size e)) hb (Heap.get?_push_of_some _ e)) hS' hacc⟩
end
/-- list(reversed(x)), x a list: a new list -/
def tLstRev (K : PySem.W.Frag) (te : TE) : TE := fun σ H Q => te σ H fun v H1 => ∃ (a : Addr) (xs : List V), v = .ref a ∧ SqL K H1 a xs ∧ ∀ q, H1 q = none → Q (.ref q) (upd H1 q (.lst xs.reverse))
theorem pe_lstRev {X : Cx} {e : Expr} {te : TE} {p p2 pos pos2 : Pos} (hc : X.calm = true) (hg : Gl X "list") (hm : X.mg "list" = none) (hg2 : Gl X "reversed") (hm2 : X.mg "reversed" = none) (he : PE X e te)
    (hs : starEach [e] X.env = (false, eval e X.env) :: starEach [] X.env := by rfl)
    (hs2 : starEach [.Call (.Name "reversed" p2) [e] [] pos2] X.env = (false, eval (.Call (.Name "reversed" p2) [e] [] pos2) X.env) :: starEach [] X.env := by rfl) :
    PE X (.Call (.Name "list" p) [.Call (.Name "reversed" p2) [e] [] pos2] [] pos) (tLstRev X.K te) := by
  refine ⟨fun pins s σ H Q I h => ?_⟩
  refine Call_ (ld_blt I hg hm boot_list (PyProof.Rows.callWith_type1 (args_cons (Call_ (ld_blt I hg2 hm2 PyProof.Rows.boot_reversed (PyProof.Rows.callWith_type1 (args_cons (thn (he.run pins s σ H _ I h) fun u s1 ⟨v, H1, I1, r1, q1⟩ => args_nil ?_) hs) hs rfl))) hs2) hs2 rfl))
  obtain ⟨a, xs, ev, hq, q⟩ := q1
  subst ev
  obtain rfl : u = Value.ref a := r1
  obtain ⟨its, rv, p', hz⟩ := I1.list hq
  refine call_reversed_list p'.isList (args_nil ?_)
  have k0 : ∀ b o, s1.heap.get? b = some o → (s1.heap.push (revObj a ((its.toArray.size : Int) - 1))).get? b = some o := fun b o e => Heap.get?_push_of_some _ e
  have I2 : Inv X pins σ H1 { s1 with heap := s1.heap.push (revObj a ((its.toArray.size : Int) - 1)) } := I1.kept (t' := s1.toks) k0
  obtain ⟨f0, f1, f2, f3, f4, f5⟩ := I1.fpOk (H' := H1) (b := s1.heap.objs.size) (Nat.le_refl _) (I1.hok.fresh (Nat.le_refl _))
  have hl := p'.isList
  obtain ⟨ol, hol, _⟩ := id hl
  have hne : a ≠ s1.heap.objs.size := Nat.ne_of_lt (Heap.lt_size hol)
  have hn : its.toArray.size ≤ sizeLine := by rw [List.size_toArray, ← rv.length]; exact hz
  have hnew : (s1.heap.push (revObj a ((its.toArray.size : Int) - 1))).objs.size = s1.heap.objs.size + 1 := by simp [Heap.push]
  have hfr : s1.heap.objs.size ≤ (s1.heap.push (revObj a ((its.toArray.size : Int) - 1))).objs.size := by rw [hnew]; exact Nat.le_succ _
  refine call_list_rev (s := { s1 with heap := s1.heap.push (revObj a ((its.toArray.size : Int) - 1)) }) (I1.ok.hd hc) ⟨_, Heap.get?_push_size _ rfl, rfl, rfl⟩ (hl.push _) hne hn fun h' tk acc c' hk hS' hi => ?_
  have h9 : Inv X pins σ (upd H1 (s1.heap.push (revObj a ((its.toArray.size : Int) - 1))).objs.size (.lst xs.reverse)) { s1 with heap := h', toks := tk } :=
    I2.turnedNew (t' := tk) (ch := [s1.heap.objs.size]) (fun b o hb e => hk b o (fun z => hb (by simp [z])) e) (fun b hb => by
      have e : b = s1.heap.objs.size := by simpa using hb
      subst e
      exact ⟨f0, f1, f2, f3, f4, f5⟩) (Nat.le_refl _) (show ObjOk X.prog X.w _ _ _ (.lst xs.reverse) from ⟨by rw [List.length_reverse]; exact hz, acc.toList, c', RT.vals_rev rv hi, by rw [Array.toArray_toList]; exact hS'⟩)
  exact ⟨.ref (s1.heap.push (revObj a ((its.toArray.size : Int) - 1))).objs.size, _, h9, rfl, q _ (I2.hok.fresh (Nat.le_refl _))⟩
section
variable {X : Cx} {F0 : Hp} {Γ : Gm} {L : Lg} {k : D → Lg → Prop} {e : Expr} {pos p p2 pos2 : Pos}
theorem AsL.sq {K : PySem.W.Frag} {F H : Hp} {L : Lg} {x : D} {ds : List D} {v : V} (a : AsL L x ds) (l : Led K F L H) (r : Rep K F x v) : ∃ p xs, v = .ref p ∧ SqL K H p xs ∧ Reps K F ds xs := a.read l r
/-- list(reversed(xs)), the new list to be changed -/
theorem ek_revO (hc : X.calm = true) (hm : X.mg "list" = none) (hg : Gl X "list") (hm2 : X.mg "reversed" = none) (hg2 : Gl X "reversed") (h : EvK X F0 e Γ L fun x L1 => ∃ ds, AsL L1 x ds ∧ ∀ p, k (.ref p) ((p, .lst ds.reverse) :: L1))
    (hs : starEach [e] X.env = (false, eval e X.env) :: starEach [] X.env := by rfl)
    (hs2 : starEach [.Call (.Name "reversed" p2) [e] [] pos2] X.env = (false, eval (.Call (.Name "reversed" p2) [e] [] pos2) X.env) :: starEach [] X.env := by rfl) : EvK X F0 (.Call (.Name "list" p) [.Call (.Name "reversed" p2) [e] [] pos2] [] pos) Γ L k := fun F σ H Q E q =>
  wpE.of (pe_lstRev hc hg hm hg2 hm2 we hs hs2) (h F σ H _ E fun x L1 F1 v H1 ⟨ds, a, h1⟩ E1 s1 r1 => by
    obtain ⟨p, xs, rfl, hx, rx⟩ := a.read E1.led r1
    exact ⟨p, xs, rfl, hx, fun n hn => q _ _ F1 _ _ (h1 n) ⟨E1.ge, E1.led.newL hn rx.rev, E1.sl⟩ s1 .ref⟩)
end
end Vs

set_option Elab.async false
set_option linter.all false
set_option maxRecDepth 100000
set_option maxHeartbeats 4000000
namespace Vs
open PySem PySem.Spec PyProof.Rows L2
/-! ### tuples -/
section
variable {X : Cx} {F0 : Hp} {Γ : Gm} {L : Lg} {k : D → Lg → Prop} {e a b : Expr} {lo hi : Option Expr} {pos p p2 p3 : Pos}
/-- tuple(xs) -/
theorem ek_tupOf (hm : X.mg "tuple" = none) (hg : Gl X "tuple") (h : EvK X F0 e Γ L fun x L1 => ∃ ds, (AsL L1 x ds ∨ x = .tup ds) ∧ k (.tup ds) L1)
    (na : starEach [e] X.env = (false, eval e X.env) :: starEach [] X.env := by rfl) : EvK X F0 (.Call (.Name "tuple" p) [e] [] pos) Γ L k := fun F σ H Q E q =>
  wpE.of (pe_tupleOf hg hm we na) (h F σ H _ E fun x L1 F1 v H1 ⟨ds, a, h1⟩ E1 s1 r1 => by
    rcases a with a | rfl
    · obtain ⟨p, xs, rfl, hx, rx⟩ := a.read E1.led r1
      refine .inl ⟨p, xs, rfl, hx, fun n hn => ?_⟩
      have s2 : Same F1 (upd F1 n (.tup xs)) := same_new (E1.led.free hn)
      exact q _ L1 _ _ _ h1 (E1.new hn) (s1.trans s2) (.tup (.inl (.inl upd_same)) (rx.mono s2))
    · cases r1 with
      | tup hx rx => exact .inr ⟨_, _, rfl, seqT E1.led.sub hx, q _ L1 F1 _ H1 h1 E1 s1 (.tup hx rx)⟩)
/-- s + t, tuples -/
theorem ek_catT (h : EvK X F0 a Γ L fun x L1 => EvK X F0 b Γ L1 fun y L2 => ∃ ds es, x = .tup ds ∧ y = .tup es ∧ ds.length + es.length ≤ sizeLine ∧ k (.tup (ds ++ es)) L2) : EvK X F0 (.BinOp a .Add b pos) Γ L k := fun F σ H Q E q =>
  wpE.of (pe_op op_catA we we) (h F σ H _ E fun x L1 F1 v H1 h1 E1 s1 r1 => h1 F1 σ H1 _ E1 fun y L2 F2 u H2 ⟨ds, es, e1, e2, hz, h2⟩ E2 s2 r2 => by
    subst e1 e2
    have r1' := r1.mono s2
    cases r1' with
    | tup hx rx =>
      cases r2 with
      | tup hy ry =>
        refine ⟨_, _, _, _, rfl, rfl, seqT E2.led.sub hx, seqT E2.led.sub hy, by rw [← rx.length, ← ry.length]; exact hz, fun z => ?_, fun _ z => ?_, fun _ _ n hn => ?_⟩
        · subst z
          cases rx
          exact q _ L2 F2 _ H2 h2 E2 (s1.trans s2) (.tup hy ry)
        · subst z
          cases ry
          rw [List.append_nil] at h2
          exact q _ L2 F2 _ H2 h2 E2 (s1.trans s2) (.tup hx rx)
        · exact q _ L2 _ _ _ h2 (E2.new hn) (s1.trans (s2.trans (same_new (E2.led.free hn)))) (.tup (.inl (.inl upd_same)) ((rx.append ry).mono (same_new (E2.led.free hn)))))
theorem cut_all {xs : List D} {lo hi : Option Int} (h : HT.sIx xs.length 0 lo = 0 ∧ HT.sIx xs.length xs.length hi = xs.length) : cutD xs lo hi = xs := by
  unfold cutD
  rw [h.1, h.2, List.drop_zero, Nat.sub_zero, List.take_of_length_le (Nat.le_refl _)]
/-- t[i:j], a tuple -/
theorem ek_slT (h : EvK X F0 a Γ L fun x L1 => EoK X F0 lo Γ L1 fun i L2 => EoK X F0 hi Γ L2 fun j L3 => ∃ ds, x = .tup ds ∧ k (.tup (cutD ds i j)) L3) : EvK X F0 (.Subscript a (.Slice lo hi none p2) pos) Γ L k := fun F σ H Q E q =>
  wpE.of (pe_slice sl_tupA we wo wo) (h F σ H _ E fun x L1 F1 v H1 h1 E1 s1 r1 => h1 F1 σ H1 _ E1 fun i L2 F2 H2 h2 E2 s2 => h2 F2 σ H2 _ E2 fun j L3 F3 H3 ⟨ds, e1, h3⟩ E3 s3 => by
    subst e1
    have r1' := r1.mono (s2.trans s3)
    cases r1' with
    | tup hx rx =>
      refine ⟨_, _, rfl, seqT E3.led.sub hx, fun z => ?_, fun z n hn => ?_⟩
      · rw [← rx.length] at z
        rw [cut_all z] at h3
        exact q _ L3 F3 _ H3 h3 E3 (s1.trans (s2.trans s3)) (.tup hx rx)
      · exact q _ L3 _ _ _ h3 (E3.new hn) (s1.trans (s2.trans (s3.trans (same_new (E3.led.free hn))))) (.tup (.inl (.inl upd_same)) (rx.cut.mono (same_new (E3.led.free hn)))))
theorem rgV_reps {K : PySem.W.Frag} {F : Hp} {a b : Int} : Reps K F (rangeD a (b - a).toNat) (rgV a b) := by
  unfold rangeD rgV
  generalize (b - a).toNat = n
  have g : ∀ l : List Nat, Reps K F (l.map fun (i : Nat) => D.int (a + (i : Int))) (l.map fun (i : Nat) => V.int (a + (i : Nat))) := fun l => by
    induction l with
    | nil => exact .nil
    | cons x l ih => exact .cons .int ih
  exact g _
/-- list(range(a, b)) -/
theorem ek_listR2 (hc : X.calm = true) (hm : X.mg "list" = none) (hg : Gl X "list") (hm2 : X.mg "range" = none) (hg2 : Gl X "range") (h : EvK X F0 a Γ L fun x L1 => ∃ i, x = .int i ∧ EvK X F0 b Γ L1 fun y L2 => ∃ j, y = .int j ∧ RgOk i j ∧ k (.lst (rangeD i (j - i).toNat)) L2)
    (na : starEach [.Call (.Name "range" p2) [a, b] [] p3] X.env = (false, eval (.Call (.Name "range" p2) [a, b] [] p3) X.env) :: starEach [] X.env := by rfl)
    (na2 : starEach [a, b] X.env = (false, eval a X.env) :: starEach [b] X.env := by rfl) (nb : starEach [b] X.env = (false, eval b X.env) :: starEach [] X.env := by rfl) (hp : (backTo p3 (starEach [b] X.env)).any (·.1) = false := by rfl) :
    EvK X F0 (.Call (.Name "list" p) [.Call (.Name "range" p2) [a, b] [] p3] [] pos) Γ L k := fun F σ H Q E q =>
  wpE.of (pe_listRg hc hg hm (prg_2 hg2 hm2 we we na2 nb hp) na) (h F σ H _ E fun x L1 F1 v H1 ⟨i, e1, h1⟩ E1 s1 r1 => h1 F1 σ H1 _ E1 fun y L2 F2 u H2 ⟨j, e2, hr, h2⟩ E2 s2 r2 => by
    subst e1 e2
    cases r1
    cases r2
    refine ⟨i, j, rfl, rfl, hr, fun n hn => ?_⟩
    exact q _ L2 _ _ _ h2 (E2.new hn) (s1.trans (s2.trans (same_new (E2.led.free hn)))) (.lst (.inl (.inl upd_same)) rgV_reps))
theorem ek_listR1 (hc : X.calm = true) (hm : X.mg "list" = none) (hg : Gl X "list") (hm2 : X.mg "range" = none) (hg2 : Gl X "range") (h : EvK X F0 b Γ L fun y L2 => ∃ j, y = .int j ∧ RgOk 0 j ∧ k (.lst (rangeD 0 j.toNat)) L2)
    (na : starEach [.Call (.Name "range" p2) [b] [] p3] X.env = (false, eval (.Call (.Name "range" p2) [b] [] p3) X.env) :: starEach [] X.env := by rfl)
    (nb : starEach [b] X.env = (false, eval b X.env) :: starEach [] X.env := by rfl) :
    EvK X F0 (.Call (.Name "list" p) [.Call (.Name "range" p2) [b] [] p3] [] pos) Γ L k := fun F σ H Q E q =>
  wpE.of (pe_listRg hc hg hm (prg_1 hg2 hm2 we nb) na) (h F σ H _ E fun y L2 F2 u H2 ⟨j, e2, hr, h2⟩ E2 s2 r2 => by
    subst e2
    cases r2
    refine ⟨j, rfl, hr, fun n hn => ?_⟩
    have h3 : k (.lst (rangeD 0 (j - 0).toNat)) L2 := by rw [Int.sub_zero]; exact h2
    exact q _ L2 _ _ _ h3 (E2.new hn) (s2.trans (same_new (E2.led.free hn))) (.lst (.inl (.inl upd_same)) rgV_reps))
end
end Vs

set_option Elab.async false
set_option linter.all false
set_option maxRecDepth 100000
set_option maxHeartbeats 4000000
namespace Vs
open PySem PySem.Spec PyProof.Rows L2
/-! ### ranges as values, x in .. -/
section
variable {X : Cx} {F0 : Hp} {Γ : Gm} {L : Lg} {k : D → Lg → Prop} {kt : Bool → Lg → Prop} {e a b c o : Expr} {es rest : List Expr} {pos p2 apos cpos : Pos}
theorem ek_rng2 {p : Pos} (hm : X.mg "range" = none) (hg : Gl X "range") (h : EvK X F0 a Γ L fun x L1 => ∃ i, x = .int i ∧ EvK X F0 b Γ L1 fun y L2 => ∃ j, y = .int j ∧ k (.rng i j) L2)
    (he : starEach [a, b] X.env = (false, eval a X.env) :: starEach [b] X.env := by rfl) (he2 : starEach [b] X.env = (false, eval b X.env) :: starEach [] X.env := by rfl) (hpl : (backTo pos (starEach [b] X.env)).any (·.1) = false := by rfl) :
    EvK X F0 (.Call (.Name "range" p) [a, b] [] pos) Γ L k := fun F σ H Q E q =>
  wpE.of (pe_callTy cr_range2 hg hm (by decide +kernel) (pa_cons we (pa_cons we pa_nil he2) he) (by decide) (by decide) he hpl) (h F σ H _ E fun x L1 F1 v H1 ⟨i, e1, h1⟩ E1 s1 r1 => h1 F1 σ H1 _ E1 fun y L2 F2 u H2 ⟨j, e2, h2⟩ E2 s2 r2 => by
    subst e1 e2
    cases r1
    cases r2
    exact ⟨i, j, rfl, fun p hp => q _ L2 _ _ _ h2 (E2.new hp) (s1.trans (s2.trans (same_new (E2.led.free hp)))) (.rng upd_same)⟩)
theorem op_notin_rng : OpR X (compareOp .NotIn) (fun x y H Q => ∃ i a lo hi, x = V.int i ∧ y = V.ref a ∧ H a = some (.rng lo hi) ∧ Q (.bl (!decide (lo ≤ i ∧ i < hi))) H) := by
  intro pins s σ H x y v u Q I rx ry h
  obtain ⟨i, a, lo, hi, rfl, rfl, ha, q⟩ := h
  obtain ⟨k, rfl⟩ := rx
  obtain rfl : u = Value.ref a := ry
  obtain ⟨t1, t2, t3, ho⟩ := I.hok a _ ha
  show wpAny _ _ (do return Value.bool (!(← contains (Value.ref a) (Value.int i k)))) _ _ s
  refine wpAny_bind (wpAny_contains_slot (T := "range") ⟨_, ho, rfl⟩ PySem.F.slot_range_contains (call_meets PySem.F.slot_range_contains ⟨_, ho, rfl⟩ PySem.F.entry_range_contains (PySem.F.args_range_contains_2 _ _) (q_contains a lo hi i t1 t2 t3 k)
    ⟨ho, wpAny_truthy_bool (wpAny_pure ⟨.bl _, H, I, rfl, ?_⟩)⟩))
  rw [place1]
  exact q
theorem rd_rng {op : CmpOp} {g : Bool → Bool} (h : EvK X F0 a Γ L fun x L1 => ∃ i, x = .int i ∧ EvK X F0 b Γ L1 fun y L2 => ∃ lo hi, y = .rng lo hi ∧ k (.bl (g (decide (lo ≤ i ∧ i < hi)))) L2) :
    RdK X F0 (tOp (fun x y H Q => ∃ i a lo hi, x = V.int i ∧ y = V.ref a ∧ H a = some (.rng lo hi) ∧ Q (.bl (g (decide (lo ≤ i ∧ i < hi)))) H) (wpE X a) (wpE X b)) Γ L k := fun F σ H Q E q =>
  h F σ H _ E fun x L1 F1 v H1 ⟨i, e1, h1⟩ E1 s1 r1 => h1 F1 σ H1 _ E1 fun y L2 F2 u H2 ⟨lo, hi, e2, h2⟩ E2 s2 r2 => by
    subst e1 e2
    cases r1
    cases r2 with
    | rng hr => exact ⟨i, _, lo, hi, rfl, rfl, E2.led.sub _ _ hr, q _ L2 F2 _ H2 h2 E2 (s1.trans s2) .bl⟩
theorem ek_inR (h : EvK X F0 a Γ L fun x L1 => ∃ i, x = .int i ∧ EvK X F0 b Γ L1 fun y L2 => ∃ lo hi, y = .rng lo hi ∧ k (.bl (decide (lo ≤ i ∧ i < hi))) L2) (hm : behindInMarks .In b = false := by rfl) : EvK X F0 (.Compare a [.In] [b] pos) Γ L k := (rd_rng (op := .In) (g := id) h).ev (pe_cmpR op_in_rng we we hm)
theorem ek_notinR (h : EvK X F0 a Γ L fun x L1 => ∃ i, x = .int i ∧ EvK X F0 b Γ L1 fun y L2 => ∃ lo hi, y = .rng lo hi ∧ k (.bl (!decide (lo ≤ i ∧ i < hi))) L2) (hm : behindInMarks .NotIn b = false := by rfl) : EvK X F0 (.Compare a [.NotIn] [b] pos) Γ L k := (rd_rng (op := .NotIn) (g := (!·)) h).ev (pe_cmpR op_notin_rng we we hm)
/-- a test is the value's -/
theorem evk_mono {k k' : D → Lg → Prop} (h : EvK X F0 e Γ L k) (hk : ∀ d L', k d L' → k' d L') : EvK X F0 e Γ L k' := fun F σ H Q E q => h F σ H Q E fun d L' F' v H' h1 => q d L' F' v H' (hk d L' h1)
theorem et_inR (h : EvK X F0 a Γ L fun x L1 => ∃ i, x = .int i ∧ EvK X F0 b Γ L1 fun y L2 => ∃ lo hi, y = .rng lo hi ∧ ∃ t, D.bl (decide (lo ≤ i ∧ i < hi)) = .bl t ∧ kt t L2) (hm : behindInMarks .In b = false := by rfl) : EtK X F0 (.Compare a [.In] [b] pos) Γ L kt := (rd_rng (op := .In) (g := id) (k := fun d L2 => ∃ t, d = .bl t ∧ kt t L2) h).tst (pt_cmpR op_in_rng we we hm)
theorem et_notinR (h : EvK X F0 a Γ L fun x L1 => ∃ i, x = .int i ∧ EvK X F0 b Γ L1 fun y L2 => ∃ lo hi, y = .rng lo hi ∧ ∃ t, D.bl (!decide (lo ≤ i ∧ i < hi)) = .bl t ∧ kt t L2) (hm : behindInMarks .NotIn b = false := by rfl) : EtK X F0 (.Compare a [.NotIn] [b] pos) Γ L kt := (rd_rng (op := .NotIn) (g := (!·)) (k := fun d L2 => ∃ t, d = .bl t ∧ kt t L2) h).tst (pt_cmpR op_notin_rng we we hm)
/-! x in xs, numbers -/
theorem inV_ints {i : Int} : ∀ {ns : List Int}, inV (.int i) (ns.map V.int) = decide (i ∈ ns)
  | [] => by simp [inV]
  | n :: ns => by
    have ih := inV_ints (i := i) (ns := ns)
    unfold inV at ih ⊢
    rw [List.map_cons, List.any_cons, ih]
    show ((n == i) || decide (i ∈ ns)) = decide (i ∈ n :: ns)
    by_cases h : n = i
    · subst h; simp
    · have h2 : ¬ i = n := fun z => h z.symm
      simp [h, h2]
theorem flat_ints : ∀ {ns : List Int}, (ns.map V.int).all flatV = true
  | [] => rfl
  | n :: ns => by rw [List.map_cons, List.all_cons, flat_ints]; rfl
/-- a list or a tuple -/
def AsS (L : Lg) (x : D) (ds : List D) : Prop := AsL L x ds ∨ x = .tup ds
theorem AsS.read {K : PySem.W.Frag} {F H : Hp} {L : Lg} {x : D} {v : V} {ds : List D} (a : AsS L x ds) (l : Led K F L H) (r : Rep K F x v) : ∃ p xs, v = .ref p ∧ (SqL K H p xs ∨ SqT K H p xs) ∧ Reps K F ds xs := by
  rcases a with a | rfl
  · obtain ⟨p, xs, h1, h2, h3⟩ := a.read l r
    exact ⟨p, xs, h1, .inl h2, h3⟩
  · cases r with
    | tup hx rx => exact ⟨_, _, rfl, .inr (seqT l.sub hx), rx⟩
theorem rd_inI {neg : Bool} (h : EvK X F0 a Γ L fun x L1 => ∃ i, x = .int i ∧ EvK X F0 b Γ L1 fun y L2 => ∃ ns, AsS L2 y (dI ns) ∧ k (.bl (if neg then !decide (i ∈ ns) else decide (i ∈ ns))) L2) : RdK X F0 (tOp (rIn X.K neg) (wpE X a) (wpE X b)) Γ L k := fun F σ H Q E q =>
  h F σ H _ E fun x L1 F1 v H1 ⟨i, e1, h1⟩ E1 s1 r1 => h1 F1 σ H1 _ E1 fun y L2 F2 u H2 ⟨ns, as, h2⟩ E2 s2 r2 => by
    subst e1
    cases r1
    obtain ⟨p, xs, rfl, hx, rx⟩ := as.read E2.led r2
    have e := il_reps rx
    subst e
    refine ⟨p, _, rfl, hx, rfl, flat_ints, ?_⟩
    rw [inV_ints]
    exact q _ L2 F2 _ H2 h2 E2 (s1.trans s2) .bl
theorem ek_inI (h : EvK X F0 a Γ L fun x L1 => ∃ i, x = .int i ∧ EvK X F0 b Γ L1 fun y L2 => ∃ ns, AsS L2 y (dI ns) ∧ k (.bl (decide (i ∈ ns))) L2) (hm : behindInMarks .In b = false := by rfl) : EvK X F0 (.Compare a [.In] [b] pos) Γ L k := (rd_inI (neg := false) h).ev (pe_cmpR op_in_seq we we hm)
theorem ek_notinI (h : EvK X F0 a Γ L fun x L1 => ∃ i, x = .int i ∧ EvK X F0 b Γ L1 fun y L2 => ∃ ns, AsS L2 y (dI ns) ∧ k (.bl (!decide (i ∈ ns))) L2) (hm : behindInMarks .NotIn b = false := by rfl) : EvK X F0 (.Compare a [.NotIn] [b] pos) Γ L k := (rd_inI (neg := true) h).ev (pe_cmpR op_notIn_seq we we hm)
theorem et_inI (h : EvK X F0 a Γ L fun x L1 => ∃ i, x = .int i ∧ EvK X F0 b Γ L1 fun y L2 => ∃ ns, AsS L2 y (dI ns) ∧ ∃ t, D.bl (decide (i ∈ ns)) = .bl t ∧ kt t L2) (hm : behindInMarks .In b = false := by rfl) : EtK X F0 (.Compare a [.In] [b] pos) Γ L kt := (rd_inI (neg := false) (k := fun d L2 => ∃ t, d = .bl t ∧ kt t L2) h).tst (pt_cmpR op_in_seq we we hm)
theorem et_notinI (h : EvK X F0 a Γ L fun x L1 => ∃ i, x = .int i ∧ EvK X F0 b Γ L1 fun y L2 => ∃ ns, AsS L2 y (dI ns) ∧ ∃ t, D.bl (!decide (i ∈ ns)) = .bl t ∧ kt t L2) (hm : behindInMarks .NotIn b = false := by rfl) : EtK X F0 (.Compare a [.NotIn] [b] pos) Γ L kt := (rd_inI (neg := true) (k := fun d L2 => ∃ t, d = .bl t ∧ kt t L2) h).tst (pt_cmpR op_notIn_seq we we hm)
/-- x in xs, data of any depth -/
theorem rd_inD (h : EvK X F0 a Γ L fun x L1 => EvK X F0 b Γ L1 fun y L2 => ∃ d ds, Dpd L2 x d ∧ Dpd L2 y (.list ds) ∧ SeqAt.shaped d = true ∧ SeqAt.shaped (.list ds) = true ∧ k (.bl (ds.any fun z => PyData.eqv z d)) L2) : RdK X F0 (tOp (rInD X.K) (wpE X a) (wpE X b)) Γ L k := fun F σ H Q E q =>
  h F σ H _ E fun x L1 F1 v H1 h1 E1 s1 r1 => h1 F1 σ H1 _ E1 fun y L2 F2 u H2 ⟨d, ds, d1, d2, z1, z2, h2⟩ E2 s2 r2 =>
    ⟨d, ds, d1.dp E2.led (r1.mono s2), d2.dp E2.led r2, z1, z2, q _ L2 F2 _ H2 h2 E2 (s1.trans s2) .bl⟩
theorem rd_notinD (h : EvK X F0 a Γ L fun x L1 => EvK X F0 b Γ L1 fun y L2 => ∃ d ds, Dpd L2 x d ∧ Dpd L2 y (.list ds) ∧ SeqAt.shaped d = true ∧ SeqAt.shaped (.list ds) = true ∧ k (.bl (!ds.any fun z => PyData.eqv z d)) L2) : RdK X F0 (tOp (rNotInD X.K) (wpE X a) (wpE X b)) Γ L k := fun F σ H Q E q =>
  h F σ H _ E fun x L1 F1 v H1 h1 E1 s1 r1 => h1 F1 σ H1 _ E1 fun y L2 F2 u H2 ⟨d, ds, d1, d2, z1, z2, h2⟩ E2 s2 r2 =>
    ⟨d, ds, d1.dp E2.led (r1.mono s2), d2.dp E2.led r2, z1, z2, q _ L2 F2 _ H2 h2 E2 (s1.trans s2) .bl⟩
theorem ek_inD (hu : X.A.units + 65 < cLine) (h : EvK X F0 a Γ L fun x L1 => EvK X F0 b Γ L1 fun y L2 => ∃ d ds, Dpd L2 x d ∧ Dpd L2 y (.list ds) ∧ SeqAt.shaped d = true ∧ SeqAt.shaped (.list ds) = true ∧ k (.bl (ds.any fun z => PyData.eqv z d)) L2) (hm : behindInMarks .In b = false := by rfl) : EvK X F0 (.Compare a [.In] [b] pos) Γ L k := (rd_inD h).ev (pe_cmpR (op_inD hu) we we hm)
theorem ek_notinD (hu : X.A.units + 65 < cLine) (h : EvK X F0 a Γ L fun x L1 => EvK X F0 b Γ L1 fun y L2 => ∃ d ds, Dpd L2 x d ∧ Dpd L2 y (.list ds) ∧ SeqAt.shaped d = true ∧ SeqAt.shaped (.list ds) = true ∧ k (.bl (!ds.any fun z => PyData.eqv z d)) L2) (hm : behindInMarks .NotIn b = false := by rfl) : EvK X F0 (.Compare a [.NotIn] [b] pos) Γ L k := (rd_notinD h).ev (pe_cmpR (op_notInD hu) we we hm)
theorem et_inD (hu : X.A.units + 65 < cLine) (h : EvK X F0 a Γ L fun x L1 => EvK X F0 b Γ L1 fun y L2 => ∃ d ds, Dpd L2 x d ∧ Dpd L2 y (.list ds) ∧ SeqAt.shaped d = true ∧ SeqAt.shaped (.list ds) = true ∧ ∃ t, D.bl (ds.any fun z => PyData.eqv z d) = .bl t ∧ kt t L2) (hm : behindInMarks .In b = false := by rfl) : EtK X F0 (.Compare a [.In] [b] pos) Γ L kt := (rd_inD (k := fun d L2 => ∃ t, d = .bl t ∧ kt t L2) h).tst (pt_cmpR (op_inD hu) we we hm)
theorem et_notinD (hu : X.A.units + 65 < cLine) (h : EvK X F0 a Γ L fun x L1 => EvK X F0 b Γ L1 fun y L2 => ∃ d ds, Dpd L2 x d ∧ Dpd L2 y (.list ds) ∧ SeqAt.shaped d = true ∧ SeqAt.shaped (.list ds) = true ∧ ∃ t, D.bl (!ds.any fun z => PyData.eqv z d) = .bl t ∧ kt t L2) (hm : behindInMarks .NotIn b = false := by rfl) : EtK X F0 (.Compare a [.NotIn] [b] pos) Γ L kt := (rd_notinD (k := fun d L2 => ∃ t, d = .bl t ∧ kt t L2) h).tst (pt_cmpR (op_notInD hu) we we hm)
/-! min, max of a list of numbers -/
def minI (ns : List Int) : Int := ns.min?.getD 0
def maxI (ns : List Int) : Int := ns.max?.getD 0
theorem minI_at {ns : List Int} {m : Int} (h : m ∈ ns) (h2 : ∀ y ∈ ns, m ≤ y) : minI ns = m := by
  unfold minI
  rw [List.min?_eq_some_iff.mpr ⟨h, h2⟩]
  rfl
theorem maxI_at {ns : List Int} {m : Int} (h : m ∈ ns) (h2 : ∀ y ∈ ns, y ≤ m) : maxI ns = m := by
  unfold maxI
  rw [List.max?_eq_some_iff.mpr ⟨h, h2⟩]
  rfl
theorem minI_ok {ns : List Int} (h : 0 < ns.length) : minI ns ∈ ns ∧ ∀ y ∈ ns, minI ns ≤ y := by
  cases e : ns.min? with
  | none => rw [List.min?_eq_none_iff] at e; subst e; exact absurd h (Nat.lt_irrefl _)
  | some m =>
    have e2 : minI ns = m := by unfold minI; rw [e]; rfl
    rw [e2]
    exact List.min?_eq_some_iff.mp e
theorem maxI_ok {ns : List Int} (h : 0 < ns.length) : maxI ns ∈ ns ∧ ∀ y ∈ ns, y ≤ maxI ns := by
  cases e : ns.max? with
  | none => rw [List.max?_eq_none_iff] at e; subst e; exact absurd h (Nat.lt_irrefl _)
  | some m =>
    have e2 : maxI ns = m := by unfold maxI; rw [e]; rfl
    rw [e2]
    exact List.max?_eq_some_iff.mp e
theorem ek_minL {p : Pos} (hc : X.calm = true) (hm : X.mg "min" = none) (hg : Gl X "min") (h : EvK X F0 e Γ L fun x L1 => ∃ ns : List Int, AsL L1 x (dI ns) ∧ 0 < ns.length ∧ k (.int (minI ns)) L1)
    (he : starEach [e] X.env = (false, eval e X.env) :: starEach [] X.env := by rfl) (hpl : (backTo pos (starEach [] X.env)).any (·.1) = false := by rfl) : EvK X F0 (.Call (.Name "min" p) [e] [] pos) Γ L k := fun F σ H Q E q =>
  wpE.of (pe_callB (cr_min hc) hg hm (by decide +kernel) (pa_cons we pa_nil he) (by decide) (by decide) he hpl) (h F σ H _ E fun x L1 F1 v H1 ⟨ns, a, hl, h1⟩ E1 s1 r1 => by
    obtain ⟨p, xs, rfl, hx, rx⟩ := a.read E1.led r1
    have e := il_reps rx
    subst e
    exact ⟨p, ns, rfl, hx, hl, fun m m1 m2 => by rw [minI_at m1 m2] at h1; exact q _ L1 F1 _ H1 h1 E1 s1 .int⟩)
theorem ek_maxL {p : Pos} (hc : X.calm = true) (hm : X.mg "max" = none) (hg : Gl X "max") (h : EvK X F0 e Γ L fun x L1 => ∃ ns : List Int, AsL L1 x (dI ns) ∧ 0 < ns.length ∧ k (.int (maxI ns)) L1)
    (he : starEach [e] X.env = (false, eval e X.env) :: starEach [] X.env := by rfl) (hpl : (backTo pos (starEach [] X.env)).any (·.1) = false := by rfl) : EvK X F0 (.Call (.Name "max" p) [e] [] pos) Γ L k := fun F σ H Q E q =>
  wpE.of (pe_callB (cr_max hc) hg hm (by decide +kernel) (pa_cons we pa_nil he) (by decide) (by decide) he hpl) (h F σ H _ E fun x L1 F1 v H1 ⟨ns, a, hl, h1⟩ E1 s1 r1 => by
    obtain ⟨p, xs, rfl, hx, rx⟩ := a.read E1.led r1
    have e := il_reps rx
    subst e
    exact ⟨p, ns, rfl, hx, hl, fun m m1 m2 => by rw [maxI_at m1 m2] at h1; exact q _ L1 F1 _ H1 h1 E1 s1 .int⟩)
end
/-! ### xs.extend, xs.clear, xs.pop -/
theorem q_extendL (l : Addr) (items : Array Value) (n : Nat) (b : Addr) (items2 : Array Value) (n2 : Nat) (dd2 : Option Addr) (sl2 : Array (Option Value)) (hc0 : ¬(!items.isEmpty && Builtin.List.listTooLong (items.size + items2.size)) = true) (hc1 : items.size ≤ sizeLine) (hs2 : items.size + items2.size ≤ sizeLine + 1) :
    Meets (Builtin.«list.extend» ⟨[.ref l, .ref b], []⟩) (fun _ R s => s.heap.get? l = some { cls := .type "list", dict := none, data := .seq items n, slots := #[] } ∧ s.heap.get? b = some { cls := .type "list", dict := dd2, data := .seq items2 n2, slots := sl2 } ∧ R (.ok (.ret Value.none)) { s with heap := s.heap.update l (Obj.mapSeq fun x => x ++ items2), toks := s.toks }) :=
  .of_wp fun prog w A R s h => by
    obtain ⟨hp, g, d, tk, os⟩ := s; obtain ⟨hl, hb, h⟩ := h; have f1 := AutoSeq1.idx_int; have f2 := AutoSeq1.sub_tuple_tuple; have f3 := AutoSeq1.sub_list_list; have f4 := AutoSeq1.sub_tuple_list; have f5 := AutoSeq1.sub_list_tuple;
    have hz' : (items ++ items2).size ≤ sizeLine + 1 := by rw [Array.size_append]; exact hs2
    wp_walk using (wpAny_updateSeq hl rfl (hz := hc1) (_hz' := hz')), wpAny_loadPart' hl, wpAny_loadPart' hb; exact ⟨_, rfl, h⟩
theorem q_extendT (l : Addr) (items : Array Value) (n : Nat) (b : Addr) (items2 : Array Value) (n2 : Nat) (dd2 : Option Addr) (sl2 : Array (Option Value)) (hc0 : ¬(!items.isEmpty && Builtin.List.listTooLong (items.size + items2.size)) = true) (hc1 : items.size ≤ sizeLine) (hs2 : items.size + items2.size ≤ sizeLine + 1) :
    Meets (Builtin.«list.extend» ⟨[.ref l, .ref b], []⟩) (fun _ R s => s.heap.get? l = some { cls := .type "list", dict := none, data := .seq items n, slots := #[] } ∧ s.heap.get? b = some { cls := .type "tuple", dict := dd2, data := .seq items2 n2, slots := sl2 } ∧ R (.ok (.ret Value.none)) { s with heap := s.heap.update l (Obj.mapSeq fun x => x ++ items2), toks := s.toks }) :=
  .of_wp fun prog w A R s h => by
    obtain ⟨hp, g, d, tk, os⟩ := s; obtain ⟨hl, hb, h⟩ := h; have f1 := AutoSeq1.idx_int; have f2 := AutoSeq1.sub_tuple_tuple; have f3 := AutoSeq1.sub_list_list; have f4 := AutoSeq1.sub_tuple_list; have f5 := AutoSeq1.sub_list_tuple;
    have hz' : (items ++ items2).size ≤ sizeLine + 1 := by rw [Array.size_append]; exact hs2
    wp_walk using (wpAny_updateSeq hl rfl (hz := hc1) (_hz' := hz')), wpAny_loadPart' hl, wpAny_loadPart' hb; exact ⟨_, rfl, h⟩
def rExtQ (K : PySem.W.Frag) : V → List V → Hp → VK → Prop := fun x vs H Q => ∃ l b xs zs, x = .ref l ∧ vs = [.ref b] ∧ H l = some (.lst xs) ∧ (SqL K H b zs ∨ SqT K H b zs) ∧ xs.length + zs.length ≤ sizeLine ∧ Q .non (upd H l (.lst (xs ++ zs)))
theorem mt_extendQ {X : Cx} : MtM X "list.extend" (rExtQ X.K) := by
  intro pins s σ H x vs v us Q I rx rv h
  obtain ⟨l, b, xs, zs, rfl, rfl, hH, hB, hz, q⟩ := h
  cases rx
  obtain ⟨u, rfl, ru⟩ := rv.one
  cases ru
  obtain ⟨z, its, n, r, hl, e⟩ := I.lstM hH
  rcases hB with hB | hB
  · obtain ⟨its2, r2, ⟨o2, n2, g2, c2, d2, e2⟩, hl2⟩ := I.list hB
    obtain ⟨oc2, od2, dt2, sl2⟩ := o2
    dsimp only at c2 e2
    subst c2 e2
    have hn2 := r2.length
    have hsz : its.toArray.size + its2.toArray.size ≤ sizeLine := by rw [List.size_toArray, List.size_toArray]; omega
    have hlong : ¬ (!its.toArray.isEmpty && Builtin.List.listTooLong (its.toArray.size + its2.toArray.size)) = true := by
      rw [notLongL hsz, Bool.and_false]
      exact Bool.false_ne_true
    refine call_meets PySem.F.slot_list_extend ⟨_, e, rfl⟩ PySem.F.entry_list_extend (PySem.F.args_list_extend_2 _ _)
      (q_extendL l its.toArray n b its2.toArray n2 od2 sl2 hlong (by rw [List.size_toArray]; omega) (by omega)) ⟨e, g2, ?_⟩
    refine ⟨.non, _, I.lset (its' := its ++ its2) hH e (by simp) (r.append r2) ?_, rfl, q⟩
    rw [List.length_append]
    omega
  · obtain ⟨its2, r2, ⟨o2, g2, c2, n2, e2⟩, hl2⟩ := I.tuple hB
    obtain ⟨oc2, od2, dt2, sl2⟩ := o2
    dsimp only at c2 e2
    subst c2 e2
    have hn2 := r2.length
    have hsz : its.toArray.size + its2.toArray.size ≤ sizeLine := by rw [List.size_toArray, List.size_toArray]; omega
    have hlong : ¬ (!its.toArray.isEmpty && Builtin.List.listTooLong (its.toArray.size + its2.toArray.size)) = true := by
      rw [notLongL hsz, Bool.and_false]
      exact Bool.false_ne_true
    refine call_meets PySem.F.slot_list_extend ⟨_, e, rfl⟩ PySem.F.entry_list_extend (PySem.F.args_list_extend_2 _ _)
      (q_extendT l its.toArray n b its2.toArray n2 od2 sl2 hlong (by rw [List.size_toArray]; omega) (by omega)) ⟨e, g2, ?_⟩
    refine ⟨.non, _, I.lset (its' := its ++ its2) hH e (by simp) (r.append r2) ?_, rfl, q⟩
    rw [List.length_append]
    omega
theorem Reps.erase {K : PySem.W.Frag} {F : Hp} : ∀ {ds : List D} {vs : List V} (i : Nat), Reps K F ds vs → Reps K F (ds.eraseIdx i) (vs.eraseIdx i)
  | _, _, _, .nil => .nil
  | _, _, 0, .cons _ t => t
  | _, _, i + 1, .cons q t => .cons q (Reps.erase i t)
section
variable {X : Cx} {F0 : Hp} {Γ : Gm} {L : Lg} {k : D → Lg → Prop} {e o : Expr} {apos cpos : Pos}
/-- xs.extend(e) -/
theorem ek_ext (h : EvK X F0 o Γ L fun x L1 => ∃ p ds1, x = .ref p ∧ AsL L1 x ds1 ∧ EvK X F0 e Γ L1 fun y L2 => ∃ ds es j L3, Get L2 j (p, C.lst ds) ∧ AsS L2 y es ∧ Put L2 j (p, C.lst (ds ++ es)) L3 ∧ ds.length + es.length ≤ sizeLine ∧ k .non L3)
    (hbase : attributeBase o "extend" X.env (eval o X.env) = eval o X.env := by rfl)
    (hfew : ((backTo cpos (starEach [e] X.env)).all (fun x => !x.1) && (backToKw cpos (keywordEach [] X.env)).all (fun x => x.1.isSome)
      && decide (([e] : List Expr).length + ([] : List Keyword).length + (if ([] : List Keyword).isEmpty then 0 else 1) < 30)) = true := by rfl)
    (hline : (apos.endLine == cpos.line) = true := by rfl) (hs : starEach [e] X.env = (false, eval e X.env) :: starEach [] X.env := by rfl) (hplain : (backTo cpos (starEach [] X.env)).any (·.1) = false := by rfl) :
    EvK X F0 (.Call (.Attribute o "extend" apos) [e] [] cpos) Γ L k := fun F σ H Q E q =>
  wpE.of (pe_bm PySem.F.plainAttrs_list PySem.F.slot_list_extend PySem.F.type_list_extend mt_extendQ we (pa_cons we pa_nil hs) hbase hfew hline hs hplain)
    (h F σ H _ E fun x L1 F1 v H1 ⟨p, ds1, e1, a1, h1⟩ E1 s1 r1 => by
      subst e1
      obtain ⟨p', xs1, ev, hx1, _⟩ := a1.read E1.led r1
      cases r1
      refine ⟨?_, ?_⟩
      · cases ev
        exact .inl ⟨rfl, xs1, hx1⟩
      · refine h1 F1 σ H1 _ E1 fun y L2 F2 u H2 ⟨ds, es, j, L3, g, as, pt, hz, h2⟩ E2 s2 r2 => ?_
        obtain ⟨xs, hx, rx⟩ := E2.led.lst g
        obtain ⟨b, zs, rfl, hb, rz⟩ := as.read E2.led r2
        refine ⟨p, b, xs, zs, rfl, rfl, hx, hb, by rw [← rx.length, ← rz.length]; exact hz, ?_⟩
        exact q _ L3 F2 _ _ h2 (E2.to (Same.refl F2) (E2.led.put g pt ⟨_, upd_same, rx.append rz⟩)) (s1.trans s2) .non)
/-- xs.clear() -/
theorem ek_clear (h : EvK X F0 o Γ L fun x L1 => ∃ p ds j L2, x = .ref p ∧ Get L1 j (p, C.lst ds) ∧ Put L1 j (p, C.lst []) L2 ∧ k .non L2)
    (hbase : attributeBase o "clear" X.env (eval o X.env) = eval o X.env := by rfl) (hline : (apos.endLine == cpos.line) = true := by rfl) :
    EvK X F0 (.Call (.Attribute o "clear" apos) [] [] cpos) Γ L k := fun F σ H Q E q =>
  wpE.of (pe_bm0 PySem.F.plainAttrs_list PySem.F.slot_list_clear PySem.F.type_list_clear mt_clear we hbase hline)
    (h F σ H _ E fun x L1 F1 v H1 ⟨p, ds, j, L2, e1, g, pt, h1⟩ E1 s1 r1 => by
      subst e1
      obtain ⟨xs, hx, rx⟩ := E1.led.lst g
      cases r1
      exact ⟨.inl ⟨rfl, xs, .inl (.inl hx)⟩, p, xs, rfl, rfl, hx, q _ L2 F1 _ _ h1 (E1.to (Same.refl F1) (E1.led.put g pt ⟨_, upd_same, .nil⟩)) s1 .non⟩)
/-- xs.pop(i) -/
theorem ek_popAt (h : EvK X F0 o Γ L fun x L1 => ∃ p ds1, x = .ref p ∧ AsL L1 x ds1 ∧ EvK X F0 e Γ L1 fun y L2 => ∃ ds j L3 i n d, y = .int i ∧ Get L2 j (p, C.lst ds) ∧ ixN ds.length i = some n ∧ ds[n]? = some d ∧ ds.length ≤ 1000000 ∧ Put L2 j (p, C.lst (ds.eraseIdx n)) L3 ∧ k d L3)
    (hbase : attributeBase o "pop" X.env (eval o X.env) = eval o X.env := by rfl)
    (hfew : ((backTo cpos (starEach [e] X.env)).all (fun x => !x.1) && (backToKw cpos (keywordEach [] X.env)).all (fun x => x.1.isSome)
      && decide (([e] : List Expr).length + ([] : List Keyword).length + (if ([] : List Keyword).isEmpty then 0 else 1) < 30)) = true := by rfl)
    (hline : (apos.endLine == cpos.line) = true := by rfl) (hs : starEach [e] X.env = (false, eval e X.env) :: starEach [] X.env := by rfl) (hplain : (backTo cpos (starEach [] X.env)).any (·.1) = false := by rfl) :
    EvK X F0 (.Call (.Attribute o "pop" apos) [e] [] cpos) Γ L k := fun F σ H Q E q =>
  wpE.of (pe_bm PySem.F.plainAttrs_list PySem.F.slot_list_pop PySem.F.type_list_pop mt_popAt we (pa_cons we pa_nil hs) hbase hfew hline hs hplain)
    (h F σ H _ E fun x L1 F1 v H1 ⟨p, ds1, e1, a1, h1⟩ E1 s1 r1 => by
      subst e1
      obtain ⟨p', xs1, ev, hx1, _⟩ := a1.read E1.led r1
      cases r1
      refine ⟨?_, ?_⟩
      · cases ev
        exact .inl ⟨rfl, xs1, hx1⟩
      · refine h1 F1 σ H1 _ E1 fun y L2 F2 u H2 ⟨ds, j, L3, i, n, d, e2, g, hi, hd, hz, pt, h2⟩ E2 s2 r2 => ?_
        subst e2
        cases r2
        obtain ⟨xs, hx, rx⟩ := E2.led.lst g
        obtain ⟨i1, i2, i3, i4⟩ := ixN_seq hi
        obtain ⟨w, hw, rw_⟩ := rx.get hd
        rw [rx.length] at i1 i3 i4 hz
        exact ⟨p, xs, i, n, w, rfl, rfl, hx, by omega, by omega, i1, hw, q d L3 F2 _ _ h2 (E2.to (Same.refl F2) (E2.led.put g pt ⟨_, upd_same, rx.erase n⟩)) (s1.trans s2) rw_⟩)
end
end Vs

set_option Elab.async false
set_option linter.all false
set_option maxRecDepth 100000
set_option maxHeartbeats 4000000
namespace Vs
open PySem PySem.Spec PyProof.Rows L2
/-! ### fields and dicts as lists of pairs -/
/-- what stands at a key -/
def atK {κ α : Type} [DecidableEq κ] (k : κ) : List (κ × α) → Option α
  | [] => none
  | (j, x) :: r => if j = k then some x else atK k r
/-- put at a key: in its place, or at the end -/
def putA {κ α : Type} [DecidableEq κ] (k : κ) (v : α) : List (κ × α) → List (κ × α)
  | [] => [(k, v)]
  | (j, x) :: r => if j = k then (j, v) :: r else (j, x) :: putA k v r
def dropA {κ α : Type} [DecidableEq κ] (k : κ) (kvs : List (κ × α)) : List (κ × α) := kvs.filter fun kv => decide (kv.1 ≠ k)
theorem atK_put {κ α : Type} [DecidableEq κ] {k j : κ} {v : α} : ∀ {r : List (κ × α)}, atK j (putA k v r) = if k = j then some v else atK j r
  | [] => by
    show (if k = j then some v else none) = _
    rfl
  | (i, x) :: r => by
    unfold putA
    by_cases hi : i = k
    · rw [if_pos hi]
      subst hi
      show (if i = j then some v else atK j r) = if i = j then some v else if i = j then some x else atK j r
      by_cases h : i = j <;> simp [h]
    · rw [if_neg hi]
      show (if i = j then some x else atK j (putA k v r)) = if k = j then some v else if i = j then some x else atK j r
      rw [atK_put]
      by_cases h : i = j
      · subst h
        rw [if_pos rfl, if_pos rfl, if_neg (fun z => hi z.symm)]
      · rw [if_neg h, if_neg h]
section
variable {K : PySem.W.Frag} {F : Hp}
theorem RepP.lookup {f : Str} {d : D} : ∀ {fs : List (Str × D)} {ps : List (Str × V)}, RepP K F fs ps → atK f fs = some d → ∃ v, ps.lookup f = some v ∧ Rep K F d v
  | _, _, .nil, h => nomatch h
  | (g, y) :: fs, (_, u) :: ps, .cons r t, h => by
    unfold atK at h
    by_cases hg : g = f
    · rw [if_pos hg] at h
      have hb : (f == g) = true := beq_iff_eq.mpr hg.symm
      refine ⟨u, ?_, by rw [← Option.some.inj h]; exact r⟩
      rw [List.lookup_cons, hb]
    · rw [if_neg hg] at h
      obtain ⟨v, h1, h2⟩ := t.lookup h
      have hb : (f == g) = false := beq_eq_false_iff_ne.mpr fun z => hg z.symm
      refine ⟨v, ?_, h2⟩
      rw [List.lookup_cons, hb]
      exact h1
theorem RepP.none {f : Str} : ∀ {fs : List (Str × D)} {ps : List (Str × V)}, RepP K F fs ps → atK f fs = .none → ps.lookup f = .none
  | _, _, .nil, _ => rfl
  | (g, y) :: fs, (_, u) :: ps, .cons r t, h => by
    unfold atK at h
    by_cases hg : g = f
    · rw [if_pos hg] at h
      cases h
    · rw [if_neg hg] at h
      have hb : (f == g) = false := beq_eq_false_iff_ne.mpr fun z => hg z.symm
      rw [List.lookup_cons, hb]
      exact t.none h
theorem RepP.putF {f : Str} {d : D} {v : V} (rd : Rep K F d v) : ∀ {fs : List (Str × D)} {ps : List (Str × V)}, RepP K F fs ps → RepP K F (putA f d fs) (L2.putF f v ps)
  | _, _, .nil => .cons rd .nil
  | (g, y) :: fs, (_, u) :: ps, .cons r t => by
    unfold putA L2.putF
    by_cases hg : g = f
    · rw [if_pos hg, if_pos hg]
      exact .cons rd t
    · rw [if_neg hg, if_neg hg]
      exact .cons r (t.putF rd)
theorem RepP.length {κ : Type} : ∀ {fs : List (κ × D)} {ps : List (κ × V)}, RepP K F fs ps → fs.length = ps.length
  | _, _, .nil => rfl
  | _, _, .cons _ t => congrArg (· + 1) t.length
variable {κ : Type} [DecidableEq κ]
theorem RepP.val {k : κ} : ∀ {fs : List (κ × D)} {ps : List (κ × V)}, RepP K F fs ps → (∀ d, atK k fs = some d → ∃ v, valV ps k = some v ∧ Rep K F d v) ∧ (atK k fs = .none → valV ps k = .none)
  | _, _, .nil => ⟨fun _ h => (nomatch h), fun _ => rfl⟩
  | (g, y) :: fs, (_, u) :: ps, .cons r t => by
    obtain ⟨h1, h2⟩ := RepP.val (k := k) t
    by_cases hg : g = k
    · refine ⟨fun d h => ?_, fun h => ?_⟩
      · unfold atK at h
        rw [if_pos hg] at h
        exact ⟨u, valV_pos (p := (g, u)) hg, by rw [← Option.some.inj h]; exact r⟩
      · unfold atK at h
        rw [if_pos hg] at h
        cases h
    · refine ⟨fun d h => ?_, fun h => ?_⟩
      · unfold atK at h
        rw [if_neg hg] at h
        obtain ⟨v, h3, h4⟩ := h1 d h
        exact ⟨v, (valV_neg (p := (g, u)) hg).trans h3, h4⟩
      · unfold atK at h
        rw [if_neg hg] at h
        exact (valV_neg (p := (g, u)) hg).trans (h2 h)
/-- as the dict itself does it -/
def putB (kvs : List (κ × D)) (k : κ) (v : D) : List (κ × D) := if (kvs.any fun kv => decide (kv.1 = k)) = true then kvs.map (fun kv => if kv.1 = k then (kv.1, v) else kv) else kvs ++ [(k, v)]
theorem RepP.any {k : κ} : ∀ {fs : List (κ × D)} {ps : List (κ × V)}, RepP K F fs ps → (fs.any fun kv => decide (kv.1 = k)) = (ps.any fun kv => decide (kv.1 = k))
  | _, _, .nil => rfl
  | (g, y) :: fs, (_, u) :: ps, .cons r t => by rw [List.any_cons, List.any_cons, t.any]
theorem RepP.app {fs gs : List (κ × D)} {ps qs : List (κ × V)} (h : RepP K F fs ps) (h2 : RepP K F gs qs) : RepP K F (fs ++ gs) (ps ++ qs) := by
  induction h with
  | nil => exact h2
  | cons r t ih => exact .cons r ih
theorem RepP.mapK {k : κ} {d : D} {v : V} (rd : Rep K F d v) : ∀ {fs : List (κ × D)} {ps : List (κ × V)}, RepP K F fs ps → RepP K F (fs.map fun kv => if kv.1 = k then (kv.1, d) else kv) (ps.map fun kv => if kv.1 = k then (kv.1, v) else kv)
  | _, _, .nil => .nil
  | (g, y) :: fs, (_, u) :: ps, .cons r t => by
    rw [List.map_cons, List.map_cons]
    by_cases hg : g = k
    · simp only [hg, if_true]
      exact .cons rd (RepP.mapK rd t)
    · simp only [hg, if_false]
      exact .cons r (RepP.mapK rd t)
theorem RepP.putK {k : κ} {d : D} {v : V} (rd : Rep K F d v) {fs : List (κ × D)} {ps : List (κ × V)} (h : RepP K F fs ps) : RepP K F (putB fs k d) (L2.putK ps k v) := by
  unfold putB L2.putK
  rw [h.any (k := k)]
  split
  · exact h.mapK rd
  · exact h.app (.cons rd .nil)
theorem RepP.drop {k : κ} : ∀ {fs : List (κ × D)} {ps : List (κ × V)}, RepP K F fs ps → RepP K F (dropA k fs) (dropK ps k)
  | _, _, .nil => .nil
  | (g, y) :: fs, (_, u) :: ps, .cons r t => by
    have ih := RepP.drop (k := k) t
    unfold dropA L2.dropK at ih ⊢
    rw [List.filter_cons, List.filter_cons]
    by_cases hg : g = k
    · simp only [hg, ne_eq, not_true, decide_false, Bool.false_eq_true, if_false]
      simpa using ih
    · simp only [hg, ne_eq, not_false_iff, decide_true, if_true]
      exact .cons r (by simpa using ih)
end
/-- a dict's keys are unlike -/
def Nd {κ α : Type} (kvs : List (κ × α)) : Prop := (kvs.map (·.1)).Nodup
theorem Led.new2 {K : PySem.W.Frag} {F : Hp} {L : Lg} {H : Hp} {x dx : Addr} {Cc : Addr} (e : Led K F L H) (h : H x = none) (hd : H dx = none) (ne : dx ≠ x) : Led K F ((x, .obj Cc []) :: L) (upd (upd H dx (.own x)) x (.ins Cc dx [])) := by
  have nx := e.nofr h
  have nd := e.nofr hd
  refine ⟨fun b u z => ?_, ?_, fun p hp => ?_⟩
  · have n1 : b ≠ x := ne_of_none (e.sub b u z) h
    have n2 : b ≠ dx := ne_of_none (e.sub b u z) hd
    rw [upd_ne n1, upd_ne n2]
    exact e.sub b u z
  · rw [List.map_cons]
    refine List.nodup_cons.mpr ⟨fun z => ?_, e.nod⟩
    obtain ⟨p, hp, z⟩ := List.mem_map.mp z
    exact nx p hp z
  · rcases List.mem_cons.mp hp with rfl | hp
    · exact ⟨e.free h, dx, [], upd_same, .nil⟩
    · obtain ⟨h1, h2⟩ := e.ent p hp
      exact ⟨h1, h2.mono (Same.refl F) ((upd_ne (nx p hp)).trans (upd_ne (nd p hp)))⟩
/-! calls that may raise, at the slots -/
section
variable {X : Cx} {k : Nat} {f Cl : Addr} {fd : FuncData} {ps : List Str} {sp : Sp} {E : L2.St → XK} {x m : Str} {p pos apos : Pos} {e o : Expr} {es : List Expr} {ta : TE} {t : TA}
def tMethS (Cl : Addr) (m : Str) (sp : Sp) (E : L2.St → XK) (ta : TE) (t : TA) : TE := fun σ H Q => ta σ H fun x H1 => ∃ a dx fs, x = .ref a ∧ H1 a = some (.ins Cl dx fs) ∧ fs.lookup m = none ∧ t σ H1 fun vs H2 => sp (x :: vs) H2 Q (E σ)
def tMakeS (Cl : Addr) (sp : Sp) (E : L2.St → XK) (t : TA) : TE := fun σ H Q => t σ H fun vs H1 => ∀ x dx, H1 x = none → H1 dx = none → dx ≠ x → sp (.ref x :: vs) (upd (upd H1 dx (.own x)) x (.ins Cl dx [])) (fun v H2 => v = .non ∧ Q (.ref x) H2) (E σ)
theorem pe_methS {pl : Sem Bool} (he : PE X o ta) (c : Cls X.K Cl) (hm : Meth X.K Cl m f) (F : FnOk X.prog X.w X.K X.mg X.base (L2.CX X.prog X.w) k f fd ps sp) (hr : Room k X.A) (hb : Binds X.K fd ps []) (hx : ∀ σ, PassesAt (L2.CX X.prog X.w) X σ (E σ)) (ha : PA X (e :: es) t)
    (hst : starEach (e :: es) X.env = (false, eval e X.env) :: starEach es X.env := by rfl) (hpl : (backTo pos (starEach es X.env)).any (·.1) = false := by rfl)
    (ht : eval (.Call (.Attribute o m apos) (e :: es) [] pos) X.env = (do
      let ov ← eval o X.env
      standAt apos.atName
      let (f, first) ← holding [ov] (getMethod ov m pl)
      callWith pos f first (backTo pos (starEach (e :: es) X.env)) (backToKw pos (keywordEach [] X.env))) := by rfl) :
    PE X (.Call (.Attribute o m apos) (e :: es) [] pos) (tMethS Cl m sp E ta t) := by
  refine ⟨fun pins s σ H Q I h => ?_⟩
  refine PySem.W.methodCall_KW (pl := pl) (thn (he.run pins s σ H _ I h) fun u s1 ⟨x, H1, I1, rx, a, dx, fs, ex, ea, l, q⟩ => ?_) ht
  subst ex
  obtain rfl : u = Value.ref a := rx
  refine getmeth_ok I1 ea c hm l ?_
  refine PySem.W.callWith_K (first := [.ref a]) (h₀ := X.base) I.ok.mod.kin hm.kp (thn (ha.run pos pins s1 σ H1 _ I1 q) fun us s2 ⟨vs, H2, I2, r, q2⟩ => ⟨I2.kIn, ?_⟩) hst hpl
  exact run_fnS (us := .ref a :: us) (vs := .ref a :: vs) F hr hb (hx σ) I2 (.cons rfl r) q2
theorem pe_meth0S {pl : Sem Bool} (he : PE X o ta) (c : Cls X.K Cl) (hm : Meth X.K Cl m f) (F : FnOk X.prog X.w X.K X.mg X.base (L2.CX X.prog X.w) k f fd ps sp) (hr : Room k X.A) (hb : Binds X.K fd ps []) (hx : ∀ σ, PassesAt (L2.CX X.prog X.w) X σ (E σ))
    (ht : eval (.Call (.Attribute o m apos) [] [] pos) X.env = (do
      let ov ← eval o X.env
      standAt apos.atName
      let (f, first) ← holding [ov] (getMethod ov m pl)
      callWith pos f first (backTo pos (starEach [] X.env)) (backToKw pos (keywordEach [] X.env))) := by rfl) :
    PE X (.Call (.Attribute o m apos) [] [] pos) (tMethS Cl m sp E ta tNil) := by
  refine ⟨fun pins s σ H Q I h => ?_⟩
  refine PySem.W.methodCall_KW (pl := pl) (thn (he.run pins s σ H _ I h) fun u s1 ⟨x, H1, I1, rx, a, dx, fs, ex, ea, l, q⟩ => ?_) ht
  subst ex
  obtain rfl : u = Value.ref a := rx
  refine getmeth_ok I1 ea c hm l ?_
  exact PySem.W.callWith_K0 (first := [.ref a]) I1.kIn hm.kp (run_fnS (us := [.ref a]) (vs := [.ref a]) F hr hb (hx σ) I1 (.cons rfl .nil) q)
theorem run_makeS {pins : List (Addr × Obj)} {σ : L2.St} {H : Hp} {s : Shared} {Q : VK} {us : List Value} {vs : List V} (M : L2.Mk X.K Cl f) (F : FnOk X.prog X.w X.K X.mg X.base (L2.CX X.prog X.w) k f fd ps sp) (hr : Room (k + 1) X.A) (hb : Binds X.K fd ps [])
    (hx : PassesAt (L2.CX X.prog X.w) X σ (E σ)) (I : Inv X pins σ H s) (r : Vals vs us)
    (h : ∀ x dx, H x = none → H dx = none → dx ≠ x → sp (.ref x :: vs) (upd (upd H dx (.own x)) x (.ins Cl dx [])) (fun v H2 => v = .non ∧ Q (.ref x) H2) (E σ)) :
    wpAny (model X.prog X.w) X.A (call (.ref Cl) us) (EP X pins σ Q) X.xe s := by
  have hq := h (s.heap.objs.size + 1) s.heap.objs.size (I.hok.fresh (Nat.le_succ _)) (I.hok.fresh (Nat.le_refl _)) (Nat.ne_of_lt (Nat.lt_succ_self _))
  have I2 := Inv.made (C := Cl) I
  have r2 : Vals (V.ref (s.heap.objs.size + 1) :: vs) (Value.ref (s.heap.objs.size + 1) :: us) := .cons rfl r
  have hl : (Value.ref (s.heap.objs.size + 1) :: us).length = ps.length := by
    have e := r2.length
    rw [F.len _ _ _ _ hq] at e
    exact e.symm
  have b := hb _ (Value.ref (s.heap.objs.size + 1) :: us) I2.kIn (by rw [List.append_nil]; exact hl)
  rw [List.append_nil] at b
  refine wpAny_call (make_map (f := f) I.kIn M.makes M.init (beq_iff_eq.mp M.fn) (codeAny_mono (F.run _ X.stack _ _ ⟨Value.ref (s.heap.objs.size + 1) :: us, []⟩ (Value.ref (s.heap.objs.size + 1) :: us) _ _ (E σ) (hr.make Cl us [])
    (I2.env0.make Cl us []) b r2 hq) fun r s' hq' => ?_))
  cases r with
  | error e => exact hx pins _ _ e s' I2 hq'
  | ok fl =>
    cases fl with
    | ret u =>
      obtain ⟨v, H', I3, rv, ev, q3⟩ := I2.after hq'
      subst ev
      exact ⟨rv, ⟨V.ref (s.heap.objs.size + 1), H', I3, rfl, q3⟩⟩
    | next => exact False.elim hq'
    | brk => exact False.elim hq'
    | cont => exact False.elim hq'
theorem pe_makeS (M : L2.Mk X.K Cl f) (F : FnOk X.prog X.w X.K X.mg X.base (L2.CX X.prog X.w) k f fd ps sp) (hr : Room (k + 1) X.A) (hg : Gl X x) (hm : X.mg x = some (.ref Cl)) (hb : Binds X.K fd ps []) (hx : ∀ σ, PassesAt (L2.CX X.prog X.w) X σ (E σ))
    (ha : PA X (e :: es) t) (hdb : (x == ("__debug__" : Str)) = false := by decide) (he : starEach (e :: es) X.env = (false, eval e X.env) :: starEach es X.env := by rfl) (hpl : (backTo pos (starEach es X.env)).any (·.1) = false := by rfl) :
    PE X (.Call (.Name x p) (e :: es) [] pos) (tMakeS Cl sp E t) := by
  refine ⟨fun pins s σ H Q I h => ?_⟩
  refine wpAny_Call_Name_kw (ld_glob I hg hm ?_ hdb)
  refine PySem.W.callWith_K (h₀ := X.base) I.ok.mod.kin M.kp (thn (ha.run pos pins s σ H _ I h) fun us s1 ⟨vs, H1, I1, r, q⟩ => ⟨I1.kIn, ?_⟩) he hpl
  exact run_makeS M F hr hb (hx σ) I1 r q
theorem pe_make0S (M : L2.Mk X.K Cl f) (F : FnOk X.prog X.w X.K X.mg X.base (L2.CX X.prog X.w) k f fd ps sp) (hr : Room (k + 1) X.A) (hg : Gl X x) (hm : X.mg x = some (.ref Cl)) (hb : Binds X.K fd ps []) (hx : ∀ σ, PassesAt (L2.CX X.prog X.w) X σ (E σ))
    (hdb : (x == ("__debug__" : Str)) = false := by decide) : PE X (.Call (.Name x p) [] [] pos) (tMakeS Cl sp E tNil) := by
  refine ⟨fun pins s σ H Q I h => ?_⟩
  refine wpAny_Call_Name_kw (ld_glob I hg hm ?_ hdb)
  exact PySem.W.callWith_K0 I.kIn M.kp (run_makeS (us := []) M F hr hb (hx σ) I .nil h)
end
/-- a method of the class at Cl -/
structure Met (P : Program) (w : World) (K : PySem.W.Frag) (mg : Str → Option Value) (base : Heap) (n : Nat) (Cl : Addr) (m : Str) (ps : List Str) (S : SpD) : Prop where
  cl : Cls K Cl
  ex : ∃ f fd, Meth K Cl m f ∧ Binds K fd ps [] ∧ FnOk P w K mg base (L2.CX P w) n f fd ps (spOf K S)
abbrev MetX (X : Cx) (n : Nat) (Cl : Addr) (m : Str) (ps : List Str) (S : SpD) : Prop := Met X.prog X.w X.K X.mg X.base n Cl m ps S
/-- the class x can be made by its __init__ -/
structure Mkr (P : Program) (w : World) (K : PySem.W.Frag) (mg : Str → Option Value) (base : Heap) (n : Nat) (x : Str) (Cl : Addr) (ps : List Str) (S : SpD) : Prop where
  gm : mg x = some (.ref Cl)
  ex : ∃ f fd, L2.Mk K Cl f ∧ Binds K fd ps [] ∧ FnOk P w K mg base (L2.CX P w) n f fd ps (spOf K S)
abbrev MkX (X : Cx) (n : Nat) (x : Str) (Cl : Addr) (ps : List Str) (S : SpD) : Prop := Mkr X.prog X.w X.K X.mg X.base n x Cl ps S
theorem Met.imp {P : Program} {w : World} {K : PySem.W.Frag} {mg : Str → Option Value} {base : Heap} {n : Nat} {Cl : Addr} {m : Str} {ps : List Str} {S S' : SpD} (G : Met P w K mg base n Cl m ps S) (h : ∀ ds L q e, S' ds L q e → S ds L q e) : Met P w K mg base n Cl m ps S' := by
  obtain ⟨f, fd, h1, h3, F⟩ := G.ex
  exact ⟨G.cl, f, fd, h1, h3, F.imp fun vs H Q E ⟨F, ds, L, q, e, l, r, s, k1, k2⟩ => ⟨F, ds, L, q, e, l, r, h ds L q e s, k1, k2⟩⟩
theorem Mkr.imp {P : Program} {w : World} {K : PySem.W.Frag} {mg : Str → Option Value} {base : Heap} {n : Nat} {x : Str} {Cl : Addr} {ps : List Str} {S S' : SpD} (G : Mkr P w K mg base n x Cl ps S) (h : ∀ ds L q e, S' ds L q e → S ds L q e) : Mkr P w K mg base n x Cl ps S' := by
  obtain ⟨f, fd, h1, h3, F⟩ := G.ex
  exact ⟨G.gm, f, fd, h1, h3, F.imp fun vs H Q E ⟨F, ds, L, q, e, l, r, s, k1, k2⟩ => ⟨F, ds, L, q, e, l, r, h ds L q e s, k1, k2⟩⟩
section
variable {X : Cx} {F0 : Hp} {Γ : Gm} {L : Lg} {k : D → Lg → Prop} {ka : List D → Lg → Prop} {kt : Bool → Lg → Prop} {e a b c o i : Expr} {es rest : List Expr} {pos p2 apos cpos p' : Pos} {N Nc : List Str} {sc : Scope} {Z : Xc → Gm → Lg → Prop}
/-- o.f -/
theorem ek_fld {f : Str} {Cl : Addr} (cl : Cls X.K Cl) (na : NoAttr X.K Cl f) (h : EvK X F0 o Γ L fun x L1 => ∃ p fs j d, x = .ref p ∧ Get L1 j (p, C.obj Cl fs) ∧ atK f fs = some d ∧ k d L1)
    (hb : attributeBase o f X.env (eval o X.env) = eval o X.env := by rfl) : EvK X F0 (.Attribute o f pos) Γ L k := fun F σ H Q E q =>
  wpE.of (pe_fld we hb) (h F σ H _ E fun x L1 F1 v H1 ⟨p, fs, j, d, e1, g, hl, h1⟩ E1 s1 r1 => by
    subst e1
    cases r1
    obtain ⟨_, dx, ps, h2, h3⟩ := E1.led.ent _ g.mem
    obtain ⟨u, h4, h5⟩ := h3.lookup hl
    exact ⟨p, Cl, dx, ps, u, rfl, h2, cl, na, h4, q d L1 F1 u H1 h1 E1 s1 h5⟩)
/-- o.f = e -/
theorem sk_fld {f : Str} {Cl : Addr} {ks : Ks} (cl : Cls X.K Cl) (na : NoAttr X.K Cl f) (h : EvK X F0 e Γ L fun y L1 => EvK X F0 o Γ L1 fun x L2 => ∃ p fs j L3, x = .ref p ∧ Get L2 j (p, C.obj Cl fs) ∧ fs.length < 1000 ∧ Put L2 j (p, C.obj Cl (putA f y fs)) L3 ∧ ks.nx Γ L3)
    (hs : swapsWith e (some (.Attribute o f p')) pos.line X.env = pure false := by rfl) : SK X F0 (.Assign [.Attribute o f p'] e pos) Γ L ks := fun F σ H Dn E q =>
  wpS.of (ps_fld we we hs) (h F σ H _ E fun y L1 F1 v H1 h1 E1 s1 r1 => h1 F1 σ H1 _ E1 fun x L2 F2 u H2 ⟨p, fs, j, L3, e1, g, hz, pt, h2⟩ E2 s2 r2 => by
    subst e1
    cases r2
    obtain ⟨_, dx, ps, h3, h4⟩ := E2.led.ent _ g.mem
    exact ⟨p, Cl, dx, ps, rfl, h3, cl, na, by rw [← h4.length]; exact hz, q.nx Γ L3 F2 σ _ h2 (E2.to (Same.refl F2) (E2.led.put g pt ⟨dx, _, upd_same, h4.putF (r1.mono s2)⟩))⟩)
/-- o.m(e, ..) -/
theorem ek_meth {m : Str} {Cl : Addr} {n : Nat} {ps : List Str} {S : SpD} {pl : Sem Bool} (tk : Takes X (ZW X.K F0 Z)) (G : MetX X n Cl m ps S) (hr : Room n X.A)
    (h : EvK X F0 o Γ L fun x L1 => ∃ p fs j, x = .ref p ∧ Get L1 j (p, C.obj Cl fs) ∧ atK m fs = none ∧ EaK X F0 (e :: es) Γ L1 fun ds L2 => S (.ref p :: ds) L2 k fun x L3 => Z x Γ L3)
    (hst : starEach (e :: es) X.env = (false, eval e X.env) :: starEach es X.env := by rfl) (hpl : (backTo pos (starEach es X.env)).any (·.1) = false := by rfl)
    (ht : eval (.Call (.Attribute o m apos) (e :: es) [] pos) X.env = (do
      let ov ← eval o X.env
      standAt apos.atName
      let (f, first) ← holding [ov] (getMethod ov m pl)
      callWith pos f first (backTo pos (starEach (e :: es) X.env)) (backToKw pos (keywordEach [] X.env))) := by rfl) :
    EvK X F0 (.Call (.Attribute o m apos) (e :: es) [] pos) Γ L k := fun F σ H Q E q => by
  obtain ⟨f, fd, hm, hb, G2⟩ := G.ex
  refine wpE.of (pe_methS (pl := pl) (E := L2.WE (ZW X.K F0 Z)) we G.cl hm G2 hr hb (fun σ => passAt tk σ) wa hst hpl ht) ?_
  refine h F σ H _ E fun x L1 F1 v H1 ⟨p, fs, j, e1, g, ha, h1⟩ E1 s1 r1 => ?_
  subst e1
  cases r1
  obtain ⟨_, dx, qs, h3, h4⟩ := E1.led.ent _ g.mem
  refine ⟨p, dx, qs, rfl, h3, h4.none ha, h1 F1 σ H1 _ E1 fun ds L2 F2 vs H2 h2 E2 s2 r2 => ?_⟩
  exact ⟨F2, .ref p :: ds, L2, k, fun x L3 => Z x Γ L3, E2.led, .cons .ref r2, h2, fun r L' F' v H' hq s3 l3 r3 => q r L' F' v H' hq ⟨E2.ge.trans s3, l3, E2.sl.mono s3⟩ (s1.trans (s2.trans s3)) r3,
    fun x L' F' od H' he s3 l3 x3 => ⟨x, Γ, L', F', rfl, he, ⟨E2.ge.trans s3, l3, E2.sl.mono s3⟩, x3⟩⟩
theorem ek_meth0 {m : Str} {Cl : Addr} {n : Nat} {ps : List Str} {S : SpD} {pl : Sem Bool} (tk : Takes X (ZW X.K F0 Z)) (G : MetX X n Cl m ps S) (hr : Room n X.A)
    (h : EvK X F0 o Γ L fun x L1 => ∃ p fs j, x = .ref p ∧ Get L1 j (p, C.obj Cl fs) ∧ atK m fs = none ∧ S [.ref p] L1 k fun x L3 => Z x Γ L3)
    (ht : eval (.Call (.Attribute o m apos) [] [] pos) X.env = (do
      let ov ← eval o X.env
      standAt apos.atName
      let (f, first) ← holding [ov] (getMethod ov m pl)
      callWith pos f first (backTo pos (starEach [] X.env)) (backToKw pos (keywordEach [] X.env))) := by rfl) :
    EvK X F0 (.Call (.Attribute o m apos) [] [] pos) Γ L k := fun F σ H Q E q => by
  obtain ⟨f, fd, hm, hb, G2⟩ := G.ex
  refine wpE.of (pe_meth0S (pl := pl) (E := L2.WE (ZW X.K F0 Z)) we G.cl hm G2 hr hb (fun σ => passAt tk σ) ht) ?_
  refine h F σ H _ E fun x L1 F1 v H1 ⟨p, fs, j, e1, g, ha, h1⟩ E1 s1 r1 => ?_
  subst e1
  cases r1
  obtain ⟨_, dx, qs, h3, h4⟩ := E1.led.ent _ g.mem
  refine ⟨p, dx, qs, rfl, h3, h4.none ha, ?_⟩
  exact ⟨F1, [.ref p], L1, k, fun x L3 => Z x Γ L3, E1.led, .cons .ref .nil, h1, fun r L' F' v H' hq s3 l3 r3 => q r L' F' v H' hq ⟨E1.ge.trans s3, l3, E1.sl.mono s3⟩ (s1.trans s3) r3,
    fun x L' F' od H' he s3 l3 x3 => ⟨x, Γ, L', F', rfl, he, ⟨E1.ge.trans s3, l3, E1.sl.mono s3⟩, x3⟩⟩
/-- C(e, ..) -/
theorem ek_make {x : Str} {Cl : Addr} {n : Nat} {ps : List Str} {S : SpD} {p : Pos} (tk : Takes X (ZW X.K F0 Z)) (G : MkX X n x Cl ps S) (hr : Room (n + 1) X.A) (h : EaK X F0 (e :: es) Γ L fun ds L1 => ∀ p, S (.ref p :: ds) ((p, .obj Cl []) :: L1) (fun d L2 => d = .non ∧ k (.ref p) L2) fun x L2 => Z x Γ L2) (hg : Gl X x)
    (hdb : (x == ("__debug__" : Str)) = false := by decide) (he : starEach (e :: es) X.env = (false, eval e X.env) :: starEach es X.env := by rfl) (hpl : (backTo pos (starEach es X.env)).any (·.1) = false := by rfl) :
    EvK X F0 (.Call (.Name x p) (e :: es) [] pos) Γ L k := fun F σ H Q E q => by
  obtain ⟨f, fd, hm, hb, G2⟩ := G.ex
  refine wpE.of (pe_makeS (E := L2.WE (ZW X.K F0 Z)) hm G2 hr hg G.gm hb (fun σ => passAt tk σ) wa hdb he hpl) ?_
  refine h F σ H _ E fun ds L1 F1 vs H1 h1 E1 s1 r1 x dx hx hdx ne => ?_
  have l := E1.led.new2 (Cc := Cl) hx hdx ne
  exact ⟨F1, .ref x :: ds, (x, .obj Cl []) :: L1, _, fun y L2 => Z y Γ L2, l, .cons .ref r1, h1 x, fun r L' F' v H' ⟨hn, hq⟩ s3 l3 r3 => by
      subst hn
      cases r3
      exact ⟨rfl, q _ L' F' _ H' hq ⟨E1.ge.trans s3, l3, E1.sl.mono s3⟩ (s1.trans s3) .ref⟩,
    fun y L' F' od H' he s3 l3 x3 => ⟨y, Γ, L', F', rfl, he, ⟨E1.ge.trans s3, l3, E1.sl.mono s3⟩, x3⟩⟩
theorem ek_make0 {x : Str} {Cl : Addr} {n : Nat} {ps : List Str} {S : SpD} {p : Pos} (tk : Takes X (ZW X.K F0 Z)) (G : MkX X n x Cl ps S) (hr : Room (n + 1) X.A) (h : ∀ p, S [.ref p] ((p, .obj Cl []) :: L) (fun d L2 => d = .non ∧ k (.ref p) L2) fun x L2 => Z x Γ L2) (hg : Gl X x)
    (hdb : (x == ("__debug__" : Str)) = false := by decide) : EvK X F0 (.Call (.Name x p) [] [] pos) Γ L k := fun F σ H Q E q => by
  obtain ⟨f, fd, hm, hb, G2⟩ := G.ex
  refine wpE.of (pe_make0S (E := L2.WE (ZW X.K F0 Z)) hm G2 hr hg G.gm hb (fun σ => passAt tk σ) hdb) ?_
  intro x dx hx hdx ne
  have l := E.led.new2 (Cc := Cl) hx hdx ne
  exact ⟨F, [.ref x], (x, .obj Cl []) :: L, _, fun y L2 => Z y Γ L2, l, .cons .ref .nil, h x, fun r L' F' v H' ⟨hn, hq⟩ s3 l3 r3 => by
      subst hn
      cases r3
      exact ⟨rfl, q _ L' F' _ H' hq ⟨E.ge.trans s3, l3, E.sl.mono s3⟩ s3 .ref⟩,
    fun y L' F' od H' he s3 l3 x3 => ⟨y, Γ, L', F', rfl, he, ⟨E.ge.trans s3, l3, E.sl.mono s3⟩, x3⟩⟩
end
end Vs

set_option Elab.async false
set_option linter.all false
set_option maxRecDepth 100000
set_option maxHeartbeats 4000000
namespace Vs
open PySem PySem.Spec PyProof.Rows L2
/-! ### dicts -/
def kD : Key → D
  | .inl i => .int i
  | .inr x => .str x
theorem kD_v {K : PySem.W.Frag} {F : Hp} {k : Key} {v : V} (r : Rep K F (kD k) v) : v = kV k := by
  cases k <;> cases r <;> rfl
theorem kD_rep {K : PySem.W.Frag} {F : Hp} {k : Key} : Rep K F (kD k) (kV k) := by
  cases k
  · exact .int
  · exact .str
theorem atK_putB {κ : Type} [DecidableEq κ] {kvs : List (κ × D)} {k j : κ} {v : D} : atK j (putB kvs k v) = if k = j then some v else atK j kvs := by
  unfold putB
  have hm : ∀ l : List (κ × D), atK j (l.map fun kv => if kv.1 = k then (kv.1, v) else kv) = if k = j then (if (l.any fun kv => decide (kv.1 = k)) = true then some v else none) else atK j l := fun l => by
    induction l with
    | nil => by_cases h : k = j <;> simp [atK, h]
    | cons p l ih =>
      obtain ⟨g, y⟩ := p
      rw [List.map_cons, List.any_cons]
      by_cases hg : g = k
      · subst hg
        simp only [if_true, decide_true, Bool.true_or]
        show (if g = j then some v else _) = _
        by_cases h : g = j
        · rw [if_pos h, if_pos h]
        · rw [if_neg h, if_neg h, ih, if_neg h]
          show _ = (if g = j then some y else atK j l)
          rw [if_neg h]
      · simp only [if_neg hg, decide_eq_false hg, Bool.false_or]
        show (if g = j then some y else _) = _
        by_cases h : k = j
        · rw [if_pos h, if_neg (fun z => hg (z.trans h.symm)), ih, if_pos h]
        · rw [if_neg h]
          show _ = (if g = j then some y else atK j l)
          by_cases h2 : g = j
          · rw [if_pos h2, if_pos h2]
          · rw [if_neg h2, if_neg h2, ih, if_neg h]
  have ha : ∀ l : List (κ × D), (l.any fun kv => decide (kv.1 = k)) = false → atK j (l ++ [(k, v)]) = if k = j then some v else atK j l := fun l => by
    induction l with
    | nil => intro _; rfl
    | cons p l ih =>
      obtain ⟨g, y⟩ := p
      intro h
      rw [List.any_cons, Bool.or_eq_false_iff] at h
      have hg : ¬ g = k := of_decide_eq_false h.1
      show (if g = j then some y else atK j (l ++ [(k, v)])) = if k = j then some v else if g = j then some y else atK j l
      rw [ih h.2]
      by_cases h1 : g = j
      · rw [if_pos h1, if_pos h1, if_neg (fun z => hg (h1.trans z.symm))]
      · rw [if_neg h1, if_neg h1]
  split
  · rename_i h
    rw [hm, if_pos h]
  · rename_i h
    exact ha kvs (by simpa only [Bool.not_eq_true] using h)
theorem putB_len {κ : Type} [DecidableEq κ] {kvs : List (κ × D)} {k : κ} {v : D} : (putB kvs k v).length ≤ kvs.length + 1 := by
  unfold putB
  split
  · rw [List.length_map]; omega
  · rw [List.length_append]; exact Nat.le_refl _
theorem putB_new {κ : Type} [DecidableEq κ] {kvs : List (κ × D)} {k : κ} {v : D} (h : atK k kvs = none) : putB kvs k v = kvs ++ [(k, v)] := by
  unfold putB
  rw [if_neg]
  intro z
  induction kvs with
  | nil => cases z
  | cons p l ih =>
    obtain ⟨g, y⟩ := p
    unfold atK at h
    by_cases hg : g = k
    · rw [if_pos hg] at h; cases h
    · rw [if_neg hg] at h
      rw [List.any_cons, decide_eq_false hg, Bool.false_or] at z
      exact ih h z
/-- a dict that is read: of the ledger, or locked while it is walked -/
inductive AsD (F1 : Hp) (K : PySem.W.Frag) (L : Lg) : D → List (Key × D) → Prop
  | own {p : Addr} {kvs : List (Key × D)} {j : Nat} : Get L j (p, C.dic kvs) → AsD F1 K L (.ref p) kvs
  | lok {p : Addr} {kvs : List (Key × D)} {od : Obj} {ps : List (Key × V)} : F1 p = some (.frz od (.dK ps)) → RepP K F1 kvs ps → AsD F1 K L (.ref p) kvs
theorem AsD.read {K : PySem.W.Frag} {F1 F H : Hp} {L : Lg} {x : D} {v : V} {kvs : List (Key × D)} (a : AsD F1 K L x kvs) (s : Same F1 F) (l : Led K F L H) (r : Rep K F x v) : ∃ p ps, v = .ref p ∧ Rd H p (.dK ps) ∧ RepP K F kvs ps := by
  cases a with
  | own g =>
    cases r
    obtain ⟨_, ps, h1, h2⟩ := l.ent _ g.mem
    exact ⟨_, ps, rfl, .inl h1, h2⟩
  | lok h1 h2 =>
    cases r
    exact ⟨_, _, rfl, .inr ⟨_, l.sub _ _ (s _ _ h1)⟩, h2.mono s⟩
theorem AsD.app {F1 : Hp} {K : PySem.W.Frag} {L M : Lg} {x : D} {kvs : List (Key × D)} (a : AsD F1 K L x kvs) : AsD F1 K (L ++ M) x kvs := by
  cases a with
  | own g => exact .own g.app
  | lok h1 h2 => exact .lok h1 h2
theorem AsD.up {F0 F1 : Hp} {K : PySem.W.Frag} {L : Lg} {x : D} {kvs : List (Key × D)} (a : AsD F0 K L x kvs) (s : Same F0 F1) : AsD F1 K L x kvs := by
  cases a with
  | own g => exact .own g
  | lok h1 h2 => exact .lok (s _ _ h1) (h2.mono s)
theorem rd_get {K : PySem.W.Frag} {F H : Hp} {p : Addr} {kvs : List (Key × D)} {ps : List (Key × V)} {k : Key} (r : Rd H p (.dK ps)) (rp : RepP K F kvs ps) : ∃ o, DGet H p (kV k) o ∧ (∀ d, atK k kvs = some d → ∃ v, o = some v ∧ Rep K F d v) ∧ o.isSome = (atK k kvs).isSome := by
  obtain ⟨h1, h2⟩ := rp.val (k := k)
  refine ⟨valV ps k, .inl ⟨ps, k, r, rfl, rfl⟩, fun d hd => h1 d hd, ?_⟩
  cases e : atK k kvs with
  | none => rw [h2 e]; rfl
  | some d =>
    obtain ⟨v, hv, _⟩ := h1 d e
    rw [hv]
    rfl
section
variable {X : Cx} {F0 : Hp} {Γ : Gm} {L : Lg} {k : D → Lg → Prop} {ka : List D → Lg → Prop} {kt : Bool → Lg → Prop} {e a b c o i f : Expr} {es rest : List Expr} {pos p2 apos cpos p' : Pos} {N Nc : List Str} {sc : Scope} {Z : Xc → Gm → Lg → Prop}
theorem ek_dnew (h : ∀ p, k (.ref p) ((p, .dic []) :: L)) : EvK X F0 (.Dict [] [] pos) Γ L k := fun F σ H Q E q =>
  wpE.of pe_dnewK fun p hp => q _ _ F _ _ (h p) (E.to (Same.refl F) ⟨E.led.sub.trans (same_new hp), by
    rw [List.map_cons]
    refine List.nodup_cons.mpr ⟨fun z => ?_, E.led.nod⟩
    obtain ⟨q, hq, z⟩ := List.mem_map.mp z
    exact E.led.nofr hp q hq z, fun q hq => by
    rcases List.mem_cons.mp hq with rfl | hq
    · exact ⟨E.led.free hp, [], upd_same, .nil⟩
    · obtain ⟨h1, h2⟩ := E.led.ent q hq
      exact ⟨h1, h2.mono (Same.refl F) (upd_ne (E.led.nofr hp q hq))⟩⟩) (Same.refl F) .ref
/-- d[i] -/
theorem ek_dget (hu : X.A.units + 64 < cLine) (h : EvK X F0 o Γ L fun x L1 => EvK X F0 i Γ L1 fun y L2 => ∃ kvs key d, AsD F0 X.K L2 x kvs ∧ y = kD key ∧ atK key kvs = some d ∧ k d L2) (hs : NoSl i := by intro _ _; rfl) : EvK X F0 (.Subscript o i pos) Γ L k := fun F σ H Q E q =>
  wpE.of (pe_dget (by omega) we we hs) (h F σ H _ E fun x L1 F1 v H1 h1 E1 s1 r1 => h1 F1 σ H1 _ E1 fun y L2 F2 u H2 ⟨kvs, key, d, as, e1, hd, h2⟩ E2 s2 r2 => by
    subst e1
    have e2 := kD_v r2
    subst e2
    obtain ⟨p, ps, rfl, rd, rp⟩ := as.read E2.ge E2.led (r1.mono s2)
    obtain ⟨o, g, h3, _⟩ := rd_get (k := key) rd rp
    obtain ⟨v, rfl, rv⟩ := h3 d hd
    exact ⟨p, v, rfl, g, q d L2 F2 v H2 h2 E2 (s1.trans s2) rv⟩)
theorem ek_din (hu : X.A.units + 64 < cLine) (h : EvK X F0 i Γ L fun y L1 => EvK X F0 o Γ L1 fun x L2 => ∃ kvs key, AsD F0 X.K L2 x kvs ∧ y = kD key ∧ k (.bl (atK key kvs).isSome) L2) (hm : behindInMarks .In o = false := by rfl) : EvK X F0 (.Compare i [.In] [o] pos) Γ L k := fun F σ H Q E q =>
  wpE.of (pe_cmp (pc_din (by omega) we we) hm) (h F σ H _ E fun y L1 F1 v H1 h1 E1 s1 r1 => h1 F1 σ H1 _ E1 fun x L2 F2 u H2 ⟨kvs, key, as, e1, h2⟩ E2 s2 r2 => by
    subst e1
    have e2 := kD_v r1
    subst e2
    obtain ⟨p, ps, rfl, rd, rp⟩ := as.read E2.ge E2.led r2
    obtain ⟨o, g, _, h3⟩ := rd_get (k := key) rd rp
    refine ⟨p, o, rfl, g, ?_⟩
    rw [h3]
    exact q _ L2 F2 _ H2 h2 E2 (s1.trans s2) .bl)
theorem ek_dnotin (hu : X.A.units + 64 < cLine) (h : EvK X F0 i Γ L fun y L1 => EvK X F0 o Γ L1 fun x L2 => ∃ kvs key, AsD F0 X.K L2 x kvs ∧ y = kD key ∧ k (.bl (!(atK key kvs).isSome)) L2) (hm : behindInMarks .NotIn o = false := by rfl) : EvK X F0 (.Compare i [.NotIn] [o] pos) Γ L k := fun F σ H Q E q =>
  wpE.of (pe_cmp (pc_dnotin (by omega) we we) hm) (h F σ H _ E fun y L1 F1 v H1 h1 E1 s1 r1 => h1 F1 σ H1 _ E1 fun x L2 F2 u H2 ⟨kvs, key, as, e1, h2⟩ E2 s2 r2 => by
    subst e1
    have e2 := kD_v r1
    subst e2
    obtain ⟨p, ps, rfl, rd, rp⟩ := as.read E2.ge E2.led r2
    obtain ⟨o, g, _, h3⟩ := rd_get (k := key) rd rp
    refine ⟨p, o, rfl, g, ?_⟩
    rw [h3]
    exact q _ L2 F2 _ H2 h2 E2 (s1.trans s2) .bl)
theorem et_din (hu : X.A.units + 64 < cLine) (h : EvK X F0 i Γ L fun y L1 => EvK X F0 o Γ L1 fun x L2 => ∃ kvs key, AsD F0 X.K L2 x kvs ∧ y = kD key ∧ kt (atK key kvs).isSome L2) (hm : behindInMarks .In o = false := by rfl) : EtK X F0 (.Compare i [.In] [o] pos) Γ L kt := fun F σ H Q E q =>
  wpT.of (pt_cmp (pc_din (by omega) we we) hm) (h F σ H _ E fun y L1 F1 v H1 h1 E1 s1 r1 => h1 F1 σ H1 _ E1 fun x L2 F2 u H2 ⟨kvs, key, as, e1, h2⟩ E2 s2 r2 => by
    subst e1
    have e2 := kD_v r1
    subst e2
    obtain ⟨p, ps, rfl, rd, rp⟩ := as.read E2.ge E2.led r2
    obtain ⟨o, g, _, h3⟩ := rd_get (k := key) rd rp
    refine ⟨p, o, rfl, g, _, rfl, ?_⟩
    rw [h3]
    exact q _ L2 F2 H2 h2 E2 (s1.trans s2))
theorem et_dnotin (hu : X.A.units + 64 < cLine) (h : EvK X F0 i Γ L fun y L1 => EvK X F0 o Γ L1 fun x L2 => ∃ kvs key, AsD F0 X.K L2 x kvs ∧ y = kD key ∧ kt (!(atK key kvs).isSome) L2) (hm : behindInMarks .NotIn o = false := by rfl) : EtK X F0 (.Compare i [.NotIn] [o] pos) Γ L kt := fun F σ H Q E q =>
  wpT.of (pt_cmp (pc_dnotin (by omega) we we) hm) (h F σ H _ E fun y L1 F1 v H1 h1 E1 s1 r1 => h1 F1 σ H1 _ E1 fun x L2 F2 u H2 ⟨kvs, key, as, e1, h2⟩ E2 s2 r2 => by
    subst e1
    have e2 := kD_v r1
    subst e2
    obtain ⟨p, ps, rfl, rd, rp⟩ := as.read E2.ge E2.led r2
    obtain ⟨o, g, _, h3⟩ := rd_get (k := key) rd rp
    refine ⟨p, o, rfl, g, _, rfl, ?_⟩
    rw [h3]
    exact q _ L2 F2 H2 h2 E2 (s1.trans s2))
/-- d[i] = e -/
theorem sk_dput {ks : Ks} (hu : X.A.units + 64 < cLine) (h : EvK X F0 e Γ L fun v L1 => EvK X F0 o Γ L1 fun x L2 => EvK X F0 i Γ L2 fun y L3 => ∃ p kvs key j L4, x = .ref p ∧ Get L3 j (p, C.dic kvs) ∧ y = kD key ∧ kvs.length < sizeLine ∧ Put L3 j (p, C.dic (putB kvs key v)) L4 ∧ ks.nx Γ L4)
    (hs : swapsWith e (some (.Subscript o i p')) pos.line X.env = pure false := by rfl) : SK X F0 (.Assign [.Subscript o i p'] e pos) Γ L ks := fun F σ H Dn E q =>
  wpS.of (ps_dput (by omega) we we we hs) (h F σ H _ E fun v L1 F1 u H1 h1 E1 s1 r1 => h1 F1 σ H1 _ E1 fun x L2 F2 u2 H2 h2 E2 s2 r2 => h2 F2 σ H2 _ E2 fun y L3 F3 u3 H3 ⟨p, kvs, key, j, L4, e1, g, e2, hz, pt, h3⟩ E3 s3 r3 => by
    subst e1 e2
    cases r2
    have e3 := kD_v r3
    subst e3
    obtain ⟨_, ps, h4, h5⟩ := E3.led.ent _ g.mem
    refine ⟨p, _, rfl, .inl ⟨ps, key, h4, rfl, by rw [← h5.length]; exact hz, rfl⟩, q.nx Γ L4 F3 σ _ h3 (E3.to (Same.refl F3) (E3.led.put g pt ⟨_, upd_same, h5.putK (r1.mono (s2.trans s3))⟩))⟩)
/-- len(d) -/
theorem ek_lenD {p : Pos} (hm : X.mg "len" = none) (hg : Gl X "len") (h : EvK X F0 e Γ L fun x L1 => ∃ p kvs j, x = .ref p ∧ Get L1 j (p, C.dic kvs) ∧ k (.int (kvs.length : Int)) L1)
    (he : starEach [e] X.env = (false, eval e X.env) :: starEach [] X.env := by rfl) (hpl : (backTo pos (starEach [] X.env)).any (·.1) = false := by rfl) : EvK X F0 (.Call (.Name "len" p) [e] [] pos) Γ L k := fun F σ H Q E q =>
  wpE.of (pe_callB call_lenD hg hm boot_len (pa_cons we pa_nil he) (by decide) (by decide) he hpl) (h F σ H _ E fun x L1 F1 v H1 ⟨p, kvs, j, e1, g, h1⟩ E1 s1 r1 => by
    subst e1
    cases r1
    obtain ⟨_, ps, h4, h5⟩ := E1.led.ent _ g.mem
    refine ⟨p, ps, rfl, h4, ?_⟩
    rw [← h5.length]
    exact q _ L1 F1 _ H1 h1 E1 s1 .int)
end
/-! ### a dict locked while it is walked -/
def delH (F : Hp) (p : Addr) : Hp := fun b => if b = p then none else F b
theorem delH_ne {F : Hp} {p b : Addr} (h : b ≠ p) : delH F p b = F b := if_neg h
theorem delH_at {F : Hp} {p : Addr} : delH F p p = none := if_pos rfl
section
variable {K : PySem.W.Frag} {F : Hp} {p : Addr} {od : Obj} {ps : List (Key × V)}
theorem SqL.del (hp : F p = some (.frz od (.dK ps))) {a : Addr} {xs : List V} (h : SqL K F a xs) : SqL K (delH F p) a xs := by
  rcases h with (h | ⟨o, h⟩) | h
  · refine .inl (.inl ?_)
    rw [delH_ne]
    · exact h
    · intro z; subst z; rw [hp] at h; cases h
  · refine .inl (.inr ⟨o, ?_⟩)
    rw [delH_ne]
    · exact h
    · intro z; subst z; rw [hp] at h; cases h
  · exact .inr h
theorem SqT.del (hp : F p = some (.frz od (.dK ps))) {a : Addr} {xs : List V} (h : SqT K F a xs) : SqT K (delH F p) a xs := by
  rcases h with (h | ⟨o, h⟩) | h
  · refine .inl (.inl ?_)
    rw [delH_ne]
    · exact h
    · intro z; subst z; rw [hp] at h; cases h
  · refine .inl (.inr ⟨o, ?_⟩)
    rw [delH_ne]
    · exact h
    · intro z; subst z; rw [hp] at h; cases h
  · exact .inr h
mutual
theorem Rep.del (hp : F p = some (.frz od (.dK ps))) : ∀ {d : D} {v : V}, Rep K F d v → Rep K (delH F p) d v
  | _, _, .non => .non
  | _, _, .bl => .bl
  | _, _, .int => .int
  | _, _, .str => .str
  | _, _, .lst h r => .lst (SqL.del hp h) (Reps.del hp r)
  | _, _, .tup h r => .tup (SqT.del hp h) (Reps.del hp r)
  | _, _, .ref => .ref
  | _, _, .ty => .ty
  | _, _, .rng h => .rng (by
    rw [delH_ne]
    · exact h
    · intro z; subst z; rw [hp] at h; cases h)
theorem Reps.del (hp : F p = some (.frz od (.dK ps))) : ∀ {ds : List D} {vs : List V}, Reps K F ds vs → Reps K (delH F p) ds vs
  | _, _, .nil => .nil
  | _, _, .cons r t => .cons (Rep.del hp r) (Reps.del hp t)
end
theorem RepP.del (hp : F p = some (.frz od (.dK ps))) {κ : Type} {ds : List (κ × D)} {vs : List (κ × V)} (r : RepP K F ds vs) : RepP K (delH F p) ds vs := by
  induction r with
  | nil => exact .nil
  | cons r t ih => exact .cons (r.del hp) ih
theorem Slots.del (hp : F p = some (.frz od (.dK ps))) {Γ : Gm} {σ : L2.St} (r : Slots K F Γ σ) : Slots K (delH F p) Γ σ := by
  induction r with
  | nil => exact .nil
  | no t ih => exact .no ih
  | so r t ih => exact .so (r.del hp) ih
theorem CRep.del (hp : F p = some (.frz od (.dK ps))) {H H' : Hp} {a : Addr} {c : C} (e : H' a = H a) (h : CRep K F H a c) : CRep K (delH F p) H' a c := by
  cases c with
  | lst ds => obtain ⟨xs, h1, h2⟩ := h; exact ⟨xs, e.trans h1, h2.del hp⟩
  | obj c fs => obtain ⟨dx, qs, h1, h2⟩ := h; exact ⟨dx, qs, e.trans h1, h2.del hp⟩
  | dic kvs => obtain ⟨qs, h1, h2⟩ := h; exact ⟨qs, e.trans h1, h2.del hp⟩
  | dit kvs => obtain ⟨qs, h1, h2⟩ := h; exact ⟨qs, e.trans h1, h2.del hp⟩
end
theorem Led.lock {K : PySem.W.Frag} {F H : Hp} {L L1 : Lg} {p : Addr} {kvs : List (Key × D)} {j : Nat} (e : Led K F L H) (r : Rem L j (p, .dic kvs) L1) : ∃ ps, H p = some (.dK ps) ∧ RepP K F kvs ps ∧ F p = none ∧
    ∀ od, Led K (upd F p (.frz od (.dK ps))) L1 (upd H p (.frz od (.dK ps))) := by
  obtain ⟨hF, ps, h1, h2⟩ := e.ent _ r.get.mem
  refine ⟨ps, h1, h2, hF, fun od => ⟨fun b u z => ?_, (r.sub.map _).nodup e.nod, fun q hq => ?_⟩⟩
  · by_cases hb : b = p
    · subst hb; rw [upd_same] at z ⊢; exact z
    · rw [upd_ne hb] at z ⊢; exact e.sub b u z
  · obtain ⟨a1, a2⟩ := e.ent q (r.sub.subset hq)
    have ne := Rem.ne e.nod r q hq
    exact ⟨(upd_ne ne).trans a1, a2.mono (same_new hF) (upd_ne ne)⟩
theorem Led.unlock {K : PySem.W.Frag} {F H : Hp} {L : Lg} {p : Addr} {kvs : List (Key × D)} {od : Obj} {ps : List (Key × V)} (e : Led K F L H) (hF : F p = some (.frz od (.dK ps))) (rp : RepP K F kvs ps) : Led K (delH F p) ((p, .dic kvs) :: L) (upd H p (.dK ps)) := by
  have ne : ∀ q ∈ L, q.1 ≠ p := fun q hq z => by
    have := (e.ent q hq).1
    rw [z, hF] at this
    cases this
  refine ⟨fun b u z => ?_, ?_, fun q hq => ?_⟩
  · by_cases hb : b = p
    · subst hb; rw [delH_at] at z; cases z
    · rw [delH_ne hb] at z; rw [upd_ne hb]; exact e.sub b u z
  · rw [List.map_cons]
    refine List.nodup_cons.mpr ⟨fun z => ?_, e.nod⟩
    obtain ⟨q, hq, z⟩ := List.mem_map.mp z
    exact ne q hq z
  · rcases List.mem_cons.mp hq with rfl | hq
    · exact ⟨delH_at, ps, upd_same, rp.del hF⟩
    · obtain ⟨a1, a2⟩ := e.ent q hq
      exact ⟨(delH_ne (ne q hq)).trans a1, a2.del hF (upd_ne (ne q hq))⟩
theorem same_del {F0 F : Hp} {p : Addr} (s : Same F0 F) (h : F0 p = none) : Same F0 (delH F p) := fun b u z => by
  rw [delH_ne (ne_of_none z h)]
  exact s b u z
def keysD (kvs : List (Key × D)) : List D := kvs.map fun kv => kD kv.1
section
variable {X : Cx} {F0 : Hp} {Γ : Gm} {L L1 : Lg} {k : Ks} {a tg : Expr} {body : List Stmt} {pos : Pos} {N Nc : List Str} {sc : Scope} {Z : Xc → Gm → Lg → Prop} {p : Addr} {kvs : List (Key × D)} {j : Nat}
/-- for tg in d: d is locked meanwhile -/
theorem sk_forD (cf : Cf X N Nc sc F0 Z) (r : Rem L j (p, .dic kvs) L1)
    (he : ∀ F1, Cf X N Nc sc F1 Z → ∀ kk : D → Lg → Prop, kk (.ref p) L1 → EvK X F1 a Γ L1 kk) (Pv : Nat → Gm → Lg → Prop) (h0 : Pv 0 Γ L1)
    (hb : ∀ F1, Cf X N Nc sc F1 Z → (∀ M, AsD F1 X.K M (.ref p) kvs) → ∀ i d Γ' L', (keysD kvs)[i]? = some d → Pv i Γ' L' → TgK X F1 tg d Γ' L' fun Γ2 L2 => BK X F1 body Γ2 L2
      { nx := Pv (i + 1), ct := Pv (i + 1), bk := fun Γ3 L3 => k.nx Γ3 ((p, .dic kvs) :: L3), rt := fun d L3 => k.rt d ((p, .dic kvs) :: L3) }) (hd : ∀ Γ' L', Pv kvs.length Γ' L' → k.nx Γ' ((p, .dic kvs) :: L'))
    (hs : ∀ x, foldedSetIterable a X.env x = pure x := by intro _; rfl) : SK X F0 (.For tg a body [] pos) Γ L k := fun F σ H Dn E q => by
  obtain ⟨ps, h1, h2, h3, hl⟩ := E.led.lock r
  have hF0 : F0 p = none := E.ge.free h3
  refine wpS.of (ps_lock (ps_for cf.own cf.calm (pi_keys we) wg wb hs)) ⟨p, .dK ps, h1, trivial, fun od => ?_⟩
  have s1 : Same F (upd F p (.frz od (.dK ps))) := same_new h3
  have g01 : Same F0 (upd F p (.frz od (.dK ps))) := E.ge.trans s1
  have cf1 := cf.up g01
  have E1 : At X.K (upd F p (.frz od (.dK ps))) (upd F p (.frz od (.dK ps))) Γ L1 σ (upd H p (.frz od (.dK ps))) := ⟨Same.refl _, hl od, E.sl.mono s1⟩
  have as : ∀ M, AsD (upd F p (.frz od (.dK ps))) X.K M (.ref p) kvs := fun M => .lok upd_same (h2.mono s1)
  have out : ∀ {F2 : Hp} {Lb : Lg} {σ2 : L2.St} {H2 : Hp} {Γ2 : Gm}, At X.K (upd F p (.frz od (.dK ps))) F2 Γ2 Lb σ2 H2 → H2 p = some (.frz od (.dK ps)) ∧ At X.K F0 (delH F2 p) Γ2 ((p, .dic kvs) :: Lb) σ2 (upd H2 p (.dK ps)) := fun E2 => by
    have hp2 := E2.ge _ _ upd_same
    exact ⟨E2.led.sub _ _ hp2, same_del (g01.trans E2.ge) hF0, E2.led.unlock hp2 (h2.mono (s1.trans E2.ge)), E2.sl.del hp2⟩
  refine he _ cf1 (fun x L' => x = .ref p ∧ L' = L1) ⟨rfl, rfl⟩ _ σ _ _ E1 fun x L' F2 v H2 ⟨e1, e2⟩ E2 s2 r2 => ?_
  subst e1 e2
  cases r2
  have hp2 := E2.ge _ _ upd_same
  refine ⟨p, od, rfl, .inl ⟨ps, E2.led.sub _ _ hp2, fun i m σ H => ∃ F' Γ L, i + m = kvs.length ∧ Pv i Γ L ∧ At X.K (upd F p (.frz od (.dK ps))) F' Γ L σ H, ⟨kvs.length, F2, Γ, _, by omega, h0, E2⟩, ?_⟩⟩
  rintro i m σ3 H3 ⟨F3, Γ3, L3, hm, hP, E3⟩
  have hp3 := E3.led.sub _ _ (E3.ge _ _ upd_same)
  by_cases hi : i < kvs.length
  · refine .inr ⟨⟨hp3, by rw [← h2.length]; exact hi⟩, fun σ' H' => ∃ F' Γ L, Pv (i + 1) Γ L ∧ At X.K (upd F p (.frz od (.dK ps))) F' Γ L σ' H', fun σ' H' ⟨F4, Γ4, L4, b, c⟩ => ⟨m - 1, by omega, F4, Γ4, L4, by omega, b, c⟩, ?_⟩
    rintro x H' ⟨rfl, key, v, hk, rfl⟩
    have hkd : (keysD kvs)[i]? = some (kD key) := by
      have g : ∀ {kvs : List (Key × D)} {ps : List (Key × V)} {i : Nat}, RepP X.K F kvs ps → ps[i]? = some (key, v) → (keysD kvs)[i]? = some (kD key) := fun {kvs ps i} r => by
        induction r generalizing i with
        | nil => intro z; cases i <;> cases z
        | cons r t ih =>
          intro z
          cases i with
          | zero => cases z; rfl
          | succ i => exact ih z
      exact g h2 hk
    refine hb _ cf1 as i (kD key) Γ3 L3 hkd hP F3 σ3 H' _ _ E3 kD_rep fun Γ4 L4 F4 σ4 H4 h4 E4 => ?_
    refine h4 F4 σ4 H4 _ E4 ⟨fun Γ L F σ H h E => ⟨F, Γ, L, h, E⟩, fun d L F v H h s l r => ?_, fun Γ L F σ H h E => ?_, fun Γ L F σ H h E => ⟨F, Γ, L, h, E⟩⟩
    · have hp5 := s _ _ upd_same
      exact ⟨l.sub _ _ hp5, q.rt d _ _ v _ h (same_del (g01.trans s) hF0) (l.unlock hp5 (h2.mono (s1.trans s))) (r.del hp5)⟩
    · obtain ⟨o1, o2⟩ := out E
      exact ⟨o1, q.nx Γ _ _ σ _ h o2⟩
  · have e : i = kvs.length := by omega
    subst e
    refine .inl ⟨⟨hp3, by rw [← h2.length]; exact Nat.le_refl _⟩, ?_⟩
    obtain ⟨o1, o2⟩ := out E3
    exact ⟨o1, q.nx Γ3 _ _ σ3 _ (hd Γ3 L3 hP) o2⟩
end
end Vs

set_option Elab.async false
set_option linter.all false
set_option maxRecDepth 100000
set_option maxHeartbeats 4000000
namespace Vs
open PySem PySem.Spec PyProof.Rows L2
section
variable {X : Cx} {F0 : Hp} {Γ : Gm} {L : Lg} {k : Ks} {e a b c i tg iter : Expr} {st : Stmt} {rest body orelse : List Stmt} {pos p' p tpos : Pos} {N Nc : List Str} {sc : Scope} {Z : Xc → Gm → Lg → Prop} {elts : List Expr} {kk : Nat}
/-- for tg in iter: the ledger keeps what is walked -/
theorem sk_forQ (cf : Cf X N Nc sc F0 Z) (h : EiP X F0 tg iter Γ L fun ds L1 => ∃ Pv : Nat → Gm → Lg → Prop, Pv 0 Γ L1 ∧ (∀ i Γ' L', Pv i Γ' L' → ∃ M, L' = L1 ++ M) ∧
      (∀ F1, Cf X N Nc sc F1 Z → ∀ i d Γ' L', ds[i]? = some d → Pv i Γ' L' → TgK X F1 tg d Γ' L' fun Γ2 L2 => BK X F1 body Γ2 L2 { k with nx := Pv (i + 1), ct := Pv (i + 1), bk := k.nx }) ∧ (∀ Γ' L', Pv ds.length Γ' L' → k.nx Γ' L'))
    (hs : ∀ x, foldedSetIterable iter X.env x = pure x := by intro _; rfl) : SK X F0 (.For tg iter body [] pos) Γ L k := fun F σ H Dn E q =>
  wpS.of (ps_for cf.own cf.calm wi wg wb hs) (h F σ H _ E fun ds L1 F1 H1 J ⟨Pv, h0, hM, hb, hd⟩ E1 s1 it => by
    refine ⟨fun i m σ H => ∃ F Γ L, i + m = ds.length ∧ Same F1 F ∧ Pv i Γ L ∧ At X.K F0 F Γ L σ H, ⟨ds.length, F1, Γ, L1, by omega, Same.refl F1, h0, E1⟩, ?_⟩
    rintro i m σ2 H2 ⟨F2, Γ2, L2, hm, s2, hP, E2⟩
    obtain ⟨M, eM⟩ := hM _ _ _ hP
    have l2 := E2.led
    rw [eM] at l2
    by_cases hi : i < ds.length
    · refine .inr ⟨it.go i H2 F2 M hi s2 l2, fun σ' H' => ∃ F Γ L, Same F1 F ∧ Pv (i + 1) Γ L ∧ At X.K F0 F Γ L σ' H', fun σ' H' ⟨F3, Γ3, L3, a, b, c⟩ => ⟨m - 1, by omega, F3, Γ3, L3, by omega, a, b, c⟩, fun x H' hy => ?_⟩
      obtain ⟨d, F3, hdi, s3, l3, r3⟩ := it.yld i H2 x H' F2 M s2 l2 hy hi
      rw [← eM] at l3
      refine hb F1 (cf.up E1.ge) i d Γ2 L2 hdi hP F3 σ2 H' x _ ((E2.to s3 l3).base (s2.trans s3)) r3 fun Γ4 L4 F4 σ4 H4 h4 E4 => ?_
      have q' := q.up (F1 := F1) E1.ge
      exact h4 F4 σ4 H4 _ E4 ⟨fun Γ L F σ H h E => ⟨F, Γ, L, E.ge, h, E.low E1.ge⟩, q'.rt, q'.nx, fun Γ L F σ H h E => ⟨F, Γ, L, E.ge, h, E.low E1.ge⟩⟩
    · have e : i = ds.length := by omega
      subst e
      exact .inl ⟨it.stop _ H2 F2 M (Nat.le_refl _) s2 l2, q.nx Γ2 L2 F2 σ2 H2 (hd Γ2 L2 hP) E2⟩)
theorem eip_enum {kl : List D → Lg → Prop} (hm : X.mg "enumerate" = none) (hg : Gl X "enumerate") (h : EvK X F0 a Γ L fun x L1 => ∃ ds, AsL L1 x ds ∧ kl (enumD ds) L1) (hs : starEach [a] X.env = [(false, eval a X.env)] := by rfl) :
    EiP X F0 (.Tuple elts kk tpos) (.Call (.Name "enumerate" p) [a] [] pos) Γ L kl := fun F σ H R E q =>
  wpI.of (pi_enum hg hm (pa_cons we pa_nil hs) hs) (h F σ H _ E fun x L1 F1 v H1 ⟨ds, as, h1⟩ E1 s1 r1 => by
    obtain ⟨p, xs, rfl, hx, rx⟩ := as.read E1.led r1
    have rd : ∀ {F' : Hp} {L' : Lg} {H' : Hp}, Same F1 F' → Led X.K F' (L1 ++ L') H' → ∃ xs, SqL X.K H' p xs ∧ Reps X.K F' ds xs := fun s l => by
      obtain ⟨p', ys, e, hy, ry⟩ := as.app.read l (r1.mono s)
      cases e
      exact ⟨ys, hy, ry⟩
    refine ⟨p, xs, rfl, hx, q _ L1 F1 H1 _ h1 E1 s1 ⟨?_, ?_, ?_⟩⟩
    · intro i H F' L' hi s l
      obtain ⟨ys, hy, ry⟩ := rd s l
      have hi' : i < ys.length := by rw [← ry.length]; rw [enumD_len] at hi; exact hi
      exact ⟨ys, ys[i], hy, List.getElem?_eq_getElem hi'⟩
    · rintro i H x H' F' L' s l ⟨T, y, rfl, hT, rfl, hy⟩ hi
      obtain ⟨ys, hy2, ry⟩ := rd s l
      obtain ⟨d, hd, rd'⟩ := ry.got (hy ys hy2)
      have s2 : Same F' (upd F' T (.tup [.int (i : Nat), y])) := same_new (l.free hT)
      exact ⟨.tup [.int (i : Int), d], _, by rw [enumD_get, hd]; rfl, s2, l.new hT, .tup (.inl (.inl upd_same)) (.cons .int (.cons (rd'.mono s2) .nil))⟩
    · intro i H F' L' hi s l
      obtain ⟨ys, hy, ry⟩ := rd s l
      exact ⟨ys, hy, by rw [← ry.length]; rw [enumD_len] at hi; exact hi⟩)
/-- for (i, x) in enumerate(xs), xs a name of either kind -/
theorem sk_forNE {x : D} {ds : List D} (hm : X.mg "enumerate" = none) (hg : Gl X "enumerate") (cf : Cf X N Nc sc F0 Z)
    (he : ∀ kk : D → Lg → Prop, kk x L → EvK X F0 a Γ L kk) (hx : AsL L x ds) (Pv : Nat → Gm → Lg → Prop) (h0 : Pv 0 Γ L) (hp : ∀ i Γ' L', Pv i Γ' L' → AsL L' x ds)
    (hb : ∀ F1, Cf X N Nc sc F1 Z → ∀ i d Γ' L', (enumD ds)[i]? = some d → Pv i Γ' L' → TgK X F1 (.Tuple elts kk tpos) d Γ' L' fun Γ2 L2 => BK X F1 body Γ2 L2 { k with nx := Pv (i + 1), ct := Pv (i + 1), bk := k.nx }) (hd : ∀ Γ' L', Pv (enumD ds).length Γ' L' → k.nx Γ' L')
    (hs : starEach [a] X.env = [(false, eval a X.env)] := by rfl) (hs2 : ∀ y, foldedSetIterable (.Call (.Name "enumerate" p) [a] [] p') X.env y = pure y := by intro _; rfl) : SK X F0 (.For (.Tuple elts kk tpos) (.Call (.Name "enumerate" p) [a] [] p') body [] pos) Γ L k := fun F σ H Dn E q =>
  wpS.of (ps_for cf.own cf.calm (pi_enum hg hm (pa_cons we pa_nil hs) hs) wg wb hs2) (he (fun y L' => y = x ∧ L' = L) ⟨rfl, rfl⟩ F σ H _ E fun y L1 F1 v H1 ⟨e1, e2⟩ E1 s1 r1 => by
    subst e1 e2
    obtain ⟨q0, xs, rfl, hxs, rx⟩ := hx.read E1.led r1
    have rd : ∀ {F2 : Hp} {Lb : Lg} {H : Hp} {i : Nat} {Γ' : Gm}, Same F1 F2 → Pv i Γ' Lb → Led X.K F2 Lb H → ∃ xs, SqL X.K H q0 xs ∧ Reps X.K F2 ds xs := fun s hP l => by
      obtain ⟨q1, ys, e, h1, h2⟩ := (hp _ _ _ hP).read l (r1.mono s)
      cases e
      exact ⟨ys, h1, h2⟩
    refine ⟨q0, xs, rfl, hxs, fun i m σ H => ∃ F' Γ L, i + m = (enumD ds).length ∧ Same F1 F' ∧ Pv i Γ L ∧ At X.K F0 F' Γ L σ H, ⟨(enumD ds).length, F1, Γ, _, by omega, Same.refl F1, h0, E1⟩, ?_⟩
    rintro i m σ2 H2 ⟨F2, Γ2, Lb, hm, s2, hP, E2⟩
    obtain ⟨ys, hy, ry⟩ := rd s2 hP E2.led
    by_cases hi : i < (enumD ds).length
    · have hi' : i < ys.length := by rw [← ry.length]; rw [enumD_len] at hi; exact hi
      refine .inr ⟨⟨ys, ys[i], hy, List.getElem?_eq_getElem hi'⟩, fun σ' H' => ∃ F' Γ L, Same F1 F' ∧ Pv (i + 1) Γ L ∧ At X.K F0 F' Γ L σ' H', fun σ' H' ⟨F3, Γ3, L3, a, b, c⟩ => ⟨m - 1, by omega, F3, Γ3, L3, by omega, a, b, c⟩, ?_⟩
      rintro z H' ⟨T, y, rfl, hT, rfl, hz⟩
      obtain ⟨d, hdi, rd'⟩ := ry.got (hz ys hy)
      have s3 : Same F2 (upd F2 T (.tup [.int (i : Nat), y])) := same_new (E2.led.free hT)
      have E3 := E2.new (o := .tup [.int (i : Nat), y]) hT
      refine hb F1 (cf.up E1.ge) i (.tup [.int (i : Int), d]) Γ2 Lb (by rw [enumD_get, hdi]; rfl) hP _ σ2 _ _ _ (E3.base (s2.trans s3)) (.tup (.inl (.inl upd_same)) (.cons .int (.cons (rd'.mono s3) .nil))) fun Γ4 L4 F4 σ4 H4 h4 E4 => ?_
      have q' := q.up (F1 := F1) E1.ge
      exact h4 F4 σ4 H4 _ E4 ⟨fun Γ L F σ H h E => ⟨F, Γ, L, E.ge, h, E.low E1.ge⟩, q'.rt, q'.nx, fun Γ L F σ H h E => ⟨F, Γ, L, E.ge, h, E.low E1.ge⟩⟩
    · have e : i = (enumD ds).length := by omega
      subst e
      exact .inl ⟨⟨ys, hy, by rw [← ry.length, ← enumD_len (ds := ds)]; exact Nat.le_refl _⟩, q.nx Γ2 Lb F2 σ2 H2 (hd Γ2 Lb hP) E2⟩)
end
end Vs

set_option Elab.async false
set_option linter.all false
set_option maxRecDepth 100000
set_option maxHeartbeats 4000000
namespace Vs
open PySem PySem.Spec PyProof.Rows L2
/-! ### a, b = x, y with plain local names -/
theorem swapped_scope {ts : List Expr} {e : Expr} {E E' : Env} (h : E.scope = E'.scope) : swappedStores ts e E = swappedStores ts e E' := by
  unfold swappedStores Env.blockKind Env.kindOf
  rw [h]
section
variable {X : Cx} {F0 : Hp} {Γ : Gm} {L : Lg} {k : Ks} {a b c3 : Expr} {pos px py pz pt pt2 : Pos} {kt k2 : Nat} {N Nc : List Str} {sc : Scope} {x y z : Str} {i j l : Nat} {Z : Xc → Gm → Lg → Prop}
theorem sk_par (c : Cf X N Nc sc F0 Z) (h : EaK X F0 [a, b] Γ L fun ds L' => ∃ d1 d2, ds = [d1, d2] ∧ ∃ Γ1, Put Γ i (some d1) Γ1 ∧ ∃ Γ2, Put Γ1 j (some d2) Γ2 ∧ k.nx Γ2 L')
    (hi : N[i]? = some x := by rfl) (hj : N[j]? = some y := by rfl) (hij : i ≠ j := by decide) (hx : sc.names.lookup x = some .local := by rfl) (hy : sc.names.lookup y = some .local := by rfl)
    (hw : swappedStores [.Tuple [.Name x px, .Name y py] kt pt] (.Tuple [a, b] k2 pt2) { (default : Env) with scope := sc } = pure (some [x, y]) := by rfl)
    (hs : swapsWithSole [.Tuple [.Name x px, .Name y py] kt pt] (.Tuple [a, b] k2 pt2) pos.line X.env = pure false := by rfl) :
    SK X F0 (.Assign [.Tuple [.Name x px, .Name y py] kt pt] (.Tuple [a, b] k2 pt2) pos) Γ L k := fun F σ H Dn E q =>
  wpS.of (ps_par c.calm (by rw [c.n]; exact c.nd) (by rw [c.n]; exact get_app hi) (by rw [c.n]; exact get_app hj) hij (by rw [c.scp]; exact hx) (by rw [c.scp]; exact hy) wa
    ((swapped_scope (E' := { (default : Env) with scope := sc }) c.scp).trans hw) hs) (h F σ H _ E fun ds L1 F1 vs H1 ⟨d1, d2, e, Γ1, p1, Γ2, p2, hk⟩ E1 s1 r1 => by
    subst e
    cases r1 with
    | cons r r1 =>
      cases r1 with
      | cons r' r1 =>
        cases r1
        exact ⟨_, _, rfl, q.nx Γ2 L1 F1 _ H1 hk ⟨E1.ge, E1.led, (E1.sl.put r p1).put r' p2⟩⟩)
theorem sk_par3 (c : Cf X N Nc sc F0 Z) (h : EaK X F0 [a, b, c3] Γ L fun ds L' => ∃ d1 d2 d3, ds = [d1, d2, d3] ∧ ∃ Γ1, Put Γ i (some d1) Γ1 ∧ ∃ Γ2, Put Γ1 j (some d2) Γ2 ∧ ∃ Γ3, Put Γ2 l (some d3) Γ3 ∧ k.nx Γ3 L')
    (hi : N[i]? = some x := by rfl) (hj : N[j]? = some y := by rfl) (hl : N[l]? = some z := by rfl) (hij : i ≠ j := by decide) (hil : i ≠ l := by decide) (hjl : j ≠ l := by decide) (hx : sc.names.lookup x = some .local := by rfl) (hy : sc.names.lookup y = some .local := by rfl) (hz : sc.names.lookup z = some .local := by rfl)
    (hw : swappedStores [.Tuple [.Name x px, .Name y py, .Name z pz] kt pt] (.Tuple [a, b, c3] k2 pt2) { (default : Env) with scope := sc } = pure (some [x, y, z]) := by rfl)
    (hs : swapsWithSole [.Tuple [.Name x px, .Name y py, .Name z pz] kt pt] (.Tuple [a, b, c3] k2 pt2) pos.line X.env = pure false := by rfl) :
    SK X F0 (.Assign [.Tuple [.Name x px, .Name y py, .Name z pz] kt pt] (.Tuple [a, b, c3] k2 pt2) pos) Γ L k := fun F σ H Dn E q =>
  wpS.of (ps_par3 c.calm (by rw [c.n]; exact c.nd) (by rw [c.n]; exact get_app hi) (by rw [c.n]; exact get_app hj) (by rw [c.n]; exact get_app hl) hij hil hjl (by rw [c.scp]; exact hx) (by rw [c.scp]; exact hy) (by rw [c.scp]; exact hz) wa
    ((swapped_scope (E' := { (default : Env) with scope := sc }) c.scp).trans hw) hs) (h F σ H _ E fun ds L1 F1 vs H1 ⟨d1, d2, d3, e, Γ1, p1, Γ2, p2, Γ3, p3, hk⟩ E1 s1 r1 => by
    subst e
    cases r1 with
    | cons r r1 =>
      cases r1 with
      | cons r' r1 =>
        cases r1 with
        | cons r'' r1 =>
          cases r1
          exact ⟨_, _, _, rfl, q.nx Γ3 L1 F1 _ H1 hk ⟨E1.ge, E1.led, ((E1.sl.put r p1).put r' p2).put r'' p3⟩⟩)
end
/-! ### and, or: what a part leaves in the ledger is dropped -/
section
variable {X : Cx} {F0 : Hp} {Γ : Gm} {L L1 : Lg} {k : D → Lg → Prop} {kt : Bool → Lg → Prop} {a b : Expr} {rest : List Expr} {pos : Pos} {σ : L2.St} {F H : Hp}
theorem At.dropS (E : At X.K F0 F Γ L1 σ H) (hs : L.Sublist L1) : At X.K F0 F Γ L σ H := ⟨E.ge, ⟨E.led.sub, (hs.map _).nodup E.led.nod, fun p hp => E.led.ent p (hs.subset hp)⟩, E.sl⟩
theorem ek_subL {P : D → Prop} (h : EvK X F0 a Γ L fun x L1 => P x ∧ L.Sublist L1) : EvK X F0 a Γ L fun x L1 => P x ∧ L1 = L := fun F σ H Q E q =>
  h F σ H Q E fun x L1 F1 v H1 ⟨e1, e2⟩ E1 s1 r1 => q x L F1 v H1 ⟨e1, rfl⟩ (E1.dropS e2) s1 r1
theorem et_subL {P : Bool → Prop} (h : EtK X F0 a Γ L fun x L1 => P x ∧ L.Sublist L1) : EtK X F0 a Γ L fun x L1 => P x ∧ L1 = L := fun F σ H Q E q =>
  h F σ H Q E fun x L1 F1 H1 ⟨e1, e2⟩ E1 s1 => q x L F1 H1 ⟨e1, rfl⟩ (E1.dropS e2) s1
theorem ew_subL {P : Bool → Prop} (h : EwK X F0 a Γ L fun x L1 => P x ∧ L.Sublist L1) : EwK X F0 a Γ L fun x L1 => P x ∧ L1 = L := fun F σ H Q E q =>
  h F σ H Q E fun x L1 F1 H1 ⟨e1, e2⟩ E1 s1 => q x L F1 H1 ⟨e1, rfl⟩ (E1.dropS e2) s1
theorem ek_andS {p q : Bool} (ha : EvK X F0 a Γ L fun x L1 => x = .bl p ∧ L.Sublist L1) (hb : p = true → EvK X F0 (.BoolOp .And (b :: rest) pos) Γ L fun y L2 => y = .bl q ∧ L.Sublist L2) (h : k (.bl (p && q)) L) : EvK X F0 (.BoolOp .And (a :: b :: rest) pos) Γ L k := ek_and' (ek_subL ha) (fun e => ek_subL (hb e)) h
theorem ek_orS {p q : Bool} (ha : EvK X F0 a Γ L fun x L1 => x = .bl p ∧ L.Sublist L1) (hb : p = false → EvK X F0 (.BoolOp .Or (b :: rest) pos) Γ L fun y L2 => y = .bl q ∧ L.Sublist L2) (h : k (.bl (p || q)) L) : EvK X F0 (.BoolOp .Or (a :: b :: rest) pos) Γ L k := ek_or (ek_subL ha) (fun e => ek_subL (hb e)) h
theorem ew_andS {p q : Bool} (ha : EtK X F0 a Γ L fun x L1 => x = p ∧ L.Sublist L1) (hb : p = true → EwK X F0 (.BoolOp .And (b :: rest) pos) Γ L fun y L2 => y = q ∧ L.Sublist L2) (h : kt (p && q) L) : EwK X F0 (.BoolOp .And (a :: b :: rest) pos) Γ L kt := ew_and (et_subL ha) (fun e => ew_subL (hb e)) h
theorem ew_orS {p q : Bool} (ha : EtK X F0 a Γ L fun x L1 => x = p ∧ L.Sublist L1) (hb : p = false → EwK X F0 (.BoolOp .Or (b :: rest) pos) Γ L fun y L2 => y = q ∧ L.Sublist L2) (h : kt (p || q) L) : EwK X F0 (.BoolOp .Or (a :: b :: rest) pos) Γ L kt := ew_or (et_subL ha) (fun e => ew_subL (hb e)) h
end
/-! ### name = [..] with a name that a comprehension reads -/
theorem swaps_scope {t : Option Expr} {e : Expr} {n : Nat} {E E' : Env} (h : E.scope = E'.scope) : swapsWith e t n E = swapsWith e t n E' := by
  unfold swapsWith Env.blockKind Env.kindOf
  rw [h]
section
variable {X : Cx} {F0 : Hp} {Γ : Gm} {L : Lg} {k : Ks} {e : Expr} {pos p' : Pos} {N Nc : List Str} {sc : Scope} {x : Str} {i : Nat}
theorem sk_setC (c : Cn X N Nc sc) (h : EvK X F0 e Γ L fun d L' => ∃ Γ', Put Γ i (some d) Γ' ∧ k.nx Γ' L') (hi : N[i]? = some x := by rfl)
    (hs : swapsWith e (some (.Name x p')) pos.line { (default : Env) with scope := sc } = pure false := by rfl) (hw : swappedStores [.Name x p'] e X.env = pure none := by rfl) : SK X F0 (.Assign [.Name x p'] e pos) Γ L k :=
  sk_set c h hi ((swaps_scope (E' := { (default : Env) with scope := sc }) c.scp).trans hs) hw
end
end Vs

set_option Elab.async false
set_option linter.all false
set_option maxRecDepth 100000
set_option maxHeartbeats 4000000
namespace Vs
open PySem PySem.Spec PyProof.Rows L2
/-! ### d.pop(k, x), d.get(k, x) -/
section
variable {X : Cx} {F0 : Hp} {Γ : Gm} {L : Lg} {k : D → Lg → Prop} {o e f : Expr} {apos cpos : Pos}
theorem ek_dpop2 (h : EvK X F0 o Γ L fun x L1 => ∃ p kvs1 j1, x = .ref p ∧ Get L1 j1 (p, C.dic kvs1) ∧ EvK X F0 e Γ L1 fun y L2 => EvK X F0 f Γ L2 fun z L3 => ∃ kvs key j, y = kD key ∧ Get L3 j (p, C.dic kvs) ∧
      (∀ d, atK key kvs = some d → ∃ L4, Put L3 j (p, C.dic (dropA key kvs)) L4 ∧ k d L4) ∧ (atK key kvs = none → k z L3))
    (hb : attributeBase o "pop" X.env (eval o X.env) = eval o X.env := by rfl)
    (hfew : ((backTo cpos (starEach [e, f] X.env)).all (fun x => !x.1) && (backToKw cpos (keywordEach [] X.env)).all (fun x => x.1.isSome)
      && decide (([e, f] : List Expr).length + ([] : List Keyword).length + (if ([] : List Keyword).isEmpty then 0 else 1) < 30)) = true := by rfl)
    (hline : (apos.endLine == cpos.line) = true := by rfl) (ht : backTo cpos (starEach [e, f] X.env) = [(false, eval e X.env), (false, eval f X.env)] := by rfl) :
    EvK X F0 (.Call (.Attribute o "pop" apos) [e, f] [] cpos) Γ L k := fun F σ H Q E q =>
  wpE.of (pe_dpop2 we we we ⟨hb, hfew, hline, ht⟩) (h F σ H _ E fun x L1 F1 v H1 ⟨p, kvs1, j1, e1, g1, h1⟩ E1 s1 r1 => by
    subst e1
    cases r1
    obtain ⟨_, ps1, a1, b1⟩ := E1.led.ent _ g1.mem
    refine ⟨p, rfl, .inl ⟨ps1, .inl a1⟩, h1 F1 σ H1 _ E1 fun y L2 F2 u H2 h2 E2 s2 r2 => h2 F2 σ H2 _ E2 fun z L3 F3 w H3 ⟨kvs, key, j, e2, g, h3, h4⟩ E3 s3 r3 => ?_⟩
    subst e2
    have e3 := kD_v r2
    subst e3
    obtain ⟨_, ps, a3, b3⟩ := E3.led.ent _ g.mem
    refine ⟨ps, key, a3, rfl, fun v hv => ?_, fun hv => ?_⟩
    · cases hd : atK key kvs with
      | none => rw [b3.val.2 hd] at hv; cases hv
      | some d =>
        obtain ⟨v', e4, r4⟩ := b3.val.1 d hd
        rw [e4] at hv
        cases hv
        obtain ⟨L4, pt, h5⟩ := h3 d hd
        exact q d L4 F3 _ _ h5 (E3.to (Same.refl F3) (E3.led.put g pt ⟨_, upd_same, b3.drop⟩)) (s1.trans (s2.trans s3)) r4
    · refine q z L3 F3 w H3 (h4 ?_) E3 (s1.trans (s2.trans s3)) r3
      cases hd : atK key kvs with
      | none => rfl
      | some d =>
        obtain ⟨v', e4, _⟩ := b3.val.1 d hd
        rw [e4] at hv
        cases hv)
theorem ek_dget2 (hu : X.A.units + 64 < cLine) (h : EvK X F0 o Γ L fun x L1 => ∃ p kvs1, x = .ref p ∧ AsD F0 X.K L1 x kvs1 ∧ EvK X F0 e Γ L1 fun y L2 => EvK X F0 f Γ L2 fun z L3 => ∃ kvs key, y = kD key ∧ AsD F0 X.K L3 (.ref p) kvs ∧ k ((atK key kvs).getD z) L3)
    (hb : attributeBase o "get" X.env (eval o X.env) = eval o X.env := by rfl)
    (hfew : ((backTo cpos (starEach [e, f] X.env)).all (fun x => !x.1) && (backToKw cpos (keywordEach [] X.env)).all (fun x => x.1.isSome)
      && decide (([e, f] : List Expr).length + ([] : List Keyword).length + (if ([] : List Keyword).isEmpty then 0 else 1) < 30)) = true := by rfl)
    (hline : (apos.endLine == cpos.line) = true := by rfl) (ht : backTo cpos (starEach [e, f] X.env) = [(false, eval e X.env), (false, eval f X.env)] := by rfl) :
    EvK X F0 (.Call (.Attribute o "get" apos) [e, f] [] cpos) Γ L k := fun F σ H Q E q =>
  wpE.of (pe_dget2 (by omega) we we we ⟨hb, hfew, hline, ht⟩) (h F σ H _ E fun x L1 F1 v H1 ⟨p, kvs1, e1, as1, h1⟩ E1 s1 r1 => by
    subst e1
    obtain ⟨p1, ps1, ev1, rd1, rp1⟩ := as1.read E1.ge E1.led r1
    cases r1
    cases ev1
    refine ⟨p, rfl, .inl ⟨ps1, rd1⟩, h1 F1 σ H1 _ E1 fun y L2 F2 u H2 h2 E2 s2 r2 => h2 F2 σ H2 _ E2 fun z L3 F3 w H3 ⟨kvs, key, e2, as, h3⟩ E3 s3 r3 => ?_⟩
    subst e2
    have e3 := kD_v r2
    subst e3
    obtain ⟨p2, ps, ev, rd, rp⟩ := as.read E3.ge E3.led .ref
    cases ev
    obtain ⟨ov, g, h4, h5⟩ := rd_get (k := key) rd rp
    refine ⟨ov, g, ?_⟩
    cases hd : atK key kvs with
    | none =>
      rw [hd] at h3 h5
      cases ov with
      | none => exact q _ L3 F3 _ H3 h3 E3 (s1.trans (s2.trans s3)) r3
      | some _ => cases h5
    | some d =>
      obtain ⟨v', rfl, rv⟩ := h4 d hd
      rw [hd] at h3
      exact q _ L3 F3 _ H3 h3 E3 (s1.trans (s2.trans s3)) rv)
end
end Vs

set_option Elab.async false
set_option linter.all false
set_option maxRecDepth 100000
set_option maxHeartbeats 4000000
namespace Vs
open PySem PySem.Spec PyProof.Rows L2
/-! ### the ledger put in another order, some entries forgotten -/
def SubP (L L1 : Lg) : Prop := ∃ L2 : Lg, L.Sublist L2 ∧ L2.Perm L1
theorem SubP.refl {L : Lg} : SubP L L := ⟨L, List.Sublist.refl L, List.Perm.refl L⟩
theorem SubP.of_sub {L L1 : Lg} (h : L.Sublist L1) : SubP L L1 := ⟨L1, h, List.Perm.refl _⟩
theorem SubP.of_perm {L L1 : Lg} (h : L.Perm L1) : SubP L L1 := ⟨L, List.Sublist.refl _, h⟩
section
variable {X : Cx} {F0 : Hp} {Γ : Gm} {L L1 : Lg} {k : D → Lg → Prop} {kk : Ks} {ka : List D → Lg → Prop} {e : Expr} {ss : List Stmt} {σ : L2.St} {F H : Hp}
theorem At.subP (E : At X.K F0 F Γ L1 σ H) (hs : SubP L L1) : At X.K F0 F Γ L σ H := by
  obtain ⟨L2, h1, h2⟩ := hs
  exact ⟨E.ge, ⟨E.led.sub, (h1.map _).nodup ((h2.map _).nodup_iff.mpr E.led.nod), fun p hp => E.led.ent p (h2.mem_iff.mp (h1.subset hp))⟩, E.sl⟩
theorem bk_lg (hs : SubP L L1) (h : BK X F0 ss Γ L kk) : BK X F0 ss Γ L1 kk := fun F σ H Dn E q => h F σ H Dn (E.subP hs) q
theorem ek_lg (hs : SubP L L1) (h : EvK X F0 e Γ L k) : EvK X F0 e Γ L1 k := fun F σ H Q E q => h F σ H Q (E.subP hs) q
theorem ea_nilS (h : ∃ L', SubP L' L ∧ ka [] L') : EaK X F0 [] Γ L ka := fun F σ H Q E q => by
  obtain ⟨L', hs, h1⟩ := h
  exact wpA.of pa_nil (q [] L' F [] H h1 (E.subP hs) (Same.refl F) .nil)
theorem ek_drpP (h : EvK X F0 e Γ L fun d L1 => ∃ L2, SubP L2 L1 ∧ k d L2) : EvK X F0 e Γ L k := fun F σ H Q E q =>
  h F σ H Q E fun d L1 F1 v H1 ⟨L2, hs, h1⟩ E1 s1 r1 => q d L2 F1 v H1 h1 (E1.subP hs) s1 r1
/-- a list of the ledger frozen, where it is one of the ledger's -/
theorem ek_frzO (h : EvK X F0 e Γ L fun d L1 => (∃ p ds j L2 L3, d = .ref p ∧ Rem L1 j (p, C.lst ds) L2 ∧ SubP L3 L2 ∧ k (.lst ds) L3) ∨ k d L1) : EvK X F0 e Γ L k := fun F σ H Q E q =>
  h F σ H Q E fun d L1 F1 v H1 hd E1 s1 rr => by
    rcases hd with ⟨p, ds, j, L2, L3, hd, r, hs, hk⟩ | hk
    · subst hd
      cases rr
      obtain ⟨xs, l, s2, rx⟩ := E1.led.frz r
      have E2 : At X.K F0 (upd F1 p (.lst xs)) Γ L2 σ H1 := ⟨E1.ge.trans s2, l, E1.sl.mono s2⟩
      exact q _ L3 _ _ H1 hk (E2.subP hs) (s1.trans s2) (.lst (.inl (.inl upd_same)) (rx.mono s2))
    · exact q d L1 F1 v H1 hk E1 s1 rr
end
end Vs

set_option Elab.async false
set_option linter.all false
set_option maxRecDepth 100000
set_option maxHeartbeats 4000000
namespace Vs
open PySem PySem.Spec PyProof.Rows L2
/-! ### enumerate(tuple, k) -/
def Itf (K : PySem.W.Frag) (a : Addr) (k0 : Int) (n : Nat) : It :=
  ⟨fun i H => ∃ (xs : List V) (x : V), SqT K H a xs ∧ xs.length = n ∧ xs[i]? = some x, fun i H v H' => ∃ T x, v = .ref T ∧ H T = none ∧ H' = upd H T (.tup [.int (k0 + (i : Nat)), x]) ∧ ∀ xs, SqT K H a xs → xs[i]? = some x, fun i H => ∃ xs : List V, SqT K H a xs ∧ xs.length = n ∧ n ≤ i⟩
theorem turn_enumT {P : Program} {w : World} {K : PySem.W.Frag} {elts : List Expr} {kk : Nat} {tpos : Pos} (a e it : Addr) (k0 : Int) (n : Nat) :
    Turn P w K (.Tuple elts kk tpos) (Itf K a k0 n) [e, it] e (fun i h => (∃ old, IsEnum h e it (k0 + ((i : Nat) : Int)) old) ∧ h.IsTupleIter it a i ∧ e ≠ it ∧ i ≤ n) where
  mem := by simp
  obj := fun i h st b hb => by
    obtain ⟨⟨old, he⟩, ⟨o, ho, hc, hd⟩, _⟩ := st
    have e' : b = e ∨ b = it := by simpa using hb
    rcases e' with z | z
    · rw [z]; exact ⟨_, he, fun v q => nomatch q⟩
    · rw [z]; exact ⟨o, ho, fun v q => by rw [hd] at q; cases q⟩
  keep := fun i h h' st k => let ⟨⟨old, he⟩, hi, hne, hn⟩ := st; ⟨⟨old, k e (by simp) _ he⟩, hi.at fun o q => k it (by simp) o q, hne, hn⟩
  item := by
    intro X hP hw hK hc i pins s σ H E I hf st hg
    subst hP hw hK
    obtain ⟨⟨old, he⟩, hit, hne, hin⟩ := st
    obtain ⟨xs, x, hq, hxn, hx⟩ := hg
    obtain ⟨its, rv, p, hz⟩ := I.tuple hq
    obtain ⟨u, hu, ru⟩ := rv.get hx
    have hel : e < s.heap.objs.size := Heap.lt_size he
    have hil : it < s.heap.objs.size := by obtain ⟨_, q, _⟩ := hit; exact Heap.lt_size q
    have hT0 : s.heap.IsTuple a its.toArray := p
    have hai : a ≠ it := fun z => by
      obtain ⟨o1, e1, c1, _⟩ := hit
      obtain ⟨o2, e2, c2, _⟩ := hT0
      rw [z, e1] at e2
      cases e2
      rw [c1] at c2
      exact absurd c2 (by decide)
    have hae : e ≠ a := fun z => by
      obtain ⟨o2, e2, c2, _⟩ := hT0
      rw [← z, he] at e2
      cases e2
      exact absurd (show Value.type "enumerate" = Value.type "tuple" from c2) (by decide)
    have D := Draws.tuple (prog := X.prog) (w := X.w) (A := X.A.in1) (I.ok.hd hc) it a hai its.toArray
    have hlt : i < its.toArray.size := by
      have := (List.getElem?_eq_some_iff.mp hu).1
      simpa using this
    refine wpAny_pyNext_enum_itemC (c := k0 + ((i : Nat) : Int)) D he ⟨hit, hT0⟩ hlt hne (by simp [hne, hae]) fun y h' tk hy ho hit' hT hsz hk => ?_
    have hyu : y = u := by
      have hy' : its.toArray[i]? = some y := hy
      have h1 : its[i]? = some y := by simpa using hy'
      rw [hu] at h1
      exact (Option.some.inj h1).symm
    subst hyu
    refine ⟨_, rfl, wpAny_letOwnedTupleGo_enum (s := { s with heap := h', toks := tk + 1 }) ho fun h'' he' sb => ?_⟩
    have hT2 : h''.get? s.heap.objs.size = some { cls := .type "tuple", data := .seq #[.int (k0 + ((i : Nat) : Int)) tk, y] } := (sb.2 _ (Nat.ne_of_gt hel)).trans hT
    have new : ObjOk X.prog X.w (upd H s.heap.objs.size (.tup [.int (k0 + (i : Nat)), x])) h'' s.heap.objs.size (.tup [.int (k0 + (i : Nat)), x]) :=
      ⟨by show 2 ≤ sizeLine; decide, [.int (k0 + ((i : Nat) : Int)) tk, y], .cons ⟨_, rfl⟩ (.cons ru .nil), ⟨_, hT2, rfl, _, rfl⟩⟩
    have I1 : Inv X pins σ (upd H s.heap.objs.size (.tup [.int (k0 + (i : Nat)), x])) { s with heap := h'', toks := tk + 1 } :=
      I.turnedNew (ch := [e, it]) (fun b ob hb q => (sb.2 b (fun z => hb (by simp [z]))).trans (hk b ob (fun z => hb (by simp [z])) (fun z => hb (by simp [z])) q)) hf (Nat.le_refl _) new
    refine ⟨.ref s.heap.objs.size, _, I1, rfl, ⟨_, x, rfl, I.hok.fresh (Nat.le_refl _), rfl, fun ys hy => by rw [I.tuple_inj hy hq]; exact hx⟩, ⟨⟨y, ?_⟩, hit'.1.at fun o q => (sb.2 it (Ne.symm hne)).trans q, hne, ?_⟩, fun b hb => ?_⟩
    · have e1 : k0 + ((i + 1 : Nat) : Int) = k0 + (i : Int) + 1 := by omega
      rw [e1]; exact he'
    · have := (List.getElem?_eq_some_iff.mp hx).1
      omega
    · have hb' : b < s.heap.objs.size := by
        have e' : b = e ∨ b = it := by simpa using hb
        rcases e' with z | z
        · rw [z]; exact hel
        · rw [z]; exact hil
      rw [upd_ne (Nat.ne_of_lt hb')]
      exact (hf b hb).1
  done := by
    intro X hP hw hK hc i pins s σ H E I hf st hg
    subst hP hw hK
    obtain ⟨⟨old, he⟩, hit, hne, hin⟩ := st
    obtain ⟨xs, hq, hxn, hx⟩ := hg
    obtain ⟨its, rv, p, hz⟩ := I.tuple hq
    obtain ⟨f0, f1, f2, f3, f4, f5⟩ := hf it (by simp)
    have hl := rv.length
    have hT0 : s.heap.IsTuple a its.toArray := p
    have hai : a ≠ it := fun z => by
      obtain ⟨o1, e1, c1, _⟩ := hit
      obtain ⟨o2, e2, c2, _⟩ := hT0
      rw [z, e1] at e2
      cases e2
      rw [c1] at c2
      exact absurd c2 (by decide)
    have D := Draws.tuple (prog := X.prog) (w := X.w) (A := X.A.in1) (I.ok.hd hc) it a hai its.toArray
    have hn : its.toArray.size = i := by
      rw [List.size_toArray]
      omega
    refine wpAny_pyNext_enum_endD D he (by rw [hn]; exact ⟨hit, hT0⟩) fun h' eb => ⟨rfl, I.turned (t' := s.toks) (fun b o hb q => eb b o hb q) f0 f1 f3 f4 f5⟩
  self := fun A i s Q E st h => let ⟨⟨_, he⟩, _⟩ := st; wpAny_pyIter_enum he h
def iEnumT (K : PySem.W.Frag) (ta : TA) : TI := fun σ H R => ta σ H fun vs H1 => ∃ a xs k0, vs = [.ref a, .int k0] ∧ SqT K H1 a xs ∧ (-9223372036854775808 ≤ k0 ∧ k0 < 9223372036854775808) ∧ R (Itf K a k0 xs.length) H1
theorem pi_enumT {X : Cx} {e f : Expr} {ta : TA} {p pos tpos : Pos} {elts : List Expr} {kk : Nat} (hg : Gl X "enumerate") (hm : X.mg "enumerate" = none) (ha : PA X [e, f] ta) (hs : starEach [e, f] X.env = (false, eval e X.env) :: starEach [f] X.env := by rfl) (hpl : (backTo pos (starEach [f] X.env)).any (·.1) = false := by rfl) :
    PI X (.Tuple elts kk tpos) (.Call (.Name "enumerate" p) [e, f] [] pos) (iEnumT X.K ta) := by
  refine ⟨fun pins s σ H R I h => ?_⟩
  refine Call_ (ld_blt I hg hm boot_enumerate (PyProof.Rows.callWith_type1 (thn (ha.run pos pins s σ H _ I h) fun us s1 ⟨vs, H1, I1, r1, q1⟩ => ?_) hs hpl))
  obtain ⟨a, xs, k0, ex, hq, hk0, q⟩ := q1
  subst ex
  cases r1 with
  | cons r rr =>
    cases rr with
    | cons r2 rr =>
      cases rr
      cases r
      obtain ⟨t, rfl⟩ := r2
      obtain ⟨its, rv, p', hz⟩ := I1.tuple hq
      refine enum_begins (begins_tuple a its.toArray) (show s1.heap.IsTuple a its.toArray from p') (by have := hk0.1; omega) (by have := hk0.2; omega) fun h' he hit hsz hk => wpAny_pyIter_enum he ?_
      have I2 : Inv X pins σ H1 { s1 with heap := h' } := I1.kept (t' := s1.toks) hk
      refine ⟨s1.heap.objs.size + 1, [s1.heap.objs.size + 1, s1.heap.objs.size], _, _, H1, rfl, I2, turn_enumT a (s1.heap.objs.size + 1) s1.heap.objs.size k0 xs.length, ⟨⟨.none, by rw [show k0 + ((0 : Nat) : Int) = k0 by omega]; exact he⟩, ⟨_, hit, rfl, rfl⟩, Nat.succ_ne_self _, Nat.zero_le _⟩, fun b hb => ?_, q⟩
      have e' : b = s1.heap.objs.size + 1 ∨ b = s1.heap.objs.size := by simpa using hb
      have hle : s1.heap.objs.size ≤ b := by
        rcases e' with z | z
        · rw [z]; exact Nat.le_add_right _ _
        · rw [z]; exact Nat.le_refl _
      exact I1.fpOk hle (I1.hok.fresh hle)
def enumK (k0 : Int) (ds : List D) : List D := (List.range ds.length).map fun (i : Nat) => D.tup [.int (k0 + (i : Int)), ds.getD i .non]
theorem enumK_len {k0 : Int} {ds : List D} : (enumK k0 ds).length = ds.length := by
  unfold enumK
  rw [List.length_map, List.length_range]
theorem enumK_get {k0 : Int} {ds : List D} {i : Nat} {d : D} (h : ds[i]? = some d) : (enumK k0 ds)[i]? = some (.tup [.int (k0 + (i : Int)), d]) := by
  unfold enumK
  have hi := (List.getElem?_eq_some_iff.mp h).1
  rw [List.getElem?_map, List.getElem?_range hi]
  show some (D.tup [.int (k0 + (i : Int)), ds.getD i .non]) = _
  rw [List.getD_eq_getElem?_getD, h]
  rfl
section
variable {X : Cx} {F0 : Hp} {Γ : Gm} {L : Lg} {k : D → Lg → Prop} {a b : Expr} {p pos tpos p2 : Pos} {elts es : List Expr} {kk x1 : Nat}
theorem ei_enumT {kl : List D → Lg → Prop} (hm : X.mg "enumerate" = none) (hg : Gl X "enumerate") (h : EvK X F0 a Γ L fun x L1 => EvK X F0 b Γ L1 fun y L2 => ∃ ds k0, x = .tup ds ∧ y = .int k0 ∧ (-9223372036854775808 ≤ k0 ∧ k0 < 9223372036854775808) ∧ kl (enumK k0 ds) L2)
    (hs : starEach [a, b] X.env = (false, eval a X.env) :: starEach [b] X.env := by rfl) (hs2 : starEach [b] X.env = (false, eval b X.env) :: starEach [] X.env := by rfl) (hpl : (backTo pos (starEach [b] X.env)).any (·.1) = false := by rfl) :
    EiK X F0 (.Tuple elts kk tpos) (.Call (.Name "enumerate" p) [a, b] [] pos) Γ L kl := fun F σ H R E q =>
  wpI.of (pi_enumT hg hm (pa_cons we (pa_cons we pa_nil hs2) hs) hs hpl) (h F σ H _ E fun x L1 F1 v H1 h1 E1 s1 r1 => h1 F1 σ H1 _ E1 fun y L2 F2 u H2 ⟨ds, k0, e1, e2, hk0, h2⟩ E2 s2 r2 => by
    subst e1 e2
    cases r2
    have r1' := r1.mono s2
    cases r1' with
    | tup hx rx =>
      rename_i p xs
      refine ⟨p, xs, k0, rfl, seqT E2.led.sub hx, hk0, q _ L2 F2 H2 _ h2 E2 (s1.trans s2) ⟨?_, ?_, ?_⟩⟩
      · intro i H F' L' hi s l
        have hi' : i < xs.length := by rw [← rx.length]; rw [enumK_len] at hi; exact hi
        exact ⟨xs, xs[i], seqT (s.trans l.sub) hx, rfl, List.getElem?_eq_getElem hi'⟩
      · rintro i H x H' F' L' s l ⟨T, y, rfl, hT, rfl, hy⟩ hi
        have hx' := hy xs (seqT (s.trans l.sub) hx)
        obtain ⟨d, hd, rd⟩ := rx.got hx'
        have s2 : Same F' (upd F' T (.tup [.int (k0 + (i : Nat)), y])) := same_new (l.free hT)
        exact ⟨.tup [.int (k0 + (i : Int)), d], _, enumK_get hd, s2, l.new hT, .tup (.inl (.inl upd_same)) (.cons .int (.cons (rd.mono (s.trans s2)) .nil))⟩
      · intro i H F' L' hi s l
        exact ⟨xs, seqT (s.trans l.sub) hx, rfl, by rw [← rx.length]; rw [enumK_len] at hi; exact hi⟩)
end
/-! ### tuple * int -/
section
variable {X : Cx}
theorem tuple_mul1W (l : Addr) (items : Array Value) (n : Nat) (dd : Option Addr) (sl : Array (Option Value)) (u : Tok) :
    Meets (Builtin.«tuple.__mul__» ⟨[.ref l, .int 1 u], []⟩) (fun _ R s => s.heap.get? l = some { cls := .type "tuple", dict := dd, data := .seq items n, slots := sl } ∧ R (.ok (.ret (Value.ref l))) s) :=
  .of_wp fun prog w A R s h => by
    obtain ⟨hp, g, d, tk, os⟩ := s
    obtain ⟨hl, h⟩ := h
    have f1 := AutoSeq1.idx_int
    have c0 : (decide ((1 : Int) < -(2 ^ 63)) || decide ((1 : Int) ≥ 2 ^ 63)) = false := by decide
    have c1 : (items.isEmpty || (1 : Int) == 1) = true := by rw [show ((1 : Int) == 1) = true from rfl, Bool.or_true]
    wp_walk using wpAny_loadPart' hl
    repeat (first
      | (refine wpAny_ite_false (decide_eq_false (by rw [c0]; exact Bool.false_ne_true)) ?_; wp_walk using wpAny_loadPart' hl)
      | (refine wpAny_ite_true (decide_eq_true c1) ?_; wp_walk using wpAny_loadPart' hl))
    exact ⟨_, rfl, h⟩
def rRepT1 (K : PySem.W.Frag) : R2 := fun x y H Q => ∃ l k xs, x = .ref l ∧ y = .int k ∧ SqT K H l xs ∧ xs ≠ [] ∧ 1 ≤ k ∧ k ≤ 1000 ∧ xs.length ≤ 1000 ∧ (k = 1 → Q (.ref l) H) ∧ (k ≠ 1 → ∀ p, H p = none → Q (.ref p) (upd H p (.tup (List.replicate k.toNat xs).flatten)))
theorem op_repT1 : OpR X (binaryOp .Mult) (rRepT1 X.K) := by
  intro pins s σ H x y v u Q I rx ry h
  obtain ⟨l, k, xs, rfl, rfl, hT, hne, h1, h2, hz, q1, q2⟩ := h
  by_cases hk : k = 1
  · subst hk
    cases rx
    obtain ⟨t, rfl⟩ := ry
    obtain ⟨its, r, ⟨⟨cls, dd, data, sl⟩, ho, hc, n, hd⟩, hs⟩ := I.tuple hT
    simp only at hc hd
    subst hc hd
    refine wpAny_binaryOp_repeat_ref (T := "tuple") (U := "int") (by decide) ⟨_, ho, rfl⟩ (fun s' => typeIs_int s' 1 t) noFill_tuple_mul F.fills_int_mul F.slot_int_rmul repeat_tuple F.slot_int_index.lookup
      (call_meets F.slot_int_rmul (typeIs_int s 1 t) F.entry_int_rmul (F.args_int_rmul_2 _ _) (int_rmul_tuple 1 t l its.toArray n dd sl)
        ⟨ho, rfl, ⟨_, ho, rfl⟩, call_meets F.slot_tuple_mul ⟨_, ho, rfl⟩ F.entry_tuple_mul (F.args_tuple_mul_2 _ _) (tuple_mul1W l its.toArray n dd sl t) ⟨ho, ?_⟩⟩)
    exact ⟨.ref l, H, I, rfl, q1 rfl⟩
  · exact op_repT pins s σ H (.ref l) (.int k) v u Q I rx ry ⟨l, k, xs, rfl, rfl, hT, hne, by omega, h2, hz, q2 hk⟩
end
section
variable {X : Cx} {F0 : Hp} {Γ : Gm} {L : Lg} {k : D → Lg → Prop} {a b : Expr} {pos : Pos}
/-- a * b, a a tuple that is not empty -/
theorem ek_repT (h : EvK X F0 a Γ L fun x L1 => EvK X F0 b Γ L1 fun y L2 => ∃ ds n, x = .tup ds ∧ y = .int n ∧ (0 < ds.length ∧ ds.length ≤ 1000 ∧ 1 ≤ n ∧ n ≤ 1000) ∧ k (.tup (List.replicate n.toNat ds).flatten) L2) :
    EvK X F0 (.BinOp a .Mult b pos) Γ L k := fun F σ H Q E q =>
  wpE.of (pe_op op_repT1 we we) (h F σ H _ E fun x L1 F1 v H1 h1 E1 s1 r1 => h1 F1 σ H1 _ E1 fun y L2 F2 u H2 ⟨ds, n, e1, e2, ⟨b1, b2, b3, b4⟩, h2⟩ E2 s2 r2 => by
    subst e1 e2
    cases r2
    have r1' := r1.mono s2
    cases r1' with
    | tup hx rx =>
      rename_i p xs
      have hl := rx.length
      refine ⟨p, n, xs, rfl, rfl, seqT E2.led.sub hx, fun z => by rw [z] at hl; simp at hl; rw [hl] at b1; exact Nat.lt_irrefl _ b1, b3, b4, by omega, fun hn => ?_, fun hn m hm => ?_⟩
      · subst hn
        have e : (List.replicate (1 : Int).toNat ds).flatten = ds := by simp
        rw [e] at h2
        exact q _ L2 F2 _ H2 h2 E2 (s1.trans s2) (.tup hx rx)
      · have s4 : Same F2 (upd F2 m (.tup (List.replicate n.toNat xs).flatten)) := same_new (E2.led.free hm)
        exact q _ L2 _ _ _ h2 (E2.new hm) (s1.trans (s2.trans s4)) (.tup (.inl (.inl upd_same)) ((rx.mono s4).rep n.toNat))) 
end
/-! ### isinstance(x, (A, B)) -/
section
variable {X : Cx}
theorem call_isiTQ : CallR X (.builtin "isinstance") (fun xs H Q => ∃ (x : V) (tp : Addr) (cs : List V) (t : Value) (us : List Value) (b : Bool), xs = [x, .ref tp] ∧ SqT X.K H tp cs ∧ Paired ClsV cs us ∧ TyX X.K H x t ∧ PySem.W.kitAny X.K t us = some b ∧ Q (.bl b) H) := by
  intro pins s σ H xs us Q I r h
  obtain ⟨x, tp, cs, t, ws, b, rfl, hT, k, ty, e, q⟩ := h
  obtain ⟨u1, u2, rfl, r1, r2⟩ := vals2 r
  cases (show u2 = Value.ref tp from r2)
  obtain ⟨P, Z, p, hx⟩ := kit_of I r1 ty
  obtain ⟨its, rv, ⟨o, h1, h2, n, h3⟩, _⟩ := I.tuple hT
  have e3 := ClsV.all k rv
  subst e3
  obtain ⟨oc, od, dt, sl⟩ := o
  simp only at h2 h3
  subst h2 h3
  exact PySem.W.kia_tup Z I.kIn p h1 e hx fun tk => ⟨.bl b, H, I.tok tk, rfl, q⟩
end
/-- which of some types' names: the answer of isinstance with a tuple -/
inductive KitsB (t : String) : List String → Bool → Prop
  | nil : KitsB t [] false
  | yes {n : String} {ns : List String} : kitB t n = some true → KitsB t (n :: ns) true
  | no {n : String} {ns : List String} {r : Bool} : kitB t n = some false → KitsB t ns r → KitsB t (n :: ns) r
theorem KitsB.any {K : PySem.W.Frag} {t : String} {ns : List String} {r : Bool} (h : KitsB t ns r) : PySem.W.kitAny K (.type t) (ns.map Value.type) = some r := by
  induction h with
  | nil => exact kitAny_nil
  | yes h => exact kitAny_cons (kit_ty h) (fun z => nomatch z) (fun _ => rfl)
  | no h _ ih => exact kitAny_cons (kit_ty h) (fun _ => ih) (fun z => nomatch z)
theorem clsD_tys : ∀ {ns : List String}, Paired ClsD (ns.map D.ty) (ns.map Value.type)
  | [] => .nil
  | _ :: _ => .cons .ty clsD_tys
section
variable {X : Cx} {F0 : Hp} {Γ : Gm} {L : Lg} {k : D → Lg → Prop} {a b : Expr} {pos : Pos}
theorem ek_isiT {p : Pos} (hm : X.mg "isinstance" = none) (hg : Gl X "isinstance") (h : EvK X F0 a Γ L fun x L1 => EvK X F0 b Γ L1 fun y L2 => ∃ t ns r, TyD L2 x t ∧ y = .tup (ns.map D.ty) ∧ KitsB t ns r ∧ k (.bl r) L2)
    (he : starEach [a, b] X.env = (false, eval a X.env) :: starEach [b] X.env := by rfl) (he2 : starEach [b] X.env = (false, eval b X.env) :: starEach [] X.env := by rfl) (hpl : (backTo pos (starEach [b] X.env)).any (·.1) = false := by rfl) :
    EvK X F0 (.Call (.Name "isinstance" p) [a, b] [] pos) Γ L k :=
  ek_cb call_isiTQ hm boot_isinstance (P := fun ds L1 kk => ∃ x t ns r, ds = [x, .tup (ns.map D.ty)] ∧ TyD L1 x t ∧ KitsB t ns r ∧ kk (.bl r))
    (fun F L' σ H ds vs kk Q E r ⟨x, t, ns, rr, e1, ht, hk, hq⟩ q => by
      subst e1
      obtain ⟨v, v', rfl, r1, r2⟩ := reps2 r
      cases r2 with
      | tup hx rx => exact ⟨v, _, _, .type t, ns.map Value.type, rr, rfl, seqT E.led.sub hx, ClsD.vs clsD_tys rx, ht.tyx E.led r1, hk.any, q _ F _ H hq E (Same.refl F) .bl⟩)
    (ea_cons (fun F σ H Q E q => h F σ H Q E fun x L1 F1 v H1 h1 E1 s1 r1 => q x L1 F1 v H1 (ea_cons (fun F σ H Q E q => h1 F σ H Q E fun y L2 F2 u H2 ⟨t, n, rr, h2, e2, h3, h4⟩ E2 s2 r2 => q y L2 F2 u H2 (ea_nil ⟨x, t, n, rr, by rw [e2], h2, h3, h4⟩) E2 s2 r2) he2) E1 s1 r1) he) hg (he := he) (hpl := hpl)
/-- int(b) -/
theorem ek_intB {p : Pos} (hm : X.mg "int" = none) (hg : Gl X "int") (h : EvK X F0 a Γ L fun x L1 => ∃ b, x = .bl b ∧ k (.int (if b then 1 else 0)) L1)
    (he : starEach [a] X.env = (false, eval a X.env) :: starEach [] X.env := by rfl) : EvK X F0 (.Call (.Name "int" p) [a] [] pos) Γ L k :=
  ek_ct call_int1 hm PySem.Pv.boot_int (P := fun ds L1 kk => ∃ b : Bool, ds = [.bl b] ∧ kk (.int (if b then 1 else 0)))
    (fun F L' σ H ds vs kk Q E r ⟨b, e1, hk⟩ q => by
      subst e1
      obtain ⟨v, rfl, r1⟩ := reps1 r
      cases r1
      exact .inr ⟨b, rfl, q _ F _ H hk E (Same.refl F) .int⟩)
    (ea_cons (fun F σ H Q E q => h F σ H Q E fun d L' F' v H' ⟨b, h1, h2⟩ E' s r => q d L' F' v H' (ea_nil ⟨b, by rw [h1], h2⟩) E' s r) he) hg (he := he)
end
end Vs

set_option Elab.async false
set_option linter.all false
set_option maxRecDepth 100000
set_option maxHeartbeats 4000000
namespace Vs
open PySem PySem.Spec PyProof.Rows L2
/-- a tuple of texts of the module -/
structure GTupS (K : PySem.W.Frag) (mg : Str → Option Value) (x : Str) (ys : List Str) : Prop where
  ex : ∃ t, mg x = some (.ref t) ∧ (∃ o, K.lookup t = some o ∧ o.cls = .type "tuple" ∧ o.dict = none) ∧ ∀ H, SqT K H t (ys.map V.str)
theorem reps_strs {K : PySem.W.Frag} {F : Hp} : ∀ {ys : List Str}, Reps K F (ys.map D.str) (ys.map V.str)
  | [] => .nil
  | _ :: _ => .cons .str reps_strs
theorem GTupS.go {K : PySem.W.Frag} {mg : Str → Option Value} {x : Str} {ys : List Str} (g : GTupS K mg x ys) : GObj K mg x (.tup (ys.map D.str)) := by
  obtain ⟨t, hm, _, hS⟩ := g.ex
  exact ⟨t, hm, fun F => .tup (hS F) reps_strs⟩
/-! ### len(set(xs)), xs a list of numbers -/
/-- a set that was made, by its size -/
def SetN (a : Addr) (n : Nat) : HO := .ext fun h => ∃ (o : Obj) (es : Array (Int × Value)) (ep : Nat) (t : SetTable), h.get? a = some o ∧ o.ExactSet ∧ o.data = .set es ep t ∧ t.fits es.size = true ∧ es.size = n
/-- how many unlike ones -/
def cardI (ns : List Int) : Nat := (firstMet (fun i => ns.getD i 0) ns.length).length
section
variable {X : Cx}
theorem cr_setL (hc : X.calm = true) : CallR X (.type "set") (fun xs H Q => ∃ p ns, xs = [.ref p] ∧ SqL X.K H p (ns.map V.int) ∧ ns.length ≤ 1000 ∧ ∀ a, H a = none → Q (.ref a) (upd H a (SetN a (cardI ns)))) := by
  intro pins s σ H xs us Q I r h
  obtain ⟨p, ns, rfl, hq, hl, q⟩ := h
  obtain ⟨u, rfl, ru⟩ := vals1 r
  cases (show u = Value.ref p from ru)
  obtain ⟨its, rv, pl, hz⟩ := I.list hq
  have hlen : its.toArray.size = ns.length := by
    have := rv.length
    rw [List.length_map] at this
    rw [List.size_toArray]
    exact this.symm
  refine call_set_list (I.ok.hd hc) pl.isList (ns := ns) (by have := intsAre_of rv; simpa using this) (by rw [hlen]; unfold scanBound; omega) fun h' tk hS hk => ?_
  obtain ⟨o, es, ep, t, ho, hex, hd, hE, hm, hb, hf, hn⟩ := hS
  have new : ObjOk X.prog X.w (upd H s.heap.objs.size (SetN s.heap.objs.size (cardI ns))) h' s.heap.objs.size (SetN s.heap.objs.size (cardI ns)) :=
    ⟨⟨o, es, ep, t, ho, hex, hd, hf, by rw [hn, hlen]; rfl⟩, ⟨o, ho⟩, fun _ _ ⟨o, es, ep, t, r1, r2⟩ k => ⟨o, es, ep, t, k o r1, r2⟩⟩
  have I1 := I.laid (t' := tk) (fun b u e => hk b u (Heap.lt_size e) e) (Nat.le_refl _) new
  exact ⟨.ref s.heap.objs.size, _, I1, rfl, q _ (I.hok.fresh (Nat.le_refl _))⟩
theorem cr_lenS : CallR X (.builtin "len") (fun xs H Q => ∃ a n, xs = [.ref a] ∧ H a = some (SetN a n) ∧ n ≤ 100000 ∧ Q (.int (n : Nat)) H) := by
  intro pins s σ H xs us Q I r h
  obtain ⟨a, n, rfl, ha, hn, q⟩ := h
  obtain ⟨u, rfl, ru⟩ := vals1 r
  cases (show u = Value.ref a from ru)
  obtain ⟨⟨o, es, ep, t, ho, hex, hd, hf, hs⟩, _⟩ := (show ObjOk X.prog X.w H s.heap a (SetN a n) from I.hok a _ ha)
  refine call_len_set ho hex hd hf (by omega) ?_
  rw [hs]
  exact ⟨.int (n : Nat), H, I.tok _, ⟨_, rfl⟩, q⟩
end
theorem firstMet_mem {val : Nat → Int} {k : Int} : ∀ {i : Nat}, k ∈ firstMet val i ↔ ∃ j, j < i ∧ val j = k := fun {i} => by
  have h := firstMet_any val i k
  have e1 : (firstMet val i).any (· == k) = true ↔ k ∈ firstMet val i := by simp
  have e2 : ((List.range i).map val).any (· == k) = true ↔ ∃ j, j < i ∧ val j = k := by simp
  rw [← e1, h, e2]
theorem cardI_nodup {ns : List Int} (h : ns.Nodup) : cardI ns = ns.length := by
  have key : ∀ i, i ≤ ns.length → (firstMet (fun i => ns.getD i 0) i).length = i := fun i => by
    induction i with
    | zero => intro _; rfl
    | succ i ih =>
      intro hi
      rw [firstMet_succ, step_length, ih (by omega), if_neg]
      intro z
      have hm : ns.getD i 0 ∈ firstMet (fun i => ns.getD i 0) i := by simpa using z
      obtain ⟨j, hj, e⟩ := firstMet_mem.mp hm
      rw [List.getD_eq_getElem?_getD, List.getD_eq_getElem?_getD, List.getElem?_eq_getElem (by omega), List.getElem?_eq_getElem (by omega)] at e
      have := (List.getElem_inj (i := j) (j := i) (h₀ := by omega) (h₁ := by omega) h).mp e
      omega
  exact key _ (Nat.le_refl _)
theorem cardI_le {ns : List Int} : cardI ns ≤ ns.length := firstMet_length_le _ _
theorem cardI_dup {ns : List Int} (h : ¬ ns.Nodup) : cardI ns < ns.length := by
  refine Nat.lt_of_le_of_ne cardI_le fun e => h ?_
  have key : ∀ i, i ≤ ns.length → (firstMet (fun i => ns.getD i 0) i).length = i → ∀ a b, a < b → b < i → ns.getD a 0 ≠ ns.getD b 0 := fun i => by
    induction i with
    | zero => intro _ _ a b _ h; omega
    | succ i ih =>
      intro hi hl a b hab hbi
      have hle := firstMet_length_le (fun i => ns.getD i 0) i
      rw [firstMet_succ, step_length] at hl
      by_cases hany : (firstMet (fun i => ns.getD i 0) i).any (· == ns.getD i 0) = true
      · rw [if_pos hany] at hl
        omega
      · rw [if_neg hany] at hl
        by_cases hb : b < i
        · exact ih (by omega) (by omega) a b hab hb
        · have : b = i := by omega
          subst this
          intro z
          exact hany (by
            rw [List.any_eq_true]
            exact ⟨_, firstMet_mem.mpr ⟨a, hab, rfl⟩, by simpa using z⟩)
  have k2 := key _ (Nat.le_refl _) e
  rw [List.nodup_iff_pairwise_ne, List.pairwise_iff_getElem]
  intro a b ha hb hab
  have := k2 a b hab hb
  rw [List.getD_eq_getElem?_getD, List.getD_eq_getElem?_getD, List.getElem?_eq_getElem ha, List.getElem?_eq_getElem hb] at this
  exact this
section
variable {X : Cx} {F0 : Hp} {Γ : Gm} {L : Lg} {k : D → Lg → Prop} {kg : Gm → Lg → Prop} {a b o e : Expr} {pos p p2 cpos apos : Pos}
theorem ek_lenset (hc : X.calm = true) (hm : X.mg "len" = none) (hg : Gl X "len") (hm2 : X.mg "set" = none) (hg2 : Gl X "set") (h : EvK X F0 a Γ L fun x L1 => ∃ ns : List Int, AsL L1 x (dI ns) ∧ ns.length ≤ 1000 ∧ k (.int (cardI ns : Nat)) L1)
    (he : starEach [a] X.env = (false, eval a X.env) :: starEach [] X.env := by rfl) (hp : (backTo cpos (starEach [] X.env)).any (·.1) = false := by rfl) (he2 : starEach [.Call (.Name "set" p2) [a] [] cpos] X.env = (false, eval (.Call (.Name "set" p2) [a] [] cpos) X.env) :: starEach [] X.env := by rfl) (hp2 : (backTo pos (starEach [] X.env)).any (·.1) = false := by rfl) :
    EvK X F0 (.Call (.Name "len" p) [.Call (.Name "set" p2) [a] [] cpos] [] pos) Γ L k := fun F σ H Q E q =>
  wpE.of (pe_callB cr_lenS hg hm (by decide +kernel) (pa_cons (pe_callTy (cr_setL hc) hg2 hm2 (by decide +kernel) (pa_cons we pa_nil he) (by decide) (by decide) he hp) pa_nil he2) (by decide) (by decide) he2 hp2)
    (h F σ H _ E fun x L1 F1 v H1 ⟨ns, as, hl, h1⟩ E1 s1 r1 => by
      obtain ⟨p, xs, rfl, hx, rx⟩ := as.read E1.led r1
      have e := il_reps rx
      subst e
      exact ⟨p, ns, rfl, hx, hl, fun a ha => ⟨a, cardI ns, rfl, upd_same, by have := cardI_le (ns := ns); omega, q _ L1 _ _ _ h1 (E1.new ha) (s1.trans (same_new (E1.led.free ha))) .int⟩⟩)
/-- NAME.index(x), NAME a tuple of texts of the module -/
theorem ek_tupIndex {nm : Str} {ys : List Str} (g : GTupS X.K X.mg nm ys) (hgl : Gl X nm) (h : EvK X F0 e Γ L fun y L2 => ∃ (z : Str) (j : Nat), y = .str z ∧ ys[j]? = some z ∧ (∀ m, m < j → ys[m]? ≠ some z) ∧ k (.int (j : Int)) L2)
    (hd : (nm == ("__debug__" : Str)) = false := by decide)
    (hbase : attributeBase (.Name nm p2) "index" X.env (eval (.Name nm p2) X.env) = eval (.Name nm p2) X.env := by rfl)
    (hfew : ((backTo cpos (starEach [e] X.env)).all (fun x => !x.1) && (backToKw cpos (keywordEach [] X.env)).all (fun x => x.1.isSome)
      && decide (([e] : List Expr).length + ([] : List Keyword).length + (if ([] : List Keyword).isEmpty then 0 else 1) < 30)) = true := by rfl)
    (hline : (apos.endLine == cpos.line) = true := by rfl) (hs : starEach [e] X.env = (false, eval e X.env) :: starEach [] X.env := by rfl) (hplain : (backTo cpos (starEach [] X.env)).any (·.1) = false := by rfl) :
    EvK X F0 (.Call (.Attribute (.Name nm p2) "index" apos) [e] [] cpos) Γ L k := fun F σ H Q E q => by
  obtain ⟨t, hm, ho, hS⟩ := g.ex
  exact wpE.of (pe_bm PySem.F.plainAttrs_tuple PySem.F.slot_tuple_index PySem.F.type_tuple_index mt_tup_index (pe_glob hgl hm (v := .ref t) rfl hd) (pa_cons we pa_nil hs) hbase hfew hline hs hplain)
    ⟨.inr (.inl ⟨rfl, ho⟩), h F σ H _ E fun y L2 F2 u H2 ⟨z, j, e2, hj, hno, h2⟩ E2 s2 r2 => by
      subst e2
      cases r2
      exact ⟨t, ys, z, j, rfl, rfl, hS H2, hj, hno, q _ L2 F2 _ H2 h2 E2 s2 .int⟩⟩
theorem tg_lst {es : List Expr} {kk n : Nat} {d : D} (hc : X.calm = true) (h : ∃ ds, d = .lst ds ∧ ds.length = n ∧ TnK X F0 es ds Γ L kg) (hn : (assignEach es X.env).length = n := by rfl) (hst : (assignEach es X.env).findIdx? (·.1) = none := by rfl) :
    TgK X F0 (.Tuple es kk pos) d Γ L kg := fun F σ H v Q E r q => by
  obtain ⟨ds, rfl, hl, h⟩ := h
  cases r with
  | lst hx rx => exact wpG.of (pg_lst hc wgs hn hst) ⟨_, _, rfl, E.led.sub.seq hx, by rw [← rx.length]; exact hl, h F σ H _ Q E rx q⟩
end
/-! ### x in xs, texts -/
theorem inV_strs {z : Str} : ∀ {ys : List Str}, inV (.str z) (ys.map V.str) = decide (z ∈ ys)
  | [] => by simp [inV]
  | n :: ns => by
    have ih := inV_strs (z := z) (ys := ns)
    unfold inV at ih ⊢
    rw [List.map_cons, List.any_cons, ih]
    show ((n == z) || decide (z ∈ ns)) = decide (z ∈ n :: ns)
    by_cases h : n = z
    · subst h; simp
    · have h2 : ¬ z = n := fun w => h w.symm
      simp [h, h2]
theorem sl_reps {K : PySem.W.Frag} {F : Hp} : ∀ {ys : List Str} {vs : List V}, Reps K F (ys.map D.str) vs → vs = ys.map V.str
  | [], _, .nil => rfl
  | _ :: _, _, .cons .str t => congrArg (_ :: ·) (sl_reps t)
section
variable {X : Cx} {F0 : Hp} {Γ : Gm} {L : Lg} {k : D → Lg → Prop} {kt : Bool → Lg → Prop} {a b : Expr} {pos : Pos}
theorem rd_inS {neg : Bool} (h : EvK X F0 a Γ L fun x L1 => ∃ z, x = .str z ∧ EvK X F0 b Γ L1 fun y L2 => ∃ ys : List Str, AsS L2 y (ys.map D.str) ∧ k (.bl (if neg then !decide (z ∈ ys) else decide (z ∈ ys))) L2) : RdK X F0 (tOp (rIn X.K neg) (wpE X a) (wpE X b)) Γ L k := fun F σ H Q E q =>
  h F σ H _ E fun x L1 F1 v H1 ⟨z, e1, h1⟩ E1 s1 r1 => h1 F1 σ H1 _ E1 fun y L2 F2 u H2 ⟨ys, as, h2⟩ E2 s2 r2 => by
    subst e1
    cases r1
    obtain ⟨p, xs, rfl, hx, rx⟩ := as.read E2.led r2
    have e := sl_reps rx
    subst e
    refine ⟨p, _, rfl, hx, rfl, flat_strs ys, ?_⟩
    rw [inV_strs]
    exact q _ L2 F2 _ H2 h2 E2 (s1.trans s2) .bl
theorem ek_inS (h : EvK X F0 a Γ L fun x L1 => ∃ z, x = .str z ∧ EvK X F0 b Γ L1 fun y L2 => ∃ ys : List Str, AsS L2 y (ys.map D.str) ∧ k (.bl (decide (z ∈ ys))) L2) (hm : behindInMarks .In b = false := by rfl) : EvK X F0 (.Compare a [.In] [b] pos) Γ L k := (rd_inS (neg := false) h).ev (pe_cmpR op_in_seq we we hm)
theorem ek_notinS (h : EvK X F0 a Γ L fun x L1 => ∃ z, x = .str z ∧ EvK X F0 b Γ L1 fun y L2 => ∃ ys : List Str, AsS L2 y (ys.map D.str) ∧ k (.bl (!decide (z ∈ ys))) L2) (hm : behindInMarks .NotIn b = false := by rfl) : EvK X F0 (.Compare a [.NotIn] [b] pos) Γ L k := (rd_inS (neg := true) h).ev (pe_cmpR op_notIn_seq we we hm)
theorem et_inS (h : EvK X F0 a Γ L fun x L1 => ∃ z, x = .str z ∧ EvK X F0 b Γ L1 fun y L2 => ∃ ys : List Str, AsS L2 y (ys.map D.str) ∧ ∃ t, D.bl (decide (z ∈ ys)) = .bl t ∧ kt t L2) (hm : behindInMarks .In b = false := by rfl) : EtK X F0 (.Compare a [.In] [b] pos) Γ L kt := (rd_inS (neg := false) (k := fun d L2 => ∃ t, d = .bl t ∧ kt t L2) h).tst (pt_cmpR op_in_seq we we hm)
theorem et_notinS (h : EvK X F0 a Γ L fun x L1 => ∃ z, x = .str z ∧ EvK X F0 b Γ L1 fun y L2 => ∃ ys : List Str, AsS L2 y (ys.map D.str) ∧ ∃ t, D.bl (!decide (z ∈ ys)) = .bl t ∧ kt t L2) (hm : behindInMarks .NotIn b = false := by rfl) : EtK X F0 (.Compare a [.NotIn] [b] pos) Γ L kt := (rd_inS (neg := true) (k := fun d L2 => ∃ t, d = .bl t ∧ kt t L2) h).tst (pt_cmpR op_notIn_seq we we hm)
end
end Vs

set_option Elab.async false
set_option linter.all false
set_option maxRecDepth 100000
set_option maxHeartbeats 4000000
namespace Vs
open PySem PySem.Spec PyProof.Rows L2
/-! ### min, max, set of a tuple of numbers -/
section
variable {prog : Program} {w : World} {A : Around} {E : Value → Shared → Prop} {s : Shared}
theorem min_tupI {xs : Array (Int × Tok)} {l : Addr} {Q : Value → Shared → Prop} (hh : A.handled = none) (hl : s.heap.IsTuple l (intItems xs)) (hne : 0 < xs.size)
    (h : ∀ v h' tk, (intItems xs)[argBest (fun i j => decide (numAt xs i < numAt xs j)) (xs.size - 1)]? = some v → (∀ b o, s.heap.get? b = some o → h'.get? b = some o) → Q v { s with heap := h', toks := tk }) :
    wpAny (model prog w) A (call (.builtin "min") [.ref l]) Q E s := by
  refine call_min_walk (wpAny_pyIter_tuple hl ?_)
  have hlt : l < s.heap.objs.size := by obtain ⟨_, q, _⟩ := hl; exact Heap.lt_size q
  refine ⟨_, [_, l], [_], _, _, _, _, rfl, Walks.tuple (A := A.in1) hh _ l (Nat.ne_of_lt hlt) (intItems xs), ⟨⟨_, Heap.get?_push_size _ rfl, rfl, rfl⟩, hl.push _⟩, fun c hc => ?_, by simpa [intItems] using hne, CmpOf.ints_lt (numAt xs) (fun _ _ => intItems_at), fun v h' tk hP hk => ?_⟩
  · show c < (s.heap.push _).objs.size
    rw [Heap.size_push]
    rcases List.mem_cons.mp hc with rfl | hc
    · exact Nat.lt_succ_self _
    · rcases List.mem_cons.mp hc with rfl | hc
      · exact Nat.lt_succ_of_lt hlt
      · cases hc
  · exact h v h' tk (by simpa [intItems] using hP) (fun b o e => hk b o (fun hm => absurd (List.mem_singleton.mp hm ▸ Heap.lt_size e) (Nat.lt_irrefl _)) (Heap.get?_push_of_some _ e))
theorem max_tupI {xs : Array (Int × Tok)} {l : Addr} {Q : Value → Shared → Prop} (hh : A.handled = none) (hl : s.heap.IsTuple l (intItems xs)) (hne : 0 < xs.size)
    (h : ∀ v h' tk, (intItems xs)[argBest (fun i j => decide (numAt xs i > numAt xs j)) (xs.size - 1)]? = some v → (∀ b o, s.heap.get? b = some o → h'.get? b = some o) → Q v { s with heap := h', toks := tk }) :
    wpAny (model prog w) A (call (.builtin "max") [.ref l]) Q E s := by
  refine call_max_walk (wpAny_pyIter_tuple hl ?_)
  have hlt : l < s.heap.objs.size := by obtain ⟨_, q, _⟩ := hl; exact Heap.lt_size q
  refine ⟨_, [_, l], [_], _, _, _, _, rfl, Walks.tuple (A := A.in1) hh _ l (Nat.ne_of_lt hlt) (intItems xs), ⟨⟨_, Heap.get?_push_size _ rfl, rfl, rfl⟩, hl.push _⟩, fun c hc => ?_, by simpa [intItems] using hne, CmpOf.ints_gt (numAt xs) (fun _ _ => intItems_at), fun v h' tk hP hk => ?_⟩
  · show c < (s.heap.push _).objs.size
    rw [Heap.size_push]
    rcases List.mem_cons.mp hc with rfl | hc
    · exact Nat.lt_succ_self _
    · rcases List.mem_cons.mp hc with rfl | hc
      · exact Nat.lt_succ_of_lt hlt
      · cases hc
  · exact h v h' tk (by simpa [intItems] using hP) (fun b o e => hk b o (fun hm => absurd (List.mem_singleton.mp hm ▸ Heap.lt_size e) (Nat.lt_irrefl _)) (Heap.get?_push_of_some _ e))
theorem min_rawT {its : List Value} {ns : List Int} {l : Addr} {Q : Value → Shared → Prop} (hh : A.handled = none) (hl : s.heap.IsTuple l its.toArray) (hi : IntsAre its ns) (hne : 0 < ns.length)
    (h : ∀ h' tk M t', (∀ b o, s.heap.get? b = some o → h'.get? b = some o) → M ∈ ns → (∀ a, a ∈ ns → M ≤ a) → Q (.int M t') { s with heap := h', toks := tk }) : wpAny (model prog w) A (call (.builtin "min") [.ref l]) Q E s := by
  obtain ⟨xs, e⟩ := hi.allInts.items
  have hn : numsOf (intItems xs).toList = ns := by rw [← e]; exact hi.numsOf
  rw [nums_intItems] at hn
  subst hn
  rw [e] at hl
  have hsz : 0 < xs.size := by simpa using hne
  refine min_tupI hh hl hsz fun v h' tk hv hk => ?_
  obtain ⟨t, rfl⟩ := intItems_at hv
  obtain ⟨h1, h2⟩ := argBest_lt (numAt xs) (xs.size - 1)
  refine h h' tk _ t hk ?_ fun a ha => ?_
  · rw [numAt_eq]; exact PySem.getD_mem (by rw [List.length_map, Array.length_toList]; omega)
  · obtain ⟨j, hj, rfl⟩ := mem_getD ha
    rw [List.length_map, Array.length_toList] at hj
    rw [← numAt_eq]; exact h2 j (by omega)
theorem max_rawT {its : List Value} {ns : List Int} {l : Addr} {Q : Value → Shared → Prop} (hh : A.handled = none) (hl : s.heap.IsTuple l its.toArray) (hi : IntsAre its ns) (hne : 0 < ns.length)
    (h : ∀ h' tk M t', (∀ b o, s.heap.get? b = some o → h'.get? b = some o) → M ∈ ns → (∀ a, a ∈ ns → a ≤ M) → Q (.int M t') { s with heap := h', toks := tk }) : wpAny (model prog w) A (call (.builtin "max") [.ref l]) Q E s := by
  obtain ⟨xs, e⟩ := hi.allInts.items
  have hn : numsOf (intItems xs).toList = ns := by rw [← e]; exact hi.numsOf
  rw [nums_intItems] at hn
  subst hn
  rw [e] at hl
  have hsz : 0 < xs.size := by simpa using hne
  refine max_tupI hh hl hsz fun v h' tk hv hk => ?_
  obtain ⟨t, rfl⟩ := intItems_at hv
  obtain ⟨h1, h2⟩ := argBest_gt (numAt xs) (xs.size - 1)
  refine h h' tk _ t hk ?_ fun a ha => ?_
  · rw [numAt_eq]; exact PySem.getD_mem (by rw [List.length_map, Array.length_toList]; omega)
  · obtain ⟨j, hj, rfl⟩ := mem_getD ha
    rw [List.length_map, Array.length_toList] at hj
    rw [← numAt_eq]; exact h2 j (by omega)
end
section
variable {X : Cx}
theorem cr_maxT (hc : X.calm = true) : CallR X (.builtin "max") (fun vs H Q => ∃ (a : Addr) (ns : List Int), vs = [V.ref a] ∧ SqT X.K H a (ns.map V.int) ∧ 0 < ns.length ∧ ∀ m, m ∈ ns → (∀ y, y ∈ ns → y ≤ m) → Q (.int m) H) := by
  intro pins s σ H vs us Q I r h
  obtain ⟨a, ns, rfl, hs, hne, q⟩ := h
  obtain ⟨its, rv, hl, _⟩ := I.tuple hs
  rw [Vals.ref1 r]
  exact max_rawT (I.ok.hd hc) (show s.heap.IsTuple a its.toArray from hl) rv.ints hne fun h' tk m t' hk h1 h2 => ⟨.int _, H, I.kept hk, ⟨_, rfl⟩, q m h1 h2⟩
theorem cr_minT (hc : X.calm = true) : CallR X (.builtin "min") (fun vs H Q => ∃ (a : Addr) (ns : List Int), vs = [V.ref a] ∧ SqT X.K H a (ns.map V.int) ∧ 0 < ns.length ∧ ∀ m, m ∈ ns → (∀ y, y ∈ ns → m ≤ y) → Q (.int m) H) := by
  intro pins s σ H vs us Q I r h
  obtain ⟨a, ns, rfl, hs, hne, q⟩ := h
  obtain ⟨its, rv, hl, _⟩ := I.tuple hs
  rw [Vals.ref1 r]
  exact min_rawT (I.ok.hd hc) (show s.heap.IsTuple a its.toArray from hl) rv.ints hne fun h' tk m t' hk h1 h2 => ⟨.int _, H, I.kept hk, ⟨_, rfl⟩, q m h1 h2⟩
theorem cr_setT (hc : X.calm = true) : CallR X (.type "set") (fun xs H Q => ∃ (p : Addr) (ns : List Int), xs = [.ref p] ∧ SqT X.K H p (ns.map V.int) ∧ ns.length ≤ 1000 ∧ ns.Nodup ∧ ∀ a, H a = none → Q (.ref a) (upd H a (SetN a ns.length))) := by
  intro pins s σ H xs us Q I r h
  obtain ⟨p, ns, rfl, hq, hl, hnd, q⟩ := h
  obtain ⟨u, rfl, ru⟩ := vals1 r
  cases (show u = Value.ref p from ru)
  obtain ⟨its, rv, pl, hz⟩ := I.tuple hq
  refine call_set_tupI ns (I.ok.hd hc) (show s.heap.IsTuple p its.toArray from pl) (by have := intsAre_of rv; simpa using this) (by unfold scanBound; omega) fun h' tk c hS hcn hk => ?_
  obtain ⟨o, es, ep, t, ho, hex, hd, hE, nd, hm, hb, hf, hn, _⟩ := hS
  have hcl : c = ns.length := by
    have hp : (es.toList.map keyOf).Perm ns := (List.perm_ext_iff_of_nodup nd hnd).mpr fun a => by
      rw [← hm a]
      simp
    have := hp.length_eq
    rw [List.length_map, Array.length_toList, hn] at this
    exact this
  have new : ObjOk X.prog X.w (upd H s.heap.objs.size (SetN s.heap.objs.size ns.length)) h' s.heap.objs.size (SetN s.heap.objs.size ns.length) :=
    ⟨⟨o, es, ep, t, ho, hex, hd, hf, by rw [hn, hcl]⟩, ⟨o, ho⟩, fun _ _ ⟨o, es, ep, t, r1, r2⟩ k => ⟨o, es, ep, t, k o r1, r2⟩⟩
  have I1 := I.laid (t' := tk) (fun b u e => hk b u e) (Nat.le_refl _) new
  exact ⟨.ref s.heap.objs.size, _, I1, rfl, q _ (I.hok.fresh (Nat.le_refl _))⟩
end
section
variable {X : Cx} {F0 : Hp} {Γ : Gm} {L : Lg} {k : D → Lg → Prop} {a e : Expr} {pos p p2 cpos : Pos}
theorem ek_lensetT (hc : X.calm = true) (hm : X.mg "len" = none) (hg : Gl X "len") (hm2 : X.mg "set" = none) (hg2 : Gl X "set") (h : EvK X F0 a Γ L fun x L1 => ∃ ns : List Int, x = .tup (dI ns) ∧ ns.length ≤ 1000 ∧ ns.Nodup ∧ k (.int (ns.length : Nat)) L1)
    (he : starEach [a] X.env = (false, eval a X.env) :: starEach [] X.env := by rfl) (hp : (backTo cpos (starEach [] X.env)).any (·.1) = false := by rfl) (he2 : starEach [.Call (.Name "set" p2) [a] [] cpos] X.env = (false, eval (.Call (.Name "set" p2) [a] [] cpos) X.env) :: starEach [] X.env := by rfl) (hp2 : (backTo pos (starEach [] X.env)).any (·.1) = false := by rfl) :
    EvK X F0 (.Call (.Name "len" p) [.Call (.Name "set" p2) [a] [] cpos] [] pos) Γ L k := fun F σ H Q E q =>
  wpE.of (pe_callB cr_lenS hg hm (by decide +kernel) (pa_cons (pe_callTy (cr_setT hc) hg2 hm2 (by decide +kernel) (pa_cons we pa_nil he) (by decide) (by decide) he hp) pa_nil he2) (by decide) (by decide) he2 hp2)
    (h F σ H _ E fun x L1 F1 v H1 ⟨ns, e1, hl, hnd, h1⟩ E1 s1 r1 => by
      subst e1
      cases r1 with
      | tup hx rx =>
        have e := il_reps rx
        subst e
        exact ⟨_, ns, rfl, seqT E1.led.sub hx, hl, hnd, fun a ha => ⟨a, ns.length, rfl, upd_same, by omega, q _ L1 _ _ _ h1 (E1.new ha) (s1.trans (same_new (E1.led.free ha))) .int⟩⟩)
theorem ek_minT {p : Pos} (hc : X.calm = true) (hm : X.mg "min" = none) (hg : Gl X "min") (h : EvK X F0 e Γ L fun x L1 => ∃ ns : List Int, x = .tup (dI ns) ∧ 0 < ns.length ∧ k (.int (minI ns)) L1)
    (he : starEach [e] X.env = (false, eval e X.env) :: starEach [] X.env := by rfl) (hpl : (backTo pos (starEach [] X.env)).any (·.1) = false := by rfl) : EvK X F0 (.Call (.Name "min" p) [e] [] pos) Γ L k := fun F σ H Q E q =>
  wpE.of (pe_callB (cr_minT hc) hg hm (by decide +kernel) (pa_cons we pa_nil he) (by decide) (by decide) he hpl) (h F σ H _ E fun x L1 F1 v H1 ⟨ns, e1, hl, h1⟩ E1 s1 r1 => by
    subst e1
    cases r1 with
    | tup hx rx =>
      have e := il_reps rx
      subst e
      exact ⟨_, ns, rfl, seqT E1.led.sub hx, hl, fun m hm hle => by rw [← minI_at hm hle]; exact q _ L1 F1 _ H1 h1 E1 s1 .int⟩)
theorem ek_maxT {p : Pos} (hc : X.calm = true) (hm : X.mg "max" = none) (hg : Gl X "max") (h : EvK X F0 e Γ L fun x L1 => ∃ ns : List Int, x = .tup (dI ns) ∧ 0 < ns.length ∧ k (.int (maxI ns)) L1)
    (he : starEach [e] X.env = (false, eval e X.env) :: starEach [] X.env := by rfl) (hpl : (backTo pos (starEach [] X.env)).any (·.1) = false := by rfl) : EvK X F0 (.Call (.Name "max" p) [e] [] pos) Γ L k := fun F σ H Q E q =>
  wpE.of (pe_callB (cr_maxT hc) hg hm (by decide +kernel) (pa_cons we pa_nil he) (by decide) (by decide) he hpl) (h F σ H _ E fun x L1 F1 v H1 ⟨ns, e1, hl, h1⟩ E1 s1 r1 => by
    subst e1
    cases r1 with
    | tup hx rx =>
      have e := il_reps rx
      subst e
      exact ⟨_, ns, rfl, seqT E1.led.sub hx, hl, fun m hm hle => by rw [← maxI_at hm hle]; exact q _ L1 F1 _ H1 h1 E1 s1 .int⟩)
end
end Vs

set_option Elab.async false
set_option linter.all false
set_option maxRecDepth 100000
set_option maxHeartbeats 4000000
namespace Vs
open PySem PySem.Spec PyProof.Rows L2
/-! ### xs.insert(i, x) -/
def insD (ds : List D) (n : Nat) (d : D) : List D := ds.take n ++ d :: ds.drop n
section
variable {X : Cx} {F0 : Hp} {Γ : Gm} {L : Lg} {k : D → Lg → Prop} {o e f : Expr} {apos cpos : Pos}
theorem Reps.insD {K : PySem.W.Frag} {F : Hp} {d : D} {v : V} (r : Rep K F d v) : ∀ {ds : List D} {vs : List V} (n : Nat), Reps K F ds vs → Reps K F (Vs.insD ds n d) (vs.take n ++ v :: vs.drop n)
  | _, _, 0, h => .cons r h
  | _, _, n + 1, .nil => .cons r .nil
  | _, _, n + 1, .cons h t => .cons h (Reps.insD r n t)
theorem ek_insert (h : EvK X F0 o Γ L fun x L1 => ∃ p ds1, x = .ref p ∧ AsL L1 x ds1 ∧ EvK X F0 e Γ L1 fun y L2 => EvK X F0 f Γ L2 fun z L3 => ∃ (ds : List D) (n j : Nat) (L4 : Lg), y = .int (n : Int) ∧ Get L3 j (p, C.lst ds) ∧ n ≤ ds.length ∧ Put L3 j (p, C.lst (insD ds n z)) L4 ∧ ds.length ≤ 1000000 ∧ k .non L4)
    (hbase : attributeBase o "insert" X.env (eval o X.env) = eval o X.env := by rfl)
    (hfew : ((backTo cpos (starEach [e, f] X.env)).all (fun x => !x.1) && (backToKw cpos (keywordEach [] X.env)).all (fun x => x.1.isSome)
      && decide (([e, f] : List Expr).length + ([] : List Keyword).length + (if ([] : List Keyword).isEmpty then 0 else 1) < 30)) = true := by rfl)
    (hline : (apos.endLine == cpos.line) = true := by rfl) (hs : starEach [e, f] X.env = (false, eval e X.env) :: starEach [f] X.env := by rfl) (hs2 : starEach [f] X.env = (false, eval f X.env) :: starEach [] X.env := by rfl) (hplain : (backTo cpos (starEach [f] X.env)).any (·.1) = false := by rfl) :
    EvK X F0 (.Call (.Attribute o "insert" apos) [e, f] [] cpos) Γ L k := fun F σ H Q E q =>
  wpE.of (pe_bm PySem.F.plainAttrs_list PySem.F.slot_list_insert PySem.F.type_list_insert mt_insert we (pa_cons we (pa_cons we pa_nil hs2) hs) hbase hfew hline hs hplain)
    (h F σ H _ E fun x L1 F1 v H1 ⟨p, ds1, e1, a1, h1⟩ E1 s1 r1 => by
      subst e1
      obtain ⟨p', xs1, ev, hx1, _⟩ := a1.read E1.led r1
      cases r1
      refine ⟨?_, ?_⟩
      · cases ev
        exact .inl ⟨rfl, xs1, hx1⟩
      · refine h1 F1 σ H1 _ E1 fun y L2 F2 u H2 h2 E2 s2 r2 => h2 F2 σ H2 _ E2 fun z L3 F3 w H3 ⟨ds, n, j, L4, e2, g, hn, pt, hz, h3⟩ E3 s3 r3 => ?_
        subst e2
        cases r2
        obtain ⟨xs, hx, rx⟩ := E3.led.lst g
        have hl := rx.length
        refine ⟨p, xs, (n : Int), w, rfl, rfl, hx, by rw [← hl, sizeLine_eq]; omega, by omega, by omega, ?_⟩
        have rr := Reps.insD r3 n rx
        have e5 : xs.take ((n : Int).toNat) ++ [w] ++ xs.drop ((n : Int).toNat) = xs.take n ++ w :: xs.drop n := by
          rw [Int.toNat_natCast, List.append_assoc]
          rfl
        rw [e5]
        exact q .non L4 F3 _ _ h3 (E3.to (Same.refl F3) (E3.led.put g pt ⟨_, upd_same, rr⟩)) (s1.trans (s2.trans s3)) .non)
end
end Vs

set_option Elab.async false
set_option linter.all false
set_option maxRecDepth 100000
set_option maxHeartbeats 4000000
namespace Vs
open PySem PySem.Spec PyProof.Rows L2
section
variable {X : Cx} {F0 : Hp} {Γ : Gm} {L : Lg} {k : D → Lg → Prop} {e : Expr}
/-- a value told in another form -/
theorem ek_as (h : EvK X F0 e Γ L fun d L1 => ∃ d', d = d' ∧ k d' L1) : EvK X F0 e Γ L k := fun F σ H Q E q =>
  h F σ H Q E fun d L1 F1 v H1 ⟨d', hd, hk⟩ E1 s1 rr => by
    subst hd
    exact q d L1 F1 v H1 hk E1 s1 rr
end
theorem cut_mid {xs : List D} {a b : Int} (ha : 0 ≤ a) (hab : a ≤ b) : cutD xs (some a) (some b) = (xs.drop a.toNat).take (b.toNat - a.toNat) := by
  obtain ⟨m, rfl⟩ : ∃ m : Nat, a = m := ⟨a.toNat, by omega⟩
  obtain ⟨n, rfl⟩ : ∃ n : Nat, b = n := ⟨b.toNat, by omega⟩
  unfold cutD
  rw [HT.sIx_nat, HT.sIx_nat, Int.toNat_natCast, Int.toNat_natCast]
  by_cases h : m ≤ xs.length
  · rw [Nat.min_eq_left h]
    by_cases h2 : n ≤ xs.length
    · rw [Nat.min_eq_left h2]
    · rw [Nat.min_eq_right (by omega), List.take_of_length_le (by rw [List.length_drop]; exact Nat.le_refl _), List.take_of_length_le (by rw [List.length_drop]; omega)]
  · rw [Nat.min_eq_right (show xs.length ≤ n by omega), Nat.min_eq_right (show xs.length ≤ m by omega), List.drop_of_length_le (Nat.le_refl _), List.drop_of_length_le (by omega)]
    simp
theorem cut_dI2 {xs : List Int} {a b : Int} (ha : 0 ≤ a) (hab : a ≤ b) : cutD (dI xs) (some a) (some b) = dI ((xs.drop a.toNat).take (b.toNat - a.toNat)) := by
  rw [cut_mid ha hab, ← List.map_drop, ← List.map_take]
theorem subP_new3 {a n b c : Addr × C} {L : Lg} : SubP (a :: n :: c :: L) (n :: a :: b :: c :: L) := ⟨a :: n :: b :: c :: L, ((List.Sublist.refl _).cons _ |>.cons₂ _ |>.cons₂ _), .swap ..⟩
theorem subP_new2 {a n b c : Addr × C} {L : Lg} : SubP (n :: b :: c :: L) (n :: a :: b :: c :: L) := ⟨_, ((List.Sublist.refl _).cons _ |>.cons₂ _), .refl _⟩
end Vs

set_option Elab.async false
set_option linter.all false
set_option maxRecDepth 100000
set_option maxHeartbeats 4000000
namespace Vs
open PySem PySem.Spec PyProof.Rows L2
/-! ### try .. except X: without a name -/
section
variable {X : Cx} {F0 : Hp} {Γ : Gm} {L : Lg} {k : Ks} {pos : Pos} {N Nc : List Str} {sc : Scope} {Z : Xc → Gm → Lg → Prop} {body : List Stmt}
theorem sk_try_only {x : Str} {cv : Value} {b₀ : Stmt} {suite : List Stmt} {np pos' : Pos} (cf : Cf X N Nc sc F0 Z) (hc : Names X x cv)
    (hb : ∀ (pn : List (Addr × Obj)) (xe : Value → Shared → Prop) (Z' : Xc → Gm → Lg → Prop), Cf (X.tr pn xe) N Nc sc F0 Z' →
      (∀ y Γ' L', (∃ b, PySem.W.exmOne X.K y.c cv = some b ∧
        (b = true → ∀ (a : Addr) (oe : Obj) (pn : List (Addr × Obj)), (y.fs = none → Zc y.c none oe) → (∃ vs, oe.data = .fields vs) → Cn (X.suite a ((a, oe) :: pn)) N Nc sc → BK (X.suite a ((a, oe) :: pn)) F0 (b₀ :: suite) Γ' L' k) ∧
        (b = false → Z y Γ' L')) → Z' y Γ' L') → BK (X.tr pn xe) F0 body Γ L k) :
    SK X F0 (.Try body [.ExceptHandler (some (.Name x np)) none (b₀ :: suite) pos'] [] [] pos) Γ L k := fun F σ H Dn E q => by
  refine wpS.of (ps_try_only (Wout := ZW X.K F0 Z)
    (tb := fun W Dn σ H => ∀ (pn : List (Addr × Obj)) (xe : Value → Shared → Prop), Takes (X.tr pn xe) W → PassesOwn (model X.prog X.w) X.A X.env xe → wpB (X.tr pn xe) body Dn σ H)
    (ts := fun a cls d Dn σ H => ∀ (oe : Obj) (pn : List (Addr × Obj)), Zc cls d oe → (∃ vs, oe.data = .fields vs) → wpB (X.suite a ((a, oe) :: pn)) (b₀ :: suite) Dn σ H)
    cf.stk cf.fr hc cf.tk
    (fun W pn xe tk own => ⟨fun pins s σ H Dn I h => h pn xe tk own pins s I⟩) (fun a oe cls d pn hz hf => ⟨fun pins s σ H Dn I h => h oe pn hz hf pins s I⟩)) ?_
  intro pn xe tk own
  refine hb pn xe (fun y Γ' L' => ∃ b, PySem.W.exmOne X.K y.c cv = some b ∧
        (b = true → ∀ (a : Addr) (oe : Obj) (pn : List (Addr × Obj)), (y.fs = none → Zc y.c none oe) → (∃ vs, oe.data = .fields vs) → Cn (X.suite a ((a, oe) :: pn)) N Nc sc → BK (X.suite a ((a, oe) :: pn)) F0 (b₀ :: suite) Γ' L' k) ∧
        (b = false → Z y Γ' L')) ⟨⟨cf.n, cf.nd, cf.scp, cf.loc, cf.fn⟩, cf.calm, own, tk.imp ?_, cf.stk, cf.fr⟩ (fun _ _ _ h => h) F σ H Dn E ⟨q.nx, q.rt, q.bk, q.ct⟩
  rintro cls od σ' H' ⟨y, Γ', L', F', rfl, ⟨b, h1, h2, h3⟩, E', x'⟩
  refine ⟨b, h1, fun hb a na => ?_, fun hb => ⟨y, Γ', L', F', rfl, h3 hb, E', x'⟩⟩
  intro oe pn hz hf
  have h4 := h2 hb a oe pn (fun hn => by
    have e : od = none := by
      unfold XRep at x'
      rw [hn] at x'
      exact x'
    rw [e] at hz
    exact hz) hf ⟨cf.n, cf.nd, cf.scp, cf.loc, cf.fn⟩
  exact h4 F' _ H' _ E' ⟨q.nx, q.rt, q.bk, q.ct⟩
end
end Vs

set_option Elab.async false
set_option linter.all false
set_option maxRecDepth 100000
set_option maxHeartbeats 4000000
namespace Vs
open PySem PySem.Spec PyProof.Rows L2
/-! ### the head's facts, and one Bool more -/
abbrev AlE : Type := He.AlD × Bool
def obsE (n : Nat) (fa : List He.Fa) (fn : List He.DefD) (ex : PySem.W.Frag → Bool) (g : Addr → Option Obj) : AlE := (He.obsD fa fn (He.frG g (He.asD g n)), ex (He.frG g (He.asD g n)))
def valE (fn : List He.DefD) : AlE := (He.valD fn, true)
structure SaysE (fa : List He.Fa) (fn : List He.DefD) (ex : PySem.W.Frag → Bool) (K : PySem.W.Frag) : Prop where
  d : He.SaysD fa fn K
  ex : ex K = true
def hookE (n : Nat) (fa : List He.Fa) (fn : List He.DefD) (ex : PySem.W.Frag → Bool) : PySem.W.Hook where
  α := AlE
  obs := fun s => obsE n fa fn ex s.heap.get?
  val := fun _ => valE fn
  says := fun _ h => ∃ K : PySem.W.Frag, K.In h ∧ SaysE fa fn ex K
  of := fun _ _ e => ⟨_, He.frG_in, ⟨congrArg (fun z : AlE => z.1) e, congrArg (fun z : AlE => z.2) e⟩⟩
  keeps := fun _ _ _ ⟨K, hK, c⟩ k => ⟨K, PySem.W.Frag.In.keeps hK k, c⟩
theorem obsE_eq {n : Nat} {fa : List He.Fa} {fn : List He.DefD} {ex : PySem.W.Frag → Bool} {g : Addr → Option Obj} {s : Shared} (h : ∀ a, g a = s.heap.get? a) : obsE n fa fn ex g = (hookE n fa fn ex).obs s := by
  have e : g = s.heap.get? := funext h
  rw [e] <;> rfl
def dd (x : Str) (st : Stmt) : He.DefD := ⟨(x, none), x, x, defArgs st, defBody st, defScope st, [], []⟩
abbrev FunX (K : PySem.W.Frag) (x : Str) (st : Stmt) (fd : FuncData) : Prop := FunD K x x (defArgs st) (defBody st) (defScope st) [] [] (He.fAd K (x, none)) fd
theorem cal_of {P : Program} {w : World} {K : PySem.W.Frag} {mg : Str → Option Value} {base : Heap} {x : Str} {st : Stmt} {fd : FuncData} {N Nc ps : List Str} {n : Nat} {S : SpD}
    (F : FunX K x st fd) (g : mg x = some (.ref (He.ga K x))) (Sc : FnScope (N ++ Nc) ps (defScope st)) (hl : locs N (defScope st) = true) (hb0 : Binds K fd ps []) (hlen : ∀ ds L q e, S ds L q e → ds.length = ps.length)
    (hb : ∀ (X : Cx) (F0 : Hp) (ds : List D) (L : Lg) (q : D → Lg → Prop) (e : Xc → Lg → Prop), X.prog = P → X.w = w → X.K = K → X.mg = mg → X.base = base → Cf X N Nc (defScope st) F0 (fun y _ L' => e y L') → Room n X.A → S ds L q e →
      BK X F0 (defBody st) (ds.map some ++ List.replicate ((N ++ Nc).length - ps.length) none) L { nx := fun _ L' => q .non L', rt := q }) : Cal P w K mg base (n + 1) x ps S :=
  ⟨_, fd, g, F.kp, hb0, fn_ok F Sc hl hlen hb⟩
/-! methods -/
def dm (x m qual : Str) (st : Stmt) : He.DefD := ⟨(x, some m), m, qual, defArgs st, defBody st, defScope st, [], []⟩
abbrev MetD (K : PySem.W.Frag) (x m qual : Str) (st : Stmt) (fd : FuncData) : Prop := FunD K m qual (defArgs st) (defBody st) (defScope st) [] [] (He.fAd K (x, some m)) fd
theorem met_of {P : Program} {w : World} {K : PySem.W.Frag} {mg : Str → Option Value} {base : Heap} {x m qual : Str} {st : Stmt} {fd : FuncData} {N Nc ps : List Str} {n : Nat} {S : SpD}
    (F : MetD K x m qual st fd) (cl : Cls K (He.ga K x)) (me : Meth K (He.ga K x) m (He.ma K (He.ga K x) m)) (Sc : FnScope (N ++ Nc) ps (defScope st)) (hl : locs N (defScope st) = true) (hb0 : Binds K fd ps []) (hlen : ∀ ds L q e, S ds L q e → ds.length = ps.length)
    (hb : ∀ (X : Cx) (F0 : Hp) (ds : List D) (L : Lg) (q : D → Lg → Prop) (e : Xc → Lg → Prop), X.prog = P → X.w = w → X.K = K → X.mg = mg → X.base = base → Cf X N Nc (defScope st) F0 (fun y _ L' => e y L') → Room n X.A → S ds L q e →
      BK X F0 (defBody st) (ds.map some ++ List.replicate ((N ++ Nc).length - ps.length) none) L { nx := fun _ L' => q .non L', rt := q }) : Met P w K mg base (n + 1) (He.ga K x) m ps S :=
  ⟨cl, _, fd, me, hb0, fn_ok F Sc hl hlen hb⟩
theorem mkr_of {P : Program} {w : World} {K : PySem.W.Frag} {mg : Str → Option Value} {base : Heap} {x qual : Str} {st : Stmt} {fd : FuncData} {N Nc ps : List Str} {n : Nat} {S : SpD}
    (F : MetD K x "__init__" qual st fd) (g : mg x = some (.ref (He.ga K x))) (mk : L2.Mk K (He.ga K x) (He.ma K (He.ga K x) "__init__")) (Sc : FnScope (N ++ Nc) ps (defScope st)) (hl : locs N (defScope st) = true) (hb0 : Binds K fd ps []) (hlen : ∀ ds L q e, S ds L q e → ds.length = ps.length)
    (hb : ∀ (X : Cx) (F0 : Hp) (ds : List D) (L : Lg) (q : D → Lg → Prop) (e : Xc → Lg → Prop), X.prog = P → X.w = w → X.K = K → X.mg = mg → X.base = base → Cf X N Nc (defScope st) F0 (fun y _ L' => e y L') → Room n X.A → S ds L q e →
      BK X F0 (defBody st) (ds.map some ++ List.replicate ((N ++ Nc).length - ps.length) none) L { nx := fun _ L' => q .non L', rt := q }) : Mkr P w K mg base (n + 1) x (He.ga K x) ps S :=
  ⟨g, _, fd, mk, hb0, fn_ok F Sc hl hlen hb⟩
/-! ### lists of the top -/
theorem reps_rel {K : PySem.W.Frag} {F : Hp} {xs : List Int} : Reps K F (dI xs) ((xs.map He.Dv.int).map (He.Dv.v K)) := by
  induction xs with
  | nil => exact .nil
  | cons x xs ih => exact .cons .int ih
theorem gobj_ints {K : PySem.W.Frag} {mg : Str → Option Value} {x : Str} {xs : List Int} (g : mg x = some (.ref (He.ga K x))) (h : He.lstB K x (xs.map He.Dv.int) = true) : GObj K mg x (.lst (dI xs)) :=
  ⟨_, g, fun F => .lst (He.lstB_ok h F) reps_rel⟩
/-- the tuple of numbers at t -/
def tupI (K : PySem.W.Frag) (t : Addr) (r : List Int) : Bool := match K.lookup t with
  | some ⟨.type c, _, .seq its _, _⟩ => decide (c = "tuple") && (decide (its.size ≤ sizeLine) && He.relAll (r.map V.int) its.toList)
  | _ => false
theorem tupI_ok {K : PySem.W.Frag} {t : Addr} {r : List Int} (h : tupI K t r = true) (H : Hp) : SqT K H t (r.map V.int) := by
  unfold tupI at h
  cases q : K.lookup t with
  | none =>
    rw [q] at h
    cases h
  | some o =>
    obtain ⟨oc, od, dt, osl⟩ := o
    rw [q] at h
    cases oc with
    | type c =>
      cases dt with
      | seq its n =>
        obtain ⟨h1, h2⟩ := He.ba (show (decide (c = "tuple") && (decide (its.size ≤ sizeLine) && He.relAll (r.map V.int) its.toList)) = true from h)
        obtain ⟨h3, h4⟩ := He.ba h2
        exact .inr ⟨_, its, n, q, congrArg Value.type (of_decide_eq_true h1), rfl, of_decide_eq_true h3, He.relAll_ok h4⟩
      | _ => cases h
    | _ => cases dt <;> cases h
def tupsI (K : PySem.W.Frag) : List Value → List (List Int) → Bool
  | [], [] => true
  | .ref t :: us, r :: rs => tupI K t r && tupsI K us rs
  | _, _ => false
def lstT (K : PySem.W.Frag) (x : Str) (rs : List (List Int)) : Bool := match K.lookup (He.ga K x) with
  | some ⟨.type c, none, .seq its _, _⟩ => decide (c = "list") && (decide (its.size ≤ sizeLine) && tupsI K its.toList rs)
  | _ => false
abbrev dTs (rs : List (List Int)) : List D := rs.map fun r => D.tup (dI r)
theorem tupsI_ok {K : PySem.W.Frag} (F : Hp) : ∀ {us : List Value} {rs : List (List Int)}, tupsI K us rs = true → ∃ vs, Vals vs us ∧ Reps K F (dTs rs) vs
  | [], [], _ => ⟨[], .nil, .nil⟩
  | [], _ :: _, h => by cases h
  | u :: us, [], h => by cases u <;> cases h
  | u :: us, r :: rs, h => by
    cases u with
    | ref t =>
      obtain ⟨h1, h2⟩ := He.ba (show (tupI K t r && tupsI K us rs) = true from h)
      obtain ⟨vs, a, b⟩ := tupsI_ok F h2
      exact ⟨.ref t :: vs, .cons rfl a, .cons (.tup (tupI_ok h1 F) reps_il) b⟩
    | _ => cases h
theorem gobj_tups {K : PySem.W.Frag} {mg : Str → Option Value} {x : Str} {rs : List (List Int)} (g : mg x = some (.ref (He.ga K x))) (h : lstT K x rs = true) : GObj K mg x (.lst (dTs rs)) := by
  unfold lstT at h
  cases q : K.lookup (He.ga K x) with
  | none =>
    rw [q] at h
    cases h
  | some o =>
    obtain ⟨oc, od, dt, osl⟩ := o
    rw [q] at h
    cases oc with
    | type c =>
      cases od with
      | none =>
        cases dt with
        | seq its n =>
          obtain ⟨h1, h2⟩ := He.ba (show (decide (c = "list") && (decide (its.size ≤ sizeLine) && tupsI K its.toList rs)) = true from h)
          obtain ⟨h3, h4⟩ := He.ba h2
          refine ⟨_, g, fun F => ?_⟩
          obtain ⟨vs, a, b⟩ := tupsI_ok F h4
          exact .lst (.inr ⟨_, its, n, q, congrArg Value.type (of_decide_eq_true h1), rfl, rfl, of_decide_eq_true h3, a⟩) b
        | _ => cases h
      | some a => cases dt <;> cases h
    | _ => cases od <;> cases dt <;> cases h
/-- the tuple of texts that x tells -/
def tupS (K : PySem.W.Frag) (x : Str) (ys : List Str) : Bool := match K.lookup (He.ga K x) with
  | some ⟨.type c, none, .seq its _, _⟩ => decide (c = "tuple") && (decide (its.size ≤ sizeLine) && He.relAll (ys.map V.str) its.toList)
  | _ => false
theorem gtup_ok {K : PySem.W.Frag} {mg : Str → Option Value} {x : Str} {ys : List Str} (g : mg x = some (.ref (He.ga K x))) (h : tupS K x ys = true) : GTupS K mg x ys := by
  unfold tupS at h
  cases q : K.lookup (He.ga K x) with
  | none =>
    rw [q] at h
    cases h
  | some o =>
    obtain ⟨oc, od, dt, osl⟩ := o
    rw [q] at h
    cases oc with
    | type c =>
      cases od with
      | none =>
        cases dt with
        | seq its n =>
          obtain ⟨h1, h2⟩ := He.ba (show (decide (c = "tuple") && (decide (its.size ≤ sizeLine) && He.relAll (ys.map V.str) its.toList)) = true from h)
          obtain ⟨h3, h4⟩ := He.ba h2
          refine ⟨_, g, ⟨_, q, congrArg Value.type (of_decide_eq_true h1), rfl⟩, fun H => .inr ⟨_, its, n, q, congrArg Value.type (of_decide_eq_true h1), rfl, of_decide_eq_true h3, He.relAll_ok h4⟩⟩
        | _ => cases h
      | some a => cases dt <;> cases h
    | _ => cases od <;> cases dt <;> cases h
/-! ### the end -/
theorem walk_ofV {l : PySem.W.OpenLaw} {n k : Nat} {q : Program} {loose : List Str} {XP : (Str → Option Value) → Heap → Prop} {YP : World → Heap → Prop} {d : DefRec} {CX : World → CXT} {x : Str}
    (hn : l.most = some n) (hn2 : n ≤ sizeLine) (hdf : d.params.defaults = []) (hr : Room k callerA)
    (F : ∀ (w : World) (mg : Str → Option Value) (fa : Addr) (h : Heap), YP w h → h.Ns mainGlobals mg → mg d.name = some (.ref fa) →
      ∃ (K : PySem.W.Frag) (fd : FuncData) (sp : Sp), K.In h ∧ (∀ (s : Shared) (u : Value), BindsTo s fd ⟨[u], []⟩ [(x, u)]) ∧
        (∀ (H : Hp) (a : Addr) (ns : List Int), ns.length ≤ n → Only H → SqL K H a (ns.map V.int) → sp [.ref a] H (fun v _ => v = .bl true) fun _ _ _ => False) ∧
        ∀ base : Heap, K.In base → base.Ns mainGlobals mg → FnOk l.prog w K mg base (CX w) k fa fd [x] sp)
    (hCX : ∀ (w : World) (H : Hp) (s : Shared) (e : Value) (s' : Shared), CX w [] H s (fun _ _ _ => False) e s' → False) :
    PySem.W.WalkO q loose XP YP l.row.toRowW d [] (fun f vs => PySem.call f vs) := by
  refine Att.attach_call hn hdf fun w s₀ s₁ mg mb fa o pm cd doc a vs ns G Y ho hd hcd hmg hobj hints hlen hg => ?_
  obtain ⟨K, fd, sp, KX, hb, hsp, hF⟩ := F w mg fa _ Y G.T.g hmg
  exact law_call KX G.T.g G.T.b G.T.builtins G.T.nolimit hg hobj hints (Nat.le_trans hlen hn2) hr hF hb (fun H hO hS => hsp H a ns hlen hO hS) fun H e s' => hCX w H s₁ e s'
theorem noCX {P : Program} {w : World} (H : Hp) (s : Shared) (e : Value) (s' : Shared) (h : L2.CX P w [] H s (fun _ _ _ => False) e s') : False := by
  obtain ⟨_, _, _, _, _, _, _, _, _, _, _, _, z⟩ := h
  exact z.elim
/-- the law's own promise -/
theorem law_sp {K : PySem.W.Frag} {S : SpD} (h : ∀ ns : List Int, ns.length ≤ 63 → ∀ q e, (∀ L, q (.bl true) L) → S [.lst (dI ns)] [] q e) (H : Hp) (a : Addr) (ns : List Int) (hl : ns.length ≤ 63) (hO : Only H) (hS : SqL K H a (ns.map V.int)) :
    spOf K S [.ref a] H (fun v _ => v = .bl true) fun _ _ _ => False :=
  ⟨H, [.lst (dI ns)], [], fun d _ => d = .bl true, fun _ _ => False, ⟨Same.refl H, List.nodup_nil, fun p hp => by cases hp⟩, .cons (.lst hS reps_il) .nil, h ns hl _ _ (fun _ => rfl),
    fun r L' F' v H' e _ _ rr => by subst e; cases rr; rfl, fun _ _ _ _ _ he _ _ _ => he⟩
end Vs

set_option Elab.async false
set_option linter.all false
set_option maxRecDepth 100000
set_option maxHeartbeats 4000000
set_option pp.deepTerms.threshold 16
namespace K34
open PySem PySem.Spec PyProof.Rows L2 Vs
def okc (n : Int) (xs : List Int) : Prop := (xs.length : Int) = n ∧ ∀ v ∈ xs, 0 ≤ v ∧ v ≤ 96
/-! ### the plain law of sealed cells -/
def inv97 (a : Int) : Int := (a % 97) ^ 95 % 97
def ckq (i k : Nat) : Int := (-((5 : Int) ^ i * inv97 (5 ^ (18 + k)) * (((List.range 6).filter (· ≠ k)).map fun m => ((5 : Int) ^ i - 5 ^ (18 + m)) * inv97 (5 ^ (18 + k) - 5 ^ (18 + m))).foldl (fun a b => a * b % 97) 1)) % 97
def ckRow (i : Nat) : List Int := (List.range 6).map (ckq i)
def ckRows : List (List Int) := (List.range 18).map ckRow
def pows : List Int := (List.range 96).map fun m => (5 : Int) ^ m % 97
/-- the sum j of the signs from place i on -/
def sj (j : Nat) : Nat → List Int → Int
  | _, [] => 0
  | i, x :: xs => x * 5 ^ (i * j) + sj j (i + 1) xs
theorem sj_app (j : Nat) : ∀ (i : Nat) (xs ys : List Int), sj j i (xs ++ ys) = sj j i xs + sj j (i + xs.length) ys
  | i, [], ys => by simp [sj]
  | i, x :: xs, ys => by
    rw [List.cons_append, sj, sj, sj_app j (i + 1) xs ys, List.length_cons, Int.add_assoc]
    congr 3
    omega
theorem sj_set (j : Nat) : ∀ (i p : Nat) (xs : List Int) (x y : Int), xs[p]? = some x → sj j i (xs.set p y) = sj j i xs + (y - x) * 5 ^ ((i + p) * j)
  | i, _, [], x, y, h => by simp at h
  | i, 0, a :: xs, x, y, h => by
    have e : a = x := by simpa using h
    subst e
    rw [List.set_cons_zero, sj, sj]
    simp only [Nat.add_zero, Int.sub_mul]
    omega
  | i, p + 1, a :: xs, x, y, h => by
    rw [List.set_cons_succ, sj, sj, sj_set j (i + 1) p xs x y (by simpa using h), show i + 1 + p = i + (p + 1) by omega]
    omega
theorem emod_add_r (a b : Int) : (a + b % 97) % 97 = (a + b) % 97 := by rw [Int.add_emod, Int.emod_emod, ← Int.add_emod]
theorem emod_add_l (a b : Int) : (a % 97 + b) % 97 = (a + b) % 97 := by rw [Int.add_emod, Int.emod_emod, ← Int.add_emod]
theorem emod_mul_r (a b : Int) : a * (b % 97) % 97 = a * b % 97 := by rw [Int.mul_emod, Int.emod_emod, ← Int.mul_emod]
theorem emod_mul_l (a b : Int) : a % 97 * b % 97 = a * b % 97 := by rw [Int.mul_emod, Int.emod_emod, ← Int.mul_emod]
theorem p5_per (m : Nat) : (5 : Int) ^ (m % 96) % 97 = 5 ^ m % 97 := by
  have g : ∀ m : Nat, ((5 : Int) ^ 96) ^ m % 97 = 1 := fun m => by
    induction m with
    | zero => rw [Int.pow_zero]; rfl
    | succ m ih => rw [Int.pow_succ, Int.mul_emod, ih]; decide +kernel
  have e : m = 96 * (m / 96) + m % 96 := (Nat.div_add_mod m 96).symm
  rw [show (5 : Int) ^ m = 5 ^ (96 * (m / 96)) * 5 ^ (m % 96) from by rw [← Int.pow_add, ← e], Int.pow_mul, Int.mul_emod, g, Int.one_mul, Int.emod_emod]
theorem pows_get (m : Nat) : pows[m % 96]? = some ((5 : Int) ^ m % 97) := by
  unfold pows
  rw [List.getElem?_map, List.getElem?_range (Nat.mod_lt _ (by decide))]
  show some ((5 : Int) ^ (m % 96) % 97) = _
  rw [p5_per]
/-- no turn of one sign is nought -/
theorem turn_ne {d : Int} (p : Nat) (h : d * 5 ^ p % 97 = 0) : d % 97 = 0 := by
  have e : d * 5 ^ p * 5 ^ (95 * p) = d * 5 ^ (96 * p) := by
    rw [Int.mul_assoc, ← Int.pow_add]
    congr 2
    omega
  have g : (5 : Int) ^ (96 * p) % 97 = 1 := by
    have := p5_per (96 * p)
    rw [Nat.mul_mod_right] at this
    rw [← this]
    rfl
  have h2 : d * 5 ^ (96 * p) % 97 = 0 := by
    rw [← e, Int.mul_emod, h, Int.zero_mul]
    rfl
  rw [Int.mul_emod, g, Int.mul_one, Int.emod_emod] at h2
  exact h2
/-- the sign at place 18 + k of the sealed cell -/
def ckv (xs : List Int) (k : Nat) : List Int := (List.range xs.length).map fun i => xs.getD i 0 * ckq i k
def celOf (xs : List Int) : List Int := xs ++ (List.range 6).map fun k => (ckv xs k).sum % 97
theorem celOf_len {xs : List Int} (h : xs.length = 18) : (celOf xs).length = 24 := by
  unfold celOf
  rw [List.length_append, List.length_map, List.length_range, h]
theorem okc_celOf {xs : List Int} (h : okc 18 xs) : okc 24 (celOf xs) := by
  have hl : xs.length = 18 := by have := h.1; omega
  refine ⟨by rw [celOf_len hl]; rfl, fun v hv => ?_⟩
  unfold celOf at hv
  rcases List.mem_append.mp hv with z | z
  · exact h.2 v z
  · obtain ⟨k, _, rfl⟩ := List.mem_map.mp z
    have h1 := Int.emod_nonneg (ckv xs k).sum (show (97 : Int) ≠ 0 by decide)
    have h2 := Int.emod_lt_of_pos (ckv xs k).sum (show (0 : Int) < 97 by decide)
    omega
theorem ck_id : ∀ (i : Fin 18) (j : Fin 6), ((5 : Int) ^ (i.val * (j.val + 1)) + (ckq i.val 0 * 5 ^ (18 * (j.val + 1)) + (ckq i.val 1 * 5 ^ (19 * (j.val + 1)) + (ckq i.val 2 * 5 ^ (20 * (j.val + 1)) + (ckq i.val 3 * 5 ^ (21 * (j.val + 1)) + (ckq i.val 4 * 5 ^ (22 * (j.val + 1)) + ckq i.val 5 * 5 ^ (23 * (j.val + 1)))))))) % 97 = 0 := by decide +kernel
theorem sum_take {f : Nat → Int} {n : Nat} : ((List.range (n + 1)).map f).sum = ((List.range n).map f).sum + f n := by
  rw [List.range_succ, List.map_append, List.sum_append, List.map_cons, List.map_nil, List.sum_cons, List.sum_nil, Int.add_zero]
theorem sj_take (j : Nat) (xs : List Int) {n : Nat} {x : Int} (h : xs[n]? = some x) : sj j 0 (xs.take (n + 1)) = sj j 0 (xs.take n) + x * 5 ^ (n * j) := by
  have hl := (List.getElem?_eq_some_iff.mp h).1
  rw [List.take_add_one, h, sj_app]
  show _ + sj j _ [x] = _
  rw [List.length_take, Nat.min_eq_left (by omega), Nat.zero_add, sj, sj, Int.add_zero]
theorem celOf_sums {xs : List Int} (h : xs.length = 18) (j : Fin 6) : sj (j.val + 1) 0 (celOf xs) % 97 = 0 := by
  have key : ∀ n, n ≤ 18 → (sj (j.val + 1) 0 (xs.take n) + (((List.range n).map fun i => xs.getD i 0 * ckq i 0).sum * 5 ^ (18 * (j.val + 1)) + (((List.range n).map fun i => xs.getD i 0 * ckq i 1).sum * 5 ^ (19 * (j.val + 1)) + (((List.range n).map fun i => xs.getD i 0 * ckq i 2).sum * 5 ^ (20 * (j.val + 1)) +
      (((List.range n).map fun i => xs.getD i 0 * ckq i 3).sum * 5 ^ (21 * (j.val + 1)) + (((List.range n).map fun i => xs.getD i 0 * ckq i 4).sum * 5 ^ (22 * (j.val + 1)) + ((List.range n).map fun i => xs.getD i 0 * ckq i 5).sum * 5 ^ (23 * (j.val + 1)))))))) % 97 = 0 := by
    intro n hn
    induction n with
    | zero => simp [sj]
    | succ n ih =>
      have ih := ih (by omega)
      obtain ⟨x, hx⟩ : ∃ x, xs[n]? = some x := ⟨_, List.getElem?_eq_getElem (by omega)⟩
      have hg : xs.getD n 0 = x := by rw [List.getD_eq_getElem?_getD, hx]; rfl
      have id := ck_id ⟨n, by omega⟩ j
      dsimp only at id
      rw [sj_take _ _ hx]
      simp only [sum_take, hg]
      generalize (5 : Int) ^ (18 * (j.val + 1)) = a0 at *
      generalize (5 : Int) ^ (19 * (j.val + 1)) = a1 at *
      generalize (5 : Int) ^ (20 * (j.val + 1)) = a2 at *
      generalize (5 : Int) ^ (21 * (j.val + 1)) = a3 at *
      generalize (5 : Int) ^ (22 * (j.val + 1)) = a4 at *
      generalize (5 : Int) ^ (23 * (j.val + 1)) = a5 at *
      generalize (5 : Int) ^ (n * (j.val + 1)) = b at *
      generalize ckq n 0 = c0 at *
      generalize ckq n 1 = c1 at *
      generalize ckq n 2 = c2 at *
      generalize ckq n 3 = c3 at *
      generalize ckq n 4 = c4 at *
      generalize ckq n 5 = c5 at *
      generalize ((List.range n).map fun i => xs.getD i 0 * ckq i 0).sum = s0 at *
      generalize ((List.range n).map fun i => xs.getD i 0 * ckq i 1).sum = s1 at *
      generalize ((List.range n).map fun i => xs.getD i 0 * ckq i 2).sum = s2 at *
      generalize ((List.range n).map fun i => xs.getD i 0 * ckq i 3).sum = s3 at *
      generalize ((List.range n).map fun i => xs.getD i 0 * ckq i 4).sum = s4 at *
      generalize ((List.range n).map fun i => xs.getD i 0 * ckq i 5).sum = s5 at *
      generalize sj (j.val + 1) 0 (xs.take n) = t at *
      have e : t + x * b + ((s0 + x * c0) * a0 + ((s1 + x * c1) * a1 + ((s2 + x * c2) * a2 + ((s3 + x * c3) * a3 + ((s4 + x * c4) * a4 + (s5 + x * c5) * a5))))) =
          (t + (s0 * a0 + (s1 * a1 + (s2 * a2 + (s3 * a3 + (s4 * a4 + s5 * a5)))))) + x * (b + (c0 * a0 + (c1 * a1 + (c2 * a2 + (c3 * a3 + (c4 * a4 + c5 * a5)))))) := by
        simp only [Int.add_mul, Int.mul_add, Int.mul_assoc]
        omega
      rw [e, Int.add_emod, ih, Int.zero_add, Int.emod_emod, Int.mul_emod, id, Int.mul_zero]
      rfl
  have k18 := key 18 (Nat.le_refl _)
  rw [List.take_of_length_le (by omega)] at k18
  unfold celOf
  rw [sj_app, h]
  show (sj _ 0 xs + sj _ (0 + 18) [(ckv xs 0).sum % 97, (ckv xs 1).sum % 97, (ckv xs 2).sum % 97, (ckv xs 3).sum % 97, (ckv xs 4).sum % 97, (ckv xs 5).sum % 97]) % 97 = 0
  simp only [sj]
  unfold ckv
  rw [h]
  generalize ((List.range 18).map fun i => xs.getD i 0 * ckq i 0).sum = s0 at *
  generalize ((List.range 18).map fun i => xs.getD i 0 * ckq i 1).sum = s1 at *
  generalize ((List.range 18).map fun i => xs.getD i 0 * ckq i 2).sum = s2 at *
  generalize ((List.range 18).map fun i => xs.getD i 0 * ckq i 3).sum = s3 at *
  generalize ((List.range 18).map fun i => xs.getD i 0 * ckq i 4).sum = s4 at *
  generalize ((List.range 18).map fun i => xs.getD i 0 * ckq i 5).sum = s5 at *
  refine Eq.trans ?_ k18
  have cg : ∀ (s a r r' : Int), r % 97 = r' % 97 → (s % 97 * a + r) % 97 = (s * a + r') % 97 := fun s a r r' hr => by
    rw [Int.add_emod, emod_mul_l, hr, ← Int.add_emod]
  have cg0 : ∀ (t A B : Int), A % 97 = B % 97 → (t + A) % 97 = (t + B) % 97 := fun t A B h => by rw [Int.add_emod, h, ← Int.add_emod]
  refine cg0 _ _ _ (cg _ _ _ _ (cg _ _ _ _ (cg _ _ _ _ (cg _ _ _ _ (cg _ _ _ _ ?_)))))
  rw [Int.add_zero, emod_mul_l]
/-! ### seven apart -/
def W : List Nat → Nat → Int
  | [], _ => 1
  | r :: rs, i => (5 ^ i - 5 ^ r) * W rs i
def gs (rs : List Nat) (j : Nat) : Nat → List Int → Int
  | _, [] => 0
  | i, x :: xs => x * 5 ^ (i * j) * W rs i + gs rs j (i + 1) xs
theorem gs_nil (j : Nat) : ∀ (i : Nat) (xs : List Int), gs [] j i xs = sj j i xs
  | _, [] => rfl
  | i, x :: xs => by rw [gs, sj, gs_nil j (i + 1) xs, W, Int.mul_one]
theorem gs_cons (r : Nat) (rs : List Nat) (j : Nat) : ∀ (i : Nat) (xs : List Int), gs (r :: rs) j i xs = gs rs (j + 1) i xs - 5 ^ r * gs rs j i xs
  | _, [] => by simp [gs]
  | i, x :: xs => by
    rw [gs, gs, gs, gs_cons r rs j (i + 1) xs, W, Nat.mul_succ, Int.pow_add]
    generalize (5 : Int) ^ (i * j) = a
    generalize (5 : Int) ^ i = b
    generalize (5 : Int) ^ r = d
    generalize W rs i = w
    generalize gs rs (j + 1) (i + 1) xs = g1
    generalize gs rs j (i + 1) xs = g2
    have : x * a * ((b - d) * w) = x * (a * b) * w - d * (x * a * w) := by
      rw [Int.sub_mul, Int.mul_sub]
      congr 1
      · simp only [Int.mul_assoc]
      · simp only [Int.mul_assoc, Int.mul_left_comm]
    rw [this, Int.mul_add]
    omega
theorem sub_mod {a b : Int} (ha : a % 97 = 0) (hb : b % 97 = 0) : (a - b) % 97 = 0 := by omega
theorem mul_mod0 {a b : Int} (hb : b % 97 = 0) : a * b % 97 = 0 := by
  rw [Int.mul_emod, hb, Int.mul_zero]
  rfl
theorem gs_zero {c : List Int} (h : ∀ m, 1 ≤ m → m ≤ 6 → sj m 0 c % 97 = 0) : ∀ (rs : List Nat) (j : Nat), 1 ≤ j → j + rs.length ≤ 6 → gs rs j 0 c % 97 = 0
  | [], j, h1, h2 => by rw [gs_nil]; exact h j h1 h2
  | r :: rs, j, h1, h2 => by
    rw [List.length_cons] at h2
    rw [gs_cons]
    exact sub_mod (gs_zero h rs (j + 1) (by omega) (by omega)) (mul_mod0 (gs_zero h rs j h1 (by omega)))
theorem W_mem {i : Nat} : ∀ {rs : List Nat}, i ∈ rs → W rs i = 0
  | r :: rs, h => by
    rw [W]
    rcases List.mem_cons.mp h with rfl | h
    · rw [Int.sub_self, Int.zero_mul]
    · rw [W_mem h, Int.mul_zero]
theorem prime97 {a b : Int} (h : a * b % 97 = 0) : a % 97 = 0 ∨ b % 97 = 0 := by
  have p : ∀ x y : Fin 97, (x.val : Int) * y.val % 97 = 0 → x.val = 0 ∨ y.val = 0 := by decide +kernel
  have ha := Int.emod_nonneg a (show (97 : Int) ≠ 0 by decide)
  have ha2 := Int.emod_lt_of_pos a (show (0 : Int) < 97 by decide)
  have hb := Int.emod_nonneg b (show (97 : Int) ≠ 0 by decide)
  have hb2 := Int.emod_lt_of_pos b (show (0 : Int) < 97 by decide)
  rw [Int.mul_emod] at h
  have := p ⟨(a % 97).toNat, by omega⟩ ⟨(b % 97).toNat, by omega⟩ (by
    dsimp only
    rw [Int.toNat_of_nonneg ha, Int.toNat_of_nonneg hb]
    exact h)
  dsimp only at this
  omega
theorem W_ne {i : Nat} (hi : i < 24) : ∀ {rs : List Nat}, (∀ r ∈ rs, r < 24 ∧ r ≠ i) → W rs i % 97 ≠ 0
  | [], _ => by rw [W]; decide
  | r :: rs, h => by
    rw [W]
    intro z
    rcases prime97 z with z | z
    · have d : ∀ a b : Fin 24, ((5 : Int) ^ a.val - 5 ^ b.val) % 97 = 0 → b.val = a.val := by decide +kernel
      obtain ⟨h1, h2⟩ := h r List.mem_cons_self
      exact h2 (d ⟨i, hi⟩ ⟨r, h1⟩ z)
    · exact W_ne hi (fun r hr => h r (List.mem_cons_of_mem _ hr)) z
theorem gs_none (rs : List Nat) (j : Nat) : ∀ (i : Nat) (c : List Int), (∀ n v, c[n]? = some v → v % 97 = 0 ∨ i + n ∈ rs) → gs rs j i c % 97 = 0
  | _, [], _ => rfl
  | i, x :: xs, h => by
    have a := gs_none rs j (i + 1) xs fun n v hv => by
      have := h (n + 1) v (by rw [List.getElem?_cons_succ]; exact hv)
      rwa [show i + 1 + n = i + (n + 1) by omega]
    have b : x * 5 ^ (i * j) * W rs i % 97 = 0 := by
      rcases h 0 x rfl with z | z
      · rw [Int.mul_assoc, Int.mul_comm]
        exact mul_mod0 z
      · rw [show W rs i = 0 from W_mem z, Int.mul_zero]
        rfl
    rw [gs]
    omega
theorem gs_at (rs : List Nat) (j : Nat) : ∀ (i : Nat) (c : List Int) (n : Nat) (v : Int), c[n]? = some v → (∀ m u, c[m]? = some u → m ≠ n → u % 97 = 0 ∨ i + m ∈ rs) → gs rs j i c % 97 = v * 5 ^ ((i + n) * j) * W rs (i + n) % 97
  | _, [], n, v, h, _ => by simp at h
  | i, x :: xs, 0, v, h, hc => by
    have e : x = v := by simpa using h
    subst e
    have a := gs_none rs j (i + 1) xs fun n v hv => by
      have := hc (n + 1) v (by rw [List.getElem?_cons_succ]; exact hv) (Nat.succ_ne_zero _)
      rwa [show i + 1 + n = i + (n + 1) by omega]
    rw [gs, Int.add_emod, a, Int.add_zero, Int.emod_emod, Nat.add_zero]
  | i, x :: xs, n + 1, v, h, hc => by
    have a := gs_at rs j (i + 1) xs n v (by simpa using h) fun m u hu hm => by
      have := hc (m + 1) u (by rw [List.getElem?_cons_succ]; exact hu) (by omega)
      rwa [show i + 1 + m = i + (m + 1) by omega]
    have b : x * 5 ^ (i * j) * W rs i % 97 = 0 := by
      rcases hc 0 x rfl (by omega) with z | z
      · rw [Int.mul_assoc, Int.mul_comm]
        exact mul_mod0 z
      · rw [show W rs i = 0 from W_mem z, Int.mul_zero]
        rfl
    rw [gs, Int.add_emod, b, Int.zero_add, Int.emod_emod, a, show i + 1 + n = i + (n + 1) by omega]
theorem sj_sub (j : Nat) : ∀ (i : Nat) (xs ys : List Int), xs.length = ys.length → sj j i (List.zipWith (· - ·) xs ys) = sj j i xs - sj j i ys
  | _, [], [], _ => rfl
  | i, x :: xs, y :: ys, h => by
    have := sj_sub j (i + 1) xs ys (by simpa using h)
    rw [List.zipWith_cons_cons, sj, sj, sj, this, Int.sub_mul]
    omega
/-- where two lists differ -/
def unl (xs ys : List Int) : List Nat := (List.range 24).filter fun i => decide (xs[i]? ≠ ys[i]?)
theorem seven {xs ys : List Int} (hx : okc 24 xs) (hy : okc 24 ys) (sx : ∀ m, 1 ≤ m → m ≤ 6 → sj m 0 xs % 97 = 0) (sy : ∀ m, 1 ≤ m → m ≤ 6 → sj m 0 ys % 97 = 0) (hn : xs ≠ ys) : 7 ≤ (unl xs ys).length := by
  have lx : xs.length = 24 := by have := hx.1; omega
  have ly : ys.length = 24 := by have := hy.1; omega
  have hp : ∃ p, p < 24 ∧ xs[p]? ≠ ys[p]? := by
    refine Classical.byContradiction fun z => hn (List.ext_getElem? fun i => ?_)
    by_cases hi : i < 24
    · exact Classical.byContradiction fun q => z ⟨i, hi, q⟩
    · rw [List.getElem?_eq_none (by omega), List.getElem?_eq_none (by omega)]
  obtain ⟨p, hp, hd⟩ := hp
  refine Classical.byContradiction fun hl => ?_
  have nd : (unl xs ys).Nodup := List.Nodup.sublist List.filter_sublist List.nodup_range
  have hmem : p ∈ unl xs ys := List.mem_filter.mpr ⟨List.mem_range.mpr hp, by simpa using hd⟩
  have hlen : ((unl xs ys).erase p).length ≤ 5 := by
    rw [List.length_erase_of_mem hmem]
    omega
  have z := gs_zero (c := List.zipWith (· - ·) xs ys) (fun m h1 h2 => by rw [sj_sub m 0 xs ys (by omega)]; exact sub_mod (sx m h1 h2) (sy m h1 h2)) ((unl xs ys).erase p) 1 (Nat.le_refl _) (by omega)
  obtain ⟨x, hxp⟩ : ∃ x, xs[p]? = some x := ⟨_, List.getElem?_eq_getElem (by omega)⟩
  obtain ⟨y, hyp⟩ : ∃ y, ys[p]? = some y := ⟨_, List.getElem?_eq_getElem (by omega)⟩
  have hzp : (List.zipWith (· - ·) xs ys)[p]? = some (x - y) := by
    rw [List.getElem?_zipWith, hxp, hyp]
  rw [gs_at _ 1 0 _ p (x - y) hzp fun m u hu hm => by
    rw [List.getElem?_zipWith] at hu
    by_cases hm24 : m < 24
    · by_cases e : xs[m]? = ys[m]?
      · refine .inl ?_
        obtain ⟨a, ha⟩ : ∃ a, xs[m]? = some a := ⟨_, List.getElem?_eq_getElem (by omega)⟩
        rw [← e, ha] at hu
        have : a - a = u := by simpa using hu
        rw [← this, Int.sub_self]
        rfl
      · refine .inr ?_
        rw [Nat.zero_add]
        exact (List.Nodup.mem_erase_iff nd).mpr ⟨hm, List.mem_filter.mpr ⟨List.mem_range.mpr hm24, by simpa using e⟩⟩
    · rw [List.getElem?_eq_none (by omega)] at hu
      simp at hu] at z
  rw [Nat.zero_add] at z
  have bx := hx.2 x (List.mem_of_getElem? hxp)
  have by' := hy.2 y (List.mem_of_getElem? hyp)
  rcases prime97 z with z | z
  · have t := turn_ne (d := x - y) (p * 1) z
    have : x = y := by omega
    rw [hxp, hyp, this] at hd
    exact hd rfl
  · refine W_ne hp (fun r hr => ?_) z
    obtain ⟨h1, h2⟩ := (List.Nodup.mem_erase_iff nd).mp hr
    exact ⟨List.mem_range.mp (List.mem_filter.mp h2).1, h1⟩
/-! ### rests by 97 as a field -/
abbrev G := Fin 97
def cc (a : Int) : G := ⟨(a % 97).toNat, by omega⟩
theorem cc_add (a b : Int) : cc (a + b) = cc a + cc b := by
  apply Fin.ext
  show ((a + b) % 97).toNat = ((a % 97).toNat + (b % 97).toNat) % 97
  omega
theorem cc_sub (a b : Int) : cc (a - b) = cc a - cc b := by
  apply Fin.ext
  rw [Fin.val_sub]
  show ((a - b) % 97).toNat = (97 - (b % 97).toNat + (a % 97).toNat) % 97
  omega
theorem cc_mul (a b : Int) : cc (a * b) = cc a * cc b := by
  apply Fin.ext
  rw [Fin.val_mul]
  show ((a * b) % 97).toNat = ((a % 97).toNat * (b % 97).toNat) % 97
  have h : (a * b) % 97 = ((a % 97) * (b % 97)) % 97 := Int.mul_emod a b 97
  rw [h]
  have ha := Int.emod_nonneg a (show (97 : Int) ≠ 0 by decide)
  have hb := Int.emod_nonneg b (show (97 : Int) ≠ 0 by decide)
  obtain ⟨x, hx⟩ : ∃ x : Nat, a % 97 = x := ⟨(a % 97).toNat, by omega⟩
  obtain ⟨y, hy⟩ : ∃ y : Nat, b % 97 = y := ⟨(b % 97).toNat, by omega⟩
  rw [hx, hy, Int.toNat_natCast, Int.toNat_natCast, ← Int.natCast_mul]
  omega
theorem cc_mod (a : Int) : cc (a % 97) = cc a := by
  apply Fin.ext
  show ((a % 97) % 97).toNat = (a % 97).toNat
  omega
theorem cc_eq {a b : Int} : cc a = cc b ↔ a % 97 = b % 97 := by
  constructor
  · intro h
    have h2 : (a % 97).toNat = (b % 97).toNat := congrArg Fin.val h
    omega
  · intro h
    apply Fin.ext
    show (a % 97).toNat = (b % 97).toNat
    rw [h]
theorem cc_0 {a : Int} : cc a = 0 ↔ a % 97 = 0 := (cc_eq (a := a) (b := 0))
theorem cc_small {a b : Int} (ha : 0 ≤ a ∧ a ≤ 96) (hb : 0 ≤ b ∧ b ≤ 96) (h : cc a = cc b) : a = b := by
  have := cc_eq.mp h
  omega
theorem fld {x y : G} (h : x * y = 0) : x = 0 ∨ y = 0 := by
  have : ∀ x y : G, x * y = 0 → x = 0 ∨ y = 0 := by decide +kernel
  exact this x y h
/-- the inverse as the program reckons it -/
def ivI (a : Int) : Int := a ^ 95 % 97
theorem iv_cc {a : Int} (h : cc a ≠ 0) : cc a * cc (ivI a) = 1 := by
  unfold ivI
  rw [cc_mod, ← cc_mul]
  have g : ∀ x : Fin 97, x.val ≠ 0 → ((x.val : Int) * (x.val : Int) ^ 95) % 97 = 1 := by decide +kernel
  have hr := Int.emod_nonneg a (show (97 : Int) ≠ 0 by decide)
  have hr2 := Int.emod_lt_of_pos a (show (0 : Int) < 97 by decide)
  have g2 := g ⟨(a % 97).toNat, by omega⟩ (fun z => h (cc_0.mpr (by
    have z2 : (a % 97).toNat = 0 := z
    omega)))
  dsimp only at g2
  rw [Int.toNat_of_nonneg hr] at g2
  refine (cc_eq (b := 1)).mpr ?_
  rw [Int.mul_emod, show a ^ 95 % 97 = (a % 97) ^ 95 % 97 from by
    have pm : ∀ n : Nat, a ^ n % 97 = (a % 97) ^ n % 97 := fun n => by
      induction n with
      | zero => rw [Int.pow_zero, Int.pow_zero]
      | succ n ih => rw [Int.pow_succ, Int.pow_succ, Int.mul_emod, ih, Int.mul_emod ((a % 97) ^ n) (a % 97), Int.emod_emod]
    exact pm 95, ← Int.emod_emod a 97, ← Int.mul_emod]
  rw [Int.emod_emod] at *
  exact g2
/-- the sign of a place -/
def pw (i : Nat) : G := cc (5 ^ i)
theorem pw_ne (i : Nat) : pw i ≠ 0 := fun z => by
  have h := cc_0.mp z
  have := turn_ne (d := 1) i (by rw [Int.one_mul]; exact h)
  cases this
theorem pw_inj {i k : Nat} (hi : i < 24) (hk : k < 24) (h : pw i = pw k) : i = k := by
  have d : ∀ a b : Fin 24, (5 : Int) ^ a.val % 97 = 5 ^ b.val % 97 → a.val = b.val := by decide +kernel
  exact d ⟨i, hi⟩ ⟨k, hk⟩ (cc_eq.mp h)
theorem pw_mul (i j : Nat) : cc (5 ^ (i * (j + 1))) = cc (5 ^ (i * j)) * pw i := by
  unfold pw
  rw [Nat.mul_succ, Int.pow_add, cc_mul]
/-- the powers 1 to 6 -/
def pj (X : G) : Nat → G
  | 0 => X
  | k + 1 => pj X k * X
theorem pj_ok (i : Nat) : ∀ k, cc (5 ^ (i * (k + 1))) = pj (pw i) k
  | 0 => by rw [Nat.zero_add, Nat.mul_one]; rfl
  | k + 1 => by rw [pw_mul, pj_ok i k]; rfl
section
variable {R : Type} [Lean.Grind.CommRing R]
theorem id_below (a b X Y : R) : (a * X + b * Y) * (a * (X * X * X) + b * (Y * Y * Y)) - (a * (X * X) + b * (Y * Y)) * (a * (X * X) + b * (Y * Y)) = a * (b * (X * (Y * ((X - Y) * (X - Y))))) := by grind
theorem id_s (a b X Y : R) : (a * X + b * Y) * (a * (X * X * X * X) + b * (Y * Y * Y * Y)) - (a * (X * X) + b * (Y * Y)) * (a * (X * X * X) + b * (Y * Y * Y)) = (X + Y) * (a * (b * (X * (Y * ((X - Y) * (X - Y)))))) := by grind
theorem id_p (a b X Y : R) : (a * (X * X) + b * (Y * Y)) * (a * (X * X * X * X) + b * (Y * Y * Y * Y)) - (a * (X * X * X) + b * (Y * Y * Y)) * (a * (X * X * X) + b * (Y * Y * Y)) = X * Y * (a * (b * (X * (Y * ((X - Y) * (X - Y)))))) := by grind
theorem id_quot (s m o : R) (h : m * o = 1) : s * m * o = s := by grind
theorem id_rx (X Y : R) : X * X - (X + Y) * X + X * Y = 0 := by grind
theorem id_ry (X Y : R) : Y * Y - (X + Y) * Y + X * Y = 0 := by grind
theorem id_rec (a b X Y U V : R) : (X + Y) * (a * (U * X) + b * (V * Y)) - X * Y * (a * U + b * V) = a * (U * X * X) + b * (V * Y * Y) := by grind
theorem id_rec0 (a b X Y : R) : (X + Y) * (a * (X * X) + b * (Y * Y)) - X * Y * (a * X + b * Y) = a * (X * X * X) + b * (Y * Y * Y) := by grind
/-- from the recurrence back to the two turns -/
theorem id_back (s p X a U _W : R) (h : X * X - s * X + p = 0) : s * (a * (U * X)) - p * (a * U) = a * (U * X * X) := by grind
theorem id_f0 (F0 F1 Y X a b i1 i2 : R) (h1 : X * (X - Y) * i1 = 1) (h2 : Y * i2 = 1) (ha : a = (F1 - F0 * Y) * i1) (hb : b = (F0 - a * X) * i2) : F0 = a * X + b * Y ∧ F1 = a * (X * X) + b * (Y * Y) := by
  have e0 : F0 = a * X + b * Y := by rw [hb]; grind
  have e1 : a * (X * (X - Y)) = F1 - F0 * Y := by rw [ha]; grind
  exact ⟨e0, by grind⟩
theorem id_inv (V X i : R) (h : X * i = 1) : V * X * i = V := by grind
theorem id_quo1 (V X i : R) (h : V * X * i = 1) : V * (X * X) * i = X := by grind
theorem id_add0 (a b c : R) (h : a = b + c) : a - b - c = 0 := by grind
theorem id_sub (a b : R) (h : a - b = 0) : a = b := by grind
theorem id_inv' (V X i : R) (h : X * i = 1) : V * i * X = V := by grind
theorem id_self (a : R) : a - a = 0 := by grind
theorem id_dist (s p U V A B X Y : R) : s * (U * (A * X) + V * (B * Y)) - p * (U * A + V * B) = (s * (U * (A * X)) - p * (U * A)) + (s * (V * (B * Y)) - p * (V * B)) := by grind
theorem id_z1 (x v P : R) : v * P + (x - v - x) * P = 0 := by grind
theorem id_z2 (x u y v P Q : R) : u * P + v * Q + (x - u - x) * P + (y - v - y) * Q = 0 := by grind
theorem id_o1 (x y P f : R) (h : f + (y - x) * P = 0) : f = (x - y) * P := by grind
theorem id_o2 (x y P x' y' Q f : R) (h : f + (y - x) * P + (y' - x') * Q = 0) : f = (x - y) * P + (x' - y') * Q := by grind
end
theorem mul_ne {x y : G} (hx : x ≠ 0) (hy : y ≠ 0) : x * y ≠ 0 := fun z => by
  rcases fld z with h | h
  · exact hx h
  · exact hy h
theorem sub_ne {x y : G} (h : x ≠ y) : x - y ≠ 0 := fun z => h (id_sub x y z)
/-! ### what makes six sums -/
def fs6 (fs : List Int) : Prop := fs.length = 6 ∧ ∀ v ∈ fs, 0 ≤ v ∧ v ≤ 96
/-- the sum k -/
def fk (fs : List Int) (k : Nat) : G := cc (fs.getD k 0)
def One (fs : List Int) (i : Nat) (V : G) : Prop := ∀ k, k < 6 → fk fs k = V * pj (pw i) k
def Two (fs : List Int) (i : Nat) (U : G) (k : Nat) (V : G) : Prop := ∀ m, m < 6 → fk fs m = U * pj (pw i) m + V * pj (pw k) m
def OneR (fs : List Int) : Option (Nat × Int) → Prop
  | some (i, v) => i < 24 ∧ (0 ≤ v ∧ v ≤ 96) ∧ One fs i (cc v)
  | none => ∀ i, i < 24 → ∀ V : G, V ≠ 0 → ¬ One fs i V
def OneOr (fs : List Int) : Prop := ∀ i k, i < 24 → k < 24 → i ≠ k → ∀ U V : G, U ≠ 0 → V ≠ 0 → ¬ Two fs i U k V
def TwoR (fs : List Int) : Option ((Nat × Int) × (Nat × Int)) → Prop
  | some ((i, u), (k, v)) => i < 24 ∧ k < 24 ∧ i ≠ k ∧ (0 ≤ u ∧ u ≤ 96) ∧ (0 ≤ v ∧ v ≤ 96) ∧ Two fs i (cc u) k (cc v)
  | none => ∀ i k, i < 24 → k < 24 → i ≠ k → ∀ U V : G, U ≠ 0 → V ≠ 0 → ¬ Two fs i U k V
theorem fk_at {fs : List Int} (h : fs6 fs) {k : Nat} (hk : k < 6) : ∃ v, fs[k]? = some v ∧ (0 ≤ v ∧ v ≤ 96) ∧ fk fs k = cc v := by
  have hl : k < fs.length := by rw [h.1]; exact hk
  refine ⟨fs[k], List.getElem?_eq_getElem hl, h.2 _ (List.getElem_mem _), ?_⟩
  unfold fk
  rw [List.getD_eq_getElem?_getD, List.getElem?_eq_getElem hl]
  rfl
theorem pj_ne {X : G} (h : X ≠ 0) : ∀ k, pj X k ≠ 0
  | 0 => h
  | k + 1 => mul_ne (pj_ne h k) h
/-- one turn: found -/
theorem one_some {fs : List Int} {x : G} {i : Nat} {v : G} (hx : x = pw i) (hr : ∀ k, k < 5 → fk fs (k + 1) = fk fs k * x) (hv : fk fs 0 = v * x) : One fs i v := by
  subst hx
  intro k
  induction k with
  | zero => intro _; exact hv
  | succ k ih =>
    intro hk
    rw [hr k (by omega), ih (by omega)]
    exact Lean.Grind.Semiring.mul_assoc _ _ _
/-- one turn: what it tells -/
theorem one_tells {fs : List Int} {i : Nat} {V : G} (h : One fs i V) (hV : V ≠ 0) : (∀ k, k < 6 → fk fs k ≠ 0) ∧ (∀ k, k < 5 → fk fs (k + 1) = fk fs k * pw i) ∧ ∀ o, fk fs 0 * o = 1 → fk fs 1 * o = pw i := by
  refine ⟨fun k hk => ?_, fun k hk => ?_, fun o ho => ?_⟩
  · rw [h k hk]
    exact mul_ne hV (pj_ne (pw_ne i) k)
  · rw [h (k + 1) (by omega), h k (by omega)]
    exact (Lean.Grind.Semiring.mul_assoc _ _ _).symm
  · rw [h 0 (by omega)] at ho
    rw [h 1 (by omega)]
    exact id_quo1 V (pw i) o ho
/-- two turns: found -/
theorem two_some {fs : List Int} {s p U V : G} {i k : Nat} (h0 : fk fs 0 = U * pw i + V * pw k) (h1 : fk fs 1 = U * (pw i * pw i) + V * (pw k * pw k)) (hi : pw i * pw i - s * pw i + p = 0) (hk : pw k * pw k - s * pw k + p = 0)
    (hr : ∀ j, j < 4 → fk fs (j + 2) = s * fk fs (j + 1) - p * fk fs j) : Two fs i U k V := by
  have key : ∀ m, m < 5 → fk fs m = U * pj (pw i) m + V * pj (pw k) m ∧ fk fs (m + 1) = U * pj (pw i) (m + 1) + V * pj (pw k) (m + 1) := fun m => by
    induction m with
    | zero => intro _; exact ⟨h0, h1⟩
    | succ m ih =>
      intro hm
      obtain ⟨a, b⟩ := ih (by omega)
      refine ⟨b, ?_⟩
      rw [hr m (by omega), a, b]
      have x1 := id_back s p (pw i) U (pj (pw i) m) 0 hi
      have x2 := id_back s p (pw k) V (pj (pw k) m) 0 hk
      show s * (U * (pj (pw i) m * pw i) + V * (pj (pw k) m * pw k)) - p * (U * pj (pw i) m + V * pj (pw k) m) = U * (pj (pw i) m * pw i * pw i) + V * (pj (pw k) m * pw k * pw k)
      rw [← x1, ← x2]
      exact id_dist s p U V (pj (pw i) m) (pj (pw k) m) (pw i) (pw k)
  intro m hm
  by_cases h : m = 5
  · subst h
    exact (key 4 (by omega)).2
  · exact (key m (by omega)).1
/-- two turns: what it tells -/
theorem two_tells {fs : List Int} {i k : Nat} {U V : G} (h : Two fs i U k V) (hi : i < 24) (hk : k < 24) (hik : i ≠ k) (hU : U ≠ 0) (hV : V ≠ 0) :
    fk fs 0 * fk fs 2 - fk fs 1 * fk fs 1 ≠ 0 ∧ ∀ o s p, (fk fs 0 * fk fs 2 - fk fs 1 * fk fs 1) * o = 1 → s = (fk fs 0 * fk fs 3 - fk fs 1 * fk fs 2) * o → p = (fk fs 1 * fk fs 3 - fk fs 2 * fk fs 2) * o →
      s = pw i + pw k ∧ p = pw i * pw k ∧ ∀ j, j < 4 → fk fs (j + 2) = s * fk fs (j + 1) - p * fk fs j := by
  have hb : fk fs 0 * fk fs 2 - fk fs 1 * fk fs 1 = U * (V * (pw i * (pw k * ((pw i - pw k) * (pw i - pw k))))) := by
    rw [h 0 (by omega), h 1 (by omega), h 2 (by omega)]
    exact id_below U V (pw i) (pw k)
  have hne : pw i - pw k ≠ 0 := sub_ne fun z => hik (pw_inj hi hk z)
  refine ⟨by rw [hb]; exact mul_ne hU (mul_ne hV (mul_ne (pw_ne i) (mul_ne (pw_ne k) (mul_ne hne hne)))), fun o s p ho hs hp => ?_⟩
  have e1 : s = pw i + pw k := by
    rw [hs, h 0 (by omega), h 1 (by omega), h 2 (by omega), h 3 (by omega)]
    rw [hb] at ho
    refine (congrArg (· * o) (id_s U V (pw i) (pw k))).trans (id_quot _ _ o ho)
  have e2 : p = pw i * pw k := by
    rw [hp, h 1 (by omega), h 2 (by omega), h 3 (by omega)]
    rw [hb] at ho
    refine (congrArg (· * o) (id_p U V (pw i) (pw k))).trans (id_quot _ _ o ho)
  refine ⟨e1, e2, fun j hj => ?_⟩
  rw [e1, e2, h (j + 2) (by omega), h (j + 1) (by omega), h j (by omega)]
  exact (id_rec U V (pw i) (pw k) (pj (pw i) j) (pj (pw k) j)).symm
/-! ### the mended cell -/
def sld (ys : List Int) : Prop := ∀ m, 1 ≤ m → m ≤ 6 → sj m 0 ys % 97 = 0
def Md (xs : List Int) : Option (List Int) → Prop
  | some ys => okc 24 ys ∧ sld ys ∧ (unl xs ys).length ≤ 2
  | none => ∀ ys, okc 24 ys → sld ys → 2 < (unl xs ys).length
/-- the sums of a cell -/
def sumsOf (fs xs : List Int) : Prop := ∀ k, k < 6 → fk fs k = cc (sj (k + 1) 0 xs)
theorem sums_set {fs xs : List Int} {i : Nat} {x y : Int} (h : xs[i]? = some x) (k : Nat) : cc (sj (k + 1) 0 (xs.set i y)) = cc (sj (k + 1) 0 xs) + cc (y - x) * pj (pw i) k := by
  rw [sj_set (k + 1) 0 i xs x y h, cc_add, cc_mul, Nat.zero_add, pj_ok]
theorem unl_set {xs : List Int} {i : Nat} {y : Int} : (unl xs (xs.set i y)).length ≤ 1 := by
  have : ∀ n ∈ unl xs (xs.set i y), n = i := fun n hn => by
    have h := (List.mem_filter.mp hn).2
    refine Classical.byContradiction fun z => ?_
    rw [List.getElem?_set, if_neg (fun q => z q.symm)] at h
    simp at h
  have nd : (unl xs (xs.set i y)).Nodup := List.Nodup.sublist List.filter_sublist List.nodup_range
  match e : unl xs (xs.set i y), nd, this with
  | [], _, _ => exact Nat.zero_le _
  | [_], _, _ => exact Nat.le_refl _
  | a :: b :: l, nd, t =>
    have h1 := t a List.mem_cons_self
    have h2 := t b (List.mem_cons_of_mem _ List.mem_cons_self)
    rw [h1, h2] at nd
    exact absurd List.mem_cons_self (List.nodup_cons.mp nd).1
theorem unl_set2 {xs : List Int} {i k : Nat} {y z : Int} : (unl xs ((xs.set i y).set k z)).length ≤ 2 := by
  have : ∀ n ∈ unl xs ((xs.set i y).set k z), n ∈ [i, k] := fun n hn => by
    have h := (List.mem_filter.mp hn).2
    refine Classical.byContradiction fun q => ?_
    simp only [List.mem_cons, List.not_mem_nil, or_false, not_or] at q
    rw [List.getElem?_set, if_neg (fun w => q.2 w.symm), List.getElem?_set, if_neg (fun w => q.1 w.symm)] at h
    simp at h
  have nd : (unl xs ((xs.set i y).set k z)).Nodup := List.Nodup.sublist List.filter_sublist List.nodup_range
  match e : unl xs ((xs.set i y).set k z), nd, this with
  | [], _, _ => exact Nat.zero_le _
  | [_], _, _ => exact Nat.le_of_ble_eq_true rfl
  | [_, _], _, _ => exact Nat.le_refl _
  | a :: b :: c :: l, nd, t =>
    have h1 := t a List.mem_cons_self
    have h2 := t b (List.mem_cons_of_mem _ List.mem_cons_self)
    have h3 := t c (List.mem_cons_of_mem _ (List.mem_cons_of_mem _ List.mem_cons_self))
    simp only [List.mem_cons, List.not_mem_nil, or_false] at h1 h2 h3
    simp only [List.nodup_cons, List.mem_cons, not_or] at nd
    obtain ⟨⟨n1, n2, _⟩, ⟨n3, _⟩, _⟩ := nd
    rcases h1 with rfl | rfl <;> rcases h2 with rfl | rfl <;> rcases h3 with rfl | rfl <;> first | exact absurd rfl n1 | exact absurd rfl n2 | exact absurd rfl n3
theorem okc_set {xs : List Int} {i : Nat} {y : Int} (h : okc 24 xs) (hy : 0 ≤ y ∧ y ≤ 96) : okc 24 (xs.set i y) := ⟨by rw [List.length_set]; exact h.1, fun v hv => by
  rcases List.mem_or_eq_of_mem_set hv with z | z
  · exact h.2 v z
  · rw [z]; exact hy⟩
theorem sld_of {fs xs : List Int} (h : sumsOf fs xs) (hz : ∀ k, k < 6 → fk fs k = 0) : sld xs := fun m h1 h2 => by
  have := h (m - 1) (by omega)
  rw [hz _ (by omega), show m - 1 + 1 = m by omega] at this
  exact cc_0.mp this.symm
theorem okc_mod (a : Int) : 0 ≤ a % 97 ∧ a % 97 ≤ 96 := by omega
theorem md_one {fs xs : List Int} {i : Nat} {v x : Int} (hx : okc 24 xs) (h : sumsOf fs xs) (ho : One fs i (cc v)) (hi : xs[i]? = some x) : Md xs (some (xs.set i ((x - v) % 97))) := by
  refine ⟨okc_set hx (okc_mod _), fun m h1 h2 => ?_, Nat.le_trans unl_set (by decide)⟩
  obtain ⟨k, rfl⟩ : ∃ k, m = k + 1 := ⟨m - 1, by omega⟩
  refine cc_0.mp ?_
  rw [sums_set (fs := fs) hi, ← h k (by omega), ho k (by omega), cc_sub, cc_mod, cc_sub]
  exact id_z1 _ _ _
theorem md_two {fs xs : List Int} {i k : Nat} {u v x y : Int} (hx : okc 24 xs) (h : sumsOf fs xs) (ho : Two fs i (cc u) k (cc v)) (hi : xs[i]? = some x) (hk : xs[k]? = some y) (hik : i ≠ k) : Md xs (some ((xs.set i ((x - u) % 97)).set k ((y - v) % 97))) := by
  refine ⟨okc_set (okc_set hx (okc_mod _)) (okc_mod _), fun m h1 h2 => ?_, unl_set2⟩
  obtain ⟨n, rfl⟩ : ∃ k, m = k + 1 := ⟨m - 1, by omega⟩
  refine cc_0.mp ?_
  have hk2 : (xs.set i ((x - u) % 97))[k]? = some y := by rw [List.getElem?_set, if_neg hik]; exact hk
  rw [sums_set (fs := fs) hk2, sums_set (fs := fs) hi, ← h n (by omega), ho n (by omega), cc_sub, cc_mod, cc_sub, cc_sub, cc_mod, cc_sub]
  exact id_z2 _ _ _ _ _ _
/-- no more than two places unlike -/
theorem near {xs ys : List Int} (hx : okc 24 xs) (hy : okc 24 ys) (h : (unl xs ys).length ≤ 2) :
    ys = xs ∨ (∃ i x y, i < 24 ∧ xs[i]? = some x ∧ (0 ≤ y ∧ y ≤ 96) ∧ x ≠ y ∧ (0 ≤ x ∧ x ≤ 96) ∧ ys = xs.set i y) ∨
    ∃ i k x y x' y', i < 24 ∧ k < 24 ∧ i ≠ k ∧ xs[i]? = some x ∧ xs[k]? = some x' ∧ x ≠ y ∧ x' ≠ y' ∧ (0 ≤ x ∧ x ≤ 96) ∧ (0 ≤ y ∧ y ≤ 96) ∧ (0 ≤ x' ∧ x' ≤ 96) ∧ (0 ≤ y' ∧ y' ≤ 96) ∧ ys = (xs.set i y).set k y' := by
  have lx : xs.length = 24 := by have := hx.1; omega
  have ly : ys.length = 24 := by have := hy.1; omega
  have hm : ∀ n, n ∉ unl xs ys → xs[n]? = ys[n]? := fun n hn => by
    by_cases h24 : n < 24
    · refine Classical.byContradiction fun z => hn (List.mem_filter.mpr ⟨List.mem_range.mpr h24, by simpa using z⟩)
    · rw [List.getElem?_eq_none (by omega), List.getElem?_eq_none (by omega)]
  have hin : ∀ n ∈ unl xs ys, n < 24 ∧ ∃ x y, xs[n]? = some x ∧ ys[n]? = some y ∧ x ≠ y ∧ (0 ≤ x ∧ x ≤ 96) ∧ (0 ≤ y ∧ y ≤ 96) := fun n hn => by
    obtain ⟨h1, h2⟩ := List.mem_filter.mp hn
    have h1 := List.mem_range.mp h1
    obtain ⟨x, hx1⟩ : ∃ x, xs[n]? = some x := ⟨_, List.getElem?_eq_getElem (by omega)⟩
    obtain ⟨y, hy1⟩ : ∃ y, ys[n]? = some y := ⟨_, List.getElem?_eq_getElem (by omega)⟩
    refine ⟨h1, x, y, hx1, hy1, fun z => ?_, hx.2 x (List.mem_of_getElem? hx1), hy.2 y (List.mem_of_getElem? hy1)⟩
    rw [hx1, hy1, z] at h2
    simp at h2
  have nd : (unl xs ys).Nodup := List.Nodup.sublist List.filter_sublist List.nodup_range
  match e : unl xs ys, nd, h with
  | [], _, _ =>
    refine .inl (List.ext_getElem? fun n => (hm n ?_).symm)
    rw [e]
    exact List.not_mem_nil
  | [i], _, _ =>
    obtain ⟨h24, x, y, h1, h2, h3, h4, h5⟩ := hin i (by rw [e]; exact List.mem_cons_self)
    refine .inr (.inl ⟨i, x, y, h24, h1, h5, h3, h4, List.ext_getElem? fun n => ?_⟩)
    rw [List.getElem?_set]
    by_cases hn : i = n
    · subst hn
      rw [if_pos rfl, if_pos (by omega), h2]
    · rw [if_neg hn]
      exact (hm n (by rw [e]; simpa using fun z => hn z.symm)).symm
  | [i, k], nd, _ =>
    obtain ⟨h24, x, y, h1, h2, h3, h4, h5⟩ := hin i (by rw [e]; exact List.mem_cons_self)
    obtain ⟨k24, x', y', g1, g2, g3, g4, g5⟩ := hin k (by rw [e]; exact List.mem_cons_of_mem _ List.mem_cons_self)
    have hik : i ≠ k := fun z => by
      rw [z] at nd
      exact absurd List.mem_cons_self (List.nodup_cons.mp nd).1
    refine .inr (.inr ⟨i, k, x, y, x', y', h24, k24, hik, h1, g1, h3, g3, h4, h5, g4, g5, List.ext_getElem? fun n => ?_⟩)
    rw [List.getElem?_set]
    by_cases hn : k = n
    · subst hn
      rw [if_pos rfl, if_pos (by rw [List.length_set]; omega), g2]
    · rw [if_neg hn, List.getElem?_set]
      by_cases hn2 : i = n
      · subst hn2
        rw [if_pos rfl, if_pos (by omega), h2]
      · rw [if_neg hn2]
        exact (hm n (by rw [e]; simp only [List.mem_cons, List.not_mem_nil, or_false, not_or]; exact ⟨fun z => hn2 z.symm, fun z => hn z.symm⟩)).symm
  | _ :: _ :: _ :: _, _, h => simp at h
theorem diff_ne {x y : Int} (hx : 0 ≤ x ∧ x ≤ 96) (hy : 0 ≤ y ∧ y ≤ 96) (h : x ≠ y) : cc (x - y) ≠ 0 := fun z => by
  have := cc_0.mp z
  omega
/-- none is near -/
theorem md_none {fs xs : List Int} (hx : okc 24 xs) (h : sumsOf fs xs) (hz : ¬ ∀ k, k < 6 → fk fs k = 0) (h1 : OneR fs none) (h2 : TwoR fs none) : Md xs none := fun ys hy hs => by
  refine Classical.byContradiction fun hn => ?_
  have hs' : ∀ k, k < 6 → cc (sj (k + 1) 0 ys) = 0 := fun k hk => cc_0.mpr (hs (k + 1) (by omega) (by omega))
  rcases near hx hy (by omega) with rfl | ⟨i, x, y, hi, hxi, hyb, hne, hxb, rfl⟩ | ⟨i, k, x, y, x', y', hi, hk, hik, hxi, hxk, hne, hne', hxb, hyb, hxb', hyb', rfl⟩
  · exact hz fun k hk => by rw [h k hk]; exact hs' k hk
  · refine h1 i hi (cc (x - y)) (diff_ne hxb hyb hne) fun k hk => ?_
    have := hs' k hk
    rw [sums_set (fs := fs) hxi, ← h k hk, cc_sub] at this
    rw [cc_sub]
    exact id_o1 _ _ _ _ this
  · refine h2 i k hi hk hik (cc (x - y)) (cc (x' - y')) (diff_ne hxb hyb hne) (diff_ne hxb' hyb' hne') fun m hm => ?_
    have := hs' m hm
    have hk2 : (xs.set i y)[k]? = some x' := by rw [List.getElem?_set, if_neg hik]; exact hxk
    rw [sums_set (fs := fs) hk2, sums_set (fs := fs) hxi, ← h m hm, cc_sub, cc_sub] at this
    rw [cc_sub, cc_sub]
    exact id_o2 _ _ _ _ _ _ _ this
/-! ### the plain law: digits -/
/-- the low digits of n, the lowest first -/
def dg : Nat → Int → List Int
  | 0, _ => []
  | m + 1, n => n % 97 :: dg m (n / 97)
def tp : Nat → Int → Int
  | 0, n => n
  | m + 1, n => tp m (n / 97)
def lv : List Int → Int
  | [] => 0
  | d :: ys => lv ys * 97 + d
def val (xs : List Int) : Int := lv xs.reverse
def dgs (xs : List Int) : Prop := ∀ v ∈ xs, 0 ≤ v ∧ v < 97
theorem dg_len : ∀ (m : Nat) (n : Int), (dg m n).length = m
  | 0, _ => rfl
  | m + 1, n => by rw [dg, List.length_cons, dg_len m]
theorem dg_lv : ∀ ys : List Int, dgs ys → dg ys.length (lv ys) = ys ∧ tp ys.length (lv ys) = 0
  | [], _ => ⟨rfl, rfl⟩
  | d :: ys, h => by
    have hd := h d List.mem_cons_self
    obtain ⟨h1, h2⟩ := dg_lv ys fun v hv => h v (List.mem_cons_of_mem _ hv)
    have e1 : (lv ys * 97 + d) % 97 = d := by omega
    have e2 : (lv ys * 97 + d) / 97 = lv ys := by omega
    rw [List.length_cons, lv, dg, tp, e1, e2, h1, h2]
    exact ⟨rfl, rfl⟩
theorem tp_zero : ∀ (m : Nat) (n : Int), tp m n = 0 ↔ 0 ≤ n ∧ n < 97 ^ m
  | 0, n => by rw [tp, Int.pow_zero]; omega
  | m + 1, n => by
    rw [tp, tp_zero m (n / 97), Int.pow_succ]
    generalize (97 : Int) ^ m = p
    omega
theorem val_ok {xs : List Int} (h : dgs xs) : (dg xs.length (val xs)).reverse = xs ∧ tp xs.length (val xs) = 0 := by
  have := dg_lv xs.reverse fun v hv => h v (List.mem_reverse.mp hv)
  rw [List.length_reverse] at this
  unfold val
  rw [this.1, List.reverse_reverse]
  exact ⟨rfl, this.2⟩
theorem val_snoc (xs : List Int) (d : Int) : val (xs ++ [d]) = val xs * 97 + d := by
  unfold val
  rw [List.reverse_append]
  rfl
theorem val_nought (m : Nat) : val (List.replicate m 0) = 0 := by
  induction m with
  | zero => rfl
  | succ m ih =>
    rw [List.replicate_succ', val_snoc, ih]
    rfl
theorem val_top (m : Nat) : val (List.replicate m 96) = 97 ^ m - 1 := by
  induction m with
  | zero => rfl
  | succ m ih =>
    rw [List.replicate_succ', val_snoc, ih, Int.pow_succ]
    omega
theorem dgs_rep {m : Nat} {d : Int} (h : 0 ≤ d ∧ d < 97) : dgs (List.replicate m d) := fun v hv => by
  rw [List.eq_of_mem_replicate hv]
  exact h
/-! ### fates, as data -/
abbrev FT := List (Int × List (Int × Int))
def prD (t : Int × Int) : D := .tup [.int t.1, .int t.2]
def trD (ts : List (Int × Int)) : D := .tup (ts.map prD)
def arD (x : Int × List (Int × Int)) : D := .tup [.int x.1, trD x.2]
def ftD (f : FT) : D := .tup (f.map arD)
def fsD (fs : List FT) : List D := fs.map ftD
def fitA (x : Int × List (Int × Int)) : Bool := decide (x.2.length ≤ 2)
def fit (f : FT) : Bool := f.any fitA
def prP (t : Int × Int) : PyData := .tuple [.int t.1, .int t.2]
def trP (ts : List (Int × Int)) : PyData := .tuple (ts.map prP)
def arP (x : Int × List (Int × Int)) : PyData := .tuple [.int x.1, trP x.2]
def ftP (f : FT) : PyData := .tuple (f.map arP)
theorem dpds_map {α : Type} {L : Lg} {f : α → D} {g : α → PyData} (h : ∀ a, Dpd L (f a) (g a)) : ∀ {xs : List α}, Dpds L (xs.map f) (xs.map g)
  | [] => .nil
  | _ :: _ => .cons (h _) (dpds_map h)
theorem dpd_tr {L : Lg} (ts : List (Int × Int)) : Dpd L (trD ts) (trP ts) := .tup (dpds_map fun _ => .tup (.cons .int (.cons .int .nil)))
theorem dpd_ft {L : Lg} (f : FT) : Dpd L (ftD f) (ftP f) := .tup (dpds_map (f := arD) (g := arP) fun x => .tup (.cons .int (.cons (dpd_tr x.2) .nil)))
theorem dpds_fs {L : Lg} {fs : List FT} : Dpds L (fsD fs) (fs.map ftP) := dpds_map dpd_ft
theorem shp_all {α : Type} {k : Nat} {g : α → PyData} {xs : List α} (h : ∀ a, Shp k (g a)) : ∀ d ∈ xs.map g, Shp k d := fun d hd => by
  obtain ⟨x, _, rfl⟩ := List.mem_map.mp hd
  exact h x
theorem shp_pr {k : Nat} (t : Int × Int) : Shp (k + 1) (prP t) := shp_tup fun d hd => by
  rcases List.mem_cons.mp hd with rfl | hd
  · exact shp_int
  · rcases List.mem_cons.mp hd with rfl | hd
    · exact shp_int
    · cases hd
theorem shp_tr {k : Nat} (ts : List (Int × Int)) : Shp (k + 2) (trP ts) := shp_tup (shp_all shp_pr)
theorem shp_ar {k : Nat} (x : Int × List (Int × Int)) : Shp (k + 3) (arP x) := shp_tup fun d hd => by
  rcases List.mem_cons.mp hd with rfl | hd
  · exact shp_int
  · rcases List.mem_cons.mp hd with rfl | hd
    · exact shp_tr _
    · cases hd
theorem shp_ft {k : Nat} (f : FT) : Shp (k + 4) (ftP f) := shp_tup (shp_all shp_ar)
theorem shp_fs {k : Nat} (fs : List FT) : Shp (k + 5) (.list (fs.map ftP)) := shp_lst (shp_all shp_ft)
theorem shaped_fs {fs : List FT} : SeqAt.shaped (.list (fs.map ftP)) = true := shp_ok (k := 5) (shp_fs (k := 0) fs) (by decide)
theorem ft_get {f : FT} {n : Nat} {d : D} (h : (f.map arD)[n]? = some d) : ∃ x, f[n]? = some x ∧ d = arD x := by
  rw [List.getElem?_map] at h
  cases z : f[n]? with
  | none => rw [z] at h; cases h
  | some x => rw [z] at h; exact ⟨x, rfl, (Option.some.inj h).symm⟩
theorem fs_get {fs : List FT} {n : Nat} {d : D} (h : (fsD fs)[n]? = some d) : ∃ f, fs[n]? = some f ∧ d = ftD f := by
  unfold fsD at h
  rw [List.getElem?_map] at h
  cases z : fs[n]? with
  | none => rw [z] at h; cases h
  | some x => rw [z] at h; exact ⟨x, rfl, (Option.some.inj h).symm⟩
theorem map_at {α β : Type} {g : α → β} {xs : List α} {n : Nat} {x : α} {y : β} (h : xs[n]? = some x) (h2 : (xs.map g)[n]? = some y) : y = g x := by
  rw [List.getElem?_map, h] at h2
  exact (Option.some.inj h2).symm
theorem fm_len {α : Type} {xs : List α} {p : α → Bool} {g : α → D} : ((xs.map fun x => if p x then some (g x) else none).filterMap id).length = (xs.filter p).length := by
  induction xs with
  | nil => rfl
  | cons x xs ih =>
    cases h : p x with
    | true => simp only [List.map_cons, h, if_true, List.filterMap_cons, id, List.filter_cons, List.length_cons]; rw [ih]
    | false => simp only [List.map_cons, h, Bool.false_eq_true, if_false, List.filterMap_cons, id, List.filter_cons]; exact ih
theorem filt_any {α : Type} {xs : List α} {p : α → Bool} : decide ((0 : Int) < ((xs.filter p).length : Int)) = xs.any p := by
  induction xs with
  | nil => rfl
  | cons x xs ih =>
    cases h : p x with
    | true => simp [List.filter_cons, h]; try omega
    | false => rw [List.filter_cons, h, List.any_cons, h, Bool.false_or, ← ih]; rfl
theorem filt_none {α : Type} {xs : List α} {p : α → Bool} : decide (((xs.filter p).length : Int) = 0) = xs.all fun x => !p x := by
  induction xs with
  | nil => rfl
  | cons x xs ih =>
    cases h : p x with
    | true => simp [List.filter_cons, h]; try omega
    | false => rw [List.filter_cons, h, List.all_cons, h]; exact ih
theorem fm_map {α : Type} {xs : List α} {p : α → Bool} {g : α → D} : (xs.map fun x => if p x then some (g x) else none).filterMap id = (xs.filter p).map g := by
  induction xs with
  | nil => rfl
  | cons x xs ih =>
    cases h : p x with
    | true => simp only [List.map_cons, h, if_true, List.filterMap_cons, id, List.filter_cons]; rw [ih]
    | false => simp only [List.map_cons, h, Bool.false_eq_true, if_false, List.filterMap_cons, id, List.filter_cons]; exact ih
theorem eqv_nil {ds : List PyData} : PyData.eqv (.list ds) (.list []) = ds.isEmpty := by
  cases ds <;> simp [PyData.eqv, PyData.eqvAll]
theorem get_at_set {α : Type} {x y : α} : ∀ {L : List α} {j : Nat}, Get L j x → Get (L.set j y) j y
  | _, _, .z => .z
  | _, _, .s g => .s (get_at_set g)
def cutL {α : Type} (xs : List α) (lo hi : Option Int) : List α := (xs.drop (HT.sIx xs.length 0 lo)).take (HT.sIx xs.length xs.length hi - HT.sIx xs.length 0 lo)
theorem cut_map {α : Type} {xs : List α} {f : α → D} {lo hi : Option Int} : cutD (xs.map f) lo hi = (cutL xs lo hi).map f := by
  unfold Vs.cutD cutL
  rw [List.length_map, List.map_take, List.map_drop]
theorem cutL_len {α : Type} {xs : List α} {lo hi : Option Int} : (cutL xs lo hi).length ≤ xs.length := by
  unfold cutL
  rw [List.length_take, List.length_drop]
  omega
theorem at_map {α : Type} {xs : List α} {f : α → D} {i : Int} (h0 : -(xs.length : Int) ≤ i) (h1 : i < xs.length) : ∃ x ∈ xs, atI (xs.map f) i = some (f x) := by
  unfold L2.atI L2.ixN
  rw [List.length_map]
  by_cases h : 0 ≤ i
  · rw [if_pos h, if_pos h1]
    have hl : i.toNat < xs.length := by omega
    exact ⟨xs[i.toNat], List.getElem_mem _, by show (xs.map f)[i.toNat]? = _; rw [List.getElem?_map, List.getElem?_eq_getElem hl]; rfl⟩
  · rw [if_neg h, if_pos h0]
    have hl : (i + (xs.length : Int)).toNat < xs.length := by omega
    exact ⟨xs[(i + (xs.length : Int)).toNat], List.getElem_mem _, by show (xs.map f)[(i + (xs.length : Int)).toNat]? = _; rw [List.getElem?_map, List.getElem?_eq_getElem hl]; rfl⟩
theorem pick {xs : List Int} {i : Int} (h0 : -(xs.length : Int) ≤ i) (h1 : i < xs.length) : ∃ v ∈ xs, atI (dI xs) i = some (.int v) := at_map h0 h1
theorem dpd_nats {L : Lg} {xs : List Nat} {g : Nat → Int} : Dpd L (.lst (xs.map fun k => D.int (g k))) (.list (xs.map fun k => PyData.int (g k))) := by
  refine .lst ?_
  induction xs with
  | nil => exact .nil
  | cons x xs ih => exact .cons .int ih
theorem get_lt {α : Type} {x : α} : ∀ {xs : List α} {j : Nat}, Get xs j x → j < xs.length
  | _, _, .z => Nat.succ_pos _
  | _, _, .s g => Nat.succ_lt_succ (get_lt g)
theorem set_app {α : Type} {x y : α} {xs ys : List α} {j : Nat} (g : Get xs j x) : (xs ++ ys).set j y = xs.set j y ++ ys := List.set_append_left _ _ (get_lt g)
theorem at_dIg {xs : List Int} {i : Int} (h0 : 0 ≤ i) (h1 : i < xs.length) : atI (dI xs) i = some (.int (xs.getD i.toNat 0)) := at_dI h0 (by
  rw [List.getD_eq_getElem?_getD, List.getElem?_eq_getElem (by omega)]
  rfl)
theorem rep_map {α : Type} {f : α → D} {n : Nat} {x : α} : (List.replicate n [f x]).flatten = (List.replicate n x).map f := by
  induction n with
  | zero => rfl
  | succ n ih => rw [List.replicate_succ, List.replicate_succ, List.flatten_cons, ih]; rfl
theorem set_self {α : Type} {x : α} : ∀ {xs : List α} {j : Nat}, Get xs j x → xs.set j x = xs
  | _, _, .z => rfl
  | _, _, .s g => congrArg (_ :: ·) (set_self g)
/-! ### fates that may be -/
def okA (l : Int) (t : Int × Int) : Bool := decide (l < t.1) && (decide (t.1 < 24) && (decide (1 ≤ t.2) && decide (t.2 ≤ 96)))
def okT : Int → List (Int × Int) → Bool
  | _, [] => true
  | l, t :: ts => okA l t && okT t.1 ts
def goodT (ts : List (Int × Int)) : Bool := decide (ts.length ≤ 4) && okT (-1) ts
def goodX (late : Int) (x : Int × List (Int × Int)) : Bool := (decide (1 ≤ x.1) && decide (x.1 ≤ late)) && goodT x.2
def goodF (late : Int) (f : FT) : Bool := decide (f.length ≤ 3) && f.all (goodX late)
def endP : Int → List (Int × Int) → Int
  | l, [] => l
  | _, t :: ts => endP t.1 ts
theorem endP_app : ∀ {ts : List (Int × Int)} {l : Int} {t : Int × Int}, endP l (ts ++ [t]) = t.1
  | [], _, _ => rfl
  | _ :: ts, _, _ => endP_app (ts := ts)
theorem okT_app : ∀ {ts : List (Int × Int)} {l : Int} {t : Int × Int}, okT l (ts ++ [t]) = (okT l ts && okA (endP l ts) t)
  | [], l, t => by show (okA l t && true) = (true && okA l t); rw [Bool.and_true, Bool.true_and]
  | s :: ts, l, t => by
    show (okA l s && okT s.1 (ts ++ [t])) = ((okA l s && okT s.1 ts) && okA (endP s.1 ts) t)
    rw [okT_app, Bool.and_assoc]
theorem drop_at {α : Type} {xs : List α} {i : Nat} {x : α} (h : xs[i]? = some x) : xs.drop i = x :: xs.drop (i + 1) := by
  obtain ⟨hl, e⟩ := List.getElem?_eq_some_iff.mp h
  rw [List.drop_eq_getElem_cons hl, e]
theorem pr_get {ts : List (Int × Int)} {n : Nat} {d : D} (h : (ts.map prD)[n]? = some d) : ∃ t, ts[n]? = some t ∧ d = prD t := by
  rw [List.getElem?_map] at h
  cases z : ts[n]? with
  | none => rw [z] at h; cases h
  | some x => rw [z] at h; exact ⟨x, rfl, (Option.some.inj h).symm⟩
/-! rising rows -/
def chn : Int → List Int → Bool
  | _, [] => true
  | l, x :: xs => decide (l < x) && chn x xs
theorem chn_low {c : Int} : ∀ {xs : List Int} {l : Int}, chn l (xs ++ [c]) = true → l < c
  | [], l, h => by
    have h2 : (decide (l < c) && true) = true := h
    simpa using h2
  | x :: xs, l, h => by
    have h2 : (decide (l < x) && chn x (xs ++ [c])) = true := h
    rw [Bool.and_eq_true, decide_eq_true_eq] at h2
    have := chn_low h2.2
    omega
theorem okT_chn : ∀ {ts : List (Int × Int)} {l : Int}, l < 24 → okT l ts = (chn l (ts.map (·.1) ++ [24]) && (ts.map (·.2)).all fun a => decide (1 ≤ a) && decide (a ≤ 96))
  | [], l, h => by
    show true = ((decide (l < 24) && true) && true)
    rw [decide_eq_true h]
    rfl
  | t :: ts, l, h => by
    show (decide (l < t.1) && (decide (t.1 < 24) && (decide (1 ≤ t.2) && decide (t.2 ≤ 96))) && okT t.1 ts) = ((decide (l < t.1) && chn t.1 (ts.map (·.1) ++ [24])) && ((decide (1 ≤ t.2) && decide (t.2 ≤ 96)) && (ts.map (·.2)).all fun a => decide (1 ≤ a) && decide (a ≤ 96)))
    by_cases h2 : t.1 < 24
    · rw [okT_chn h2, decide_eq_true h2]
      generalize decide (l < t.1) = a
      generalize chn t.1 (ts.map (·.1) ++ [24]) = b
      generalize (decide (1 ≤ t.2) && decide (t.2 ≤ 96)) = d
      generalize ((ts.map (·.2)).all fun a => decide (1 ≤ a) && decide (a ≤ 96)) = e
      cases a <;> cases b <;> cases d <;> cases e <;> rfl
    · have h3 : chn t.1 (ts.map (·.1) ++ [24]) = false := by
        cases z : chn t.1 (ts.map (·.1) ++ [24]) with
        | false => rfl
        | true => exact absurd (chn_low z) h2
      rw [h3, decide_eq_false h2, Bool.and_false, Bool.false_and, Bool.false_and, Bool.and_false, Bool.false_and]
/-- a row that does not rise at a place -/
theorem chn_rows : ∀ {xs : List Int} {l : Int}, chn l xs = ((List.range xs.length).filter fun k => decide ((l :: xs).getD (k + 1) 0 ≤ (l :: xs).getD k 0)).isEmpty
  | [], _ => rfl
  | x :: xs, l => by
    show (decide (l < x) && chn x xs) = _
    rw [chn_rows, List.length_cons, List.range_succ_eq_map, List.filter_cons, List.filter_map]
    have e : ((fun k => decide ((l :: x :: xs).getD (k + 1) 0 ≤ (l :: x :: xs).getD k 0)) ∘ Nat.succ) = fun k => decide ((x :: xs).getD (k + 1) 0 ≤ (x :: xs).getD k 0) := by
      funext k
      rfl
    rw [e]
    by_cases h : l < x
    · have h2 : decide ((l :: x :: xs).getD (0 + 1) 0 ≤ (l :: x :: xs).getD 0 0) = false := decide_eq_false (by show ¬ x ≤ l; omega)
      rw [h2, if_neg Bool.false_ne_true, decide_eq_true h, Bool.true_and]
      cases ((List.range xs.length).filter fun k => decide ((x :: xs).getD (k + 1) 0 ≤ (x :: xs).getD k 0)) <;> rfl
    · have h2 : decide ((l :: x :: xs).getD (0 + 1) 0 ≤ (l :: x :: xs).getD 0 0) = true := decide_eq_true (by show x ≤ l; omega)
      rw [h2, if_pos rfl, decide_eq_false h, Bool.false_and]
      rfl
theorem dpds_ar {L : Lg} {g : FT} : Dpds L (g.map arD) (g.map arP) := dpds_map (f := arD) (g := arP) fun x => .tup (.cons .int (.cons (dpd_tr x.2) .nil))
theorem shaped_ar {g : FT} : SeqAt.shaped (.list (g.map arP)) = true := shp_ok (k := 4) (shp_lst (shp_all shp_ar)) (by decide)
theorem shaped_tr {ts : List (Int × Int)} : SeqAt.shaped (trP ts) = true := shp_ok (k := 2) (shp_tr ts) (by decide)
end K34


set_option Elab.async false
set_option linter.all false
set_option maxRecDepth 100000
set_option maxHeartbeats 4000000
set_option pp.deepTerms.threshold 16
namespace K34
open PySem PySem.Spec PyProof.Rows L2 Vs
/-! ### turned cells -/
theorem nd_sub : ∀ {A B : List Nat}, A.Nodup → (∀ a ∈ A, a ∈ B) → A.length ≤ B.length
  | [], _, _, _ => Nat.zero_le _
  | a :: A, B, nd, h => by
    have nd' := List.nodup_cons.mp nd
    have hm := h a List.mem_cons_self
    have := nd_sub (A := A) (B := B.erase a) nd'.2 fun x hx => (List.mem_erase_of_ne (fun e => nd'.1 (by rw [← e]; exact hx))).mpr (h x (List.mem_cons_of_mem _ hx))
    rw [List.length_erase_of_mem hm] at this
    have := List.length_pos_of_mem hm
    rw [List.length_cons]
    omega
theorem unl_nd (xs ys : List Int) : (unl xs ys).Nodup := List.Nodup.sublist List.filter_sublist List.nodup_range
theorem unl_mem {xs ys : List Int} {i : Nat} : i ∈ unl xs ys ↔ i < 24 ∧ xs[i]? ≠ ys[i]? := by
  unfold unl
  rw [List.mem_filter, List.mem_range, decide_eq_true_eq]
theorem unl_lo {xs ys : List Int} {P : List Nat} (nd : P.Nodup) (h : ∀ p ∈ P, p < 24 ∧ xs[p]? ≠ ys[p]?) : P.length ≤ (unl xs ys).length := nd_sub nd fun p hp => unl_mem.mpr (h p hp)
theorem unl_hi {xs ys : List Int} {P : List Nat} (h : ∀ i, i < 24 → xs[i]? ≠ ys[i]? → i ∈ P) : (unl xs ys).length ≤ P.length := nd_sub (unl_nd _ _) fun p hp => h p (unl_mem.mp hp).1 (unl_mem.mp hp).2
theorem unl_sym (xs ys : List Int) : (unl xs ys).length ≤ (unl ys xs).length := nd_sub (unl_nd _ _) fun p hp => unl_mem.mpr ⟨(unl_mem.mp hp).1, fun e => (unl_mem.mp hp).2 e.symm⟩
theorem unl_tri (xs ys zs : List Int) : (unl xs zs).length ≤ (unl xs ys).length + (unl ys zs).length := by
  rw [← List.length_append]
  refine nd_sub (unl_nd _ _) fun p hp => ?_
  obtain ⟨h1, h2⟩ := unl_mem.mp hp
  rw [List.mem_append, unl_mem, unl_mem]
  by_cases e : xs[p]? = ys[p]?
  · exact .inr ⟨h1, fun z => h2 (e.trans z)⟩
  · exact .inl ⟨h1, e⟩
/-- one turn -/
def add1 (ys : List Int) (t : Nat × Int) : List Int := ys.set t.1 ((ys.getD t.1 0 + t.2) % 97)
theorem add_okc {ts : List (Nat × Int)} : ∀ {xs : List Int}, okc 24 xs → okc 24 (ts.foldl add1 xs) := by
  induction ts with
  | nil => exact fun h => h
  | cons t ts ih => exact fun h => ih (okc_set h (okc_mod _))
theorem add_out {ts : List (Nat × Int)} {i : Nat} : ∀ {xs : List Int}, i ∉ ts.map (·.1) → (ts.foldl add1 xs)[i]? = xs[i]? := by
  induction ts with
  | nil => exact fun _ => rfl
  | cons t ts ih =>
    intro xs h
    rw [List.map_cons, List.mem_cons, not_or] at h
    rw [List.foldl_cons, ih h.2]
    unfold add1
    rw [List.getElem?_set, if_neg (fun e => h.1 e.symm)]
theorem add_in {ts : List (Nat × Int)} {p : Nat} {a x : Int} : ∀ {xs : List Int}, (ts.map (·.1)).Nodup → (p, a) ∈ ts → xs[p]? = some x → (ts.foldl add1 xs)[p]? = some ((x + a) % 97) := by
  induction ts with
  | nil => exact fun _ h => (List.not_mem_nil h).elim
  | cons t ts ih =>
    intro xs nd hm hx
    rw [List.map_cons, List.nodup_cons] at nd
    rw [List.foldl_cons]
    rcases List.mem_cons.mp hm with e | hm
    · subst e
      rw [add_out nd.1]
      unfold add1
      have hl := (List.getElem?_eq_some_iff.mp hx).1
      rw [List.getElem?_set, if_pos rfl, if_pos hl, List.getD_eq_getElem?_getD, hx]
      rfl
    · refine ih nd.2 hm ?_
      unfold add1
      have : t.1 ≠ p := fun e => nd.1 (e ▸ List.mem_map_of_mem (f := (·.1)) hm)
      rw [List.getElem?_set, if_neg this]
      exact hx
/-- good turns -/
def Tns (ts : List (Nat × Int)) : Prop := (ts.map (·.1)).Nodup ∧ ∀ t ∈ ts, t.1 < 24 ∧ t.2 % 97 ≠ 0
theorem add_unl_hi {ts : List (Nat × Int)} {xs : List Int} : (unl (ts.foldl add1 xs) xs).length ≤ ts.length := by
  have := unl_hi (xs := ts.foldl add1 xs) (ys := xs) (P := ts.map (·.1)) fun i _ hd => Classical.byContradiction fun z => hd (add_out z)
  rwa [List.length_map] at this
theorem add_unl_lo {ts : List (Nat × Int)} {xs : List Int} (hx : okc 24 xs) (h : Tns ts) : ts.length ≤ (unl (ts.foldl add1 xs) xs).length := by
  have := unl_lo (xs := ts.foldl add1 xs) (ys := xs) (P := ts.map (·.1)) h.1 fun p hp => by
    obtain ⟨⟨p', a⟩, hm, rfl⟩ := List.mem_map.mp hp
    have hp := h.2 _ hm
    have hl : p' < xs.length := by have := hx.1; have := hp.1; omega
    have hxp : xs[p']? = some xs[p'] := List.getElem?_eq_getElem hl
    have hb := hx.2 _ (List.getElem_mem hl)
    refine ⟨hp.1, ?_⟩
    show (ts.foldl add1 xs)[p']? ≠ xs[p']?
    rw [add_in h.1 hm hxp, hxp]
    intro e
    have e := Option.some.inj e
    have h2 : a % 97 ≠ 0 := hp.2
    omega
  rwa [List.length_map] at this
/-- few turns: the mended one is the sealed one -/
theorem md_few {ts : List (Nat × Int)} {xs : List Int} (hx : okc 24 xs) (hs : sld xs) (hl : ts.length ≤ 2) : ¬ Md (ts.foldl add1 xs) none ∧ ∀ ys, Md (ts.foldl add1 xs) (some ys) → ys = xs := by
  have hu := add_unl_hi (ts := ts) (xs := xs)
  refine ⟨fun h => ?_, fun ys h => Classical.byContradiction fun hn => ?_⟩
  · have := h xs hx hs
    omega
  · have h7 := seven h.1 hx h.2.1 hs hn
    have h1 := unl_tri ys (ts.foldl add1 xs) xs
    have h2 := unl_sym ys (ts.foldl add1 xs)
    have h3 := h.2.2
    omega
/-- three or four: none -/
theorem md_many {ts : List (Nat × Int)} {xs ys : List Int} (hx : okc 24 xs) (hs : sld xs) (h : Tns ts) (h3 : 3 ≤ ts.length) (h4 : ts.length ≤ 4) : ¬ Md (ts.foldl add1 xs) (some ys) := fun hm => by
  have hl := add_unl_lo hx h
  have hh := add_unl_hi (ts := ts) (xs := xs)
  by_cases e : ys = xs
  · subst e
    have := hm.2.2
    omega
  · have h7 := seven hm.1 hx hm.2.1 hs e
    have h1 := unl_tri ys (ts.foldl add1 xs) xs
    have h2 := unl_sym ys (ts.foldl add1 xs)
    have h3 := hm.2.2
    omega
/-- one mended cell at most -/
theorem md_same {xs ys zs : List Int} (hy : Md xs (some ys)) (hz : Md xs (some zs)) : ys = zs := Classical.byContradiction fun hn => by
  have h7 := seven hy.1 hz.1 hy.2.1 hz.2.1 hn
  have h1 := unl_tri ys xs zs
  have h2 := unl_sym ys xs
  have h3 := hy.2.2
  have h4 := hz.2.2
  omega
/-! ### an end of a wire: what it keeps, in plain Lean -/
noncomputable def mdF (xs : List Int) : Option (List Int) := open Classical in if h : ∃ ys, Md xs (some ys) then some h.choose else none
theorem mdF_ok (xs : List Int) : Md xs (mdF xs) := by
  unfold mdF
  by_cases h : ∃ ys, Md xs (some ys)
  · rw [dif_pos h]
    exact h.choose_spec
  · rw [dif_neg h]
    intro ys hy hs
    refine Classical.byContradiction fun hn => h ⟨ys, hy, hs, by omega⟩
inductive Ev where
  | anew (p : Int × Int)
  | up (p : Int × Int)
  | took (xs : List Int)
  | silent (p : Int × Int) (a b : Int)
structure LS where
  quiet : Int
  side : Int
  own : Int
  oth : Int
  pair : Option (Int × Int)
  now : Int
  heard : Int
  left : List (List Int)
  num : Int
  cnt : Int
  evs : List Ev
def fresh (quiet side : Int) : LS := ⟨quiet, side, 1, 0, none, -1, -1, [], 0, 0, []⟩
def dropUp (s : LS) : LS := { s with pair := none, left := [] }
def prS (s : LS) : Int × Int := if s.side = 1 then (s.oth, s.own) else (s.own, s.oth)
def beginUp (s : LS) : LS := { s with pair := some (prS s), left := [], num := 0, cnt := 0, evs := s.evs ++ [.up (prS s)] }
def readTook (s : LS) (n m : Int) (r : List Int) : LS := if 0 < m ∧ n = s.cnt % 97 then { s with cnt := s.cnt + 1, evs := s.evs ++ [.took (r.take m.toNat)] } else s
def readKnown (s : LS) (c : Int) : LS := if s.left ≠ [] ∧ c = (s.num + 1) % 97 then { s with num := s.num + 1, left := s.left.tail } else s
def readPiece (s : LS) : List Int → LS
  | n :: c :: m :: r => readKnown (readTook s n m r) c
  | _ => s
def toldAnew (s : LS) : LS := match s.pair with
  | some p => dropUp { s with evs := s.evs ++ [.anew p] }
  | none => s
def upNow (s : LS) : LS := match s.pair with
  | some _ => s
  | none => beginUp s
def withOth (s : LS) (b : Int) : LS := { s with oth := b }
def anewIf (s : LS) (b : Int) : LS := if s.oth < b then toldAnew s else s
def readBirths (s : LS) (xs : List Int) : LS :=
  if val (xs.take 2) < s.oth then s
  else if val ((xs.drop 2).take 2) = (withOth (anewIf s (val (xs.take 2))) (val (xs.take 2))).own then readPiece (upNow (withOth (anewIf s (val (xs.take 2))) (val (xs.take 2)))) (xs.drop 4)
  else withOth (anewIf s (val (xs.take 2))) (val (xs.take 2))
def toldSilent (s : LS) : LS := match s.pair with
  | some p => dropUp { s with evs := s.evs ++ [.silent p (s.heard + 1) s.now] }
  | none => s
def fallSilent (s : LS) : LS := { toldSilent s with own := (toldSilent s).own + 1, oth := 0 }
noncomputable def takeCell (s : LS) (c : List Int) : LS := match mdF c with
  | some ys => readBirths { s with heard := s.now } ys
  | none => s
noncomputable def takeAll (s : LS) (cs : List (List Int)) : LS := cs.foldl takeCell { s with now := s.now + 1 }
def silenced (s : LS) : LS := if 0 < s.oth ∧ s.quiet ≤ s.now - s.heard then fallSilent s else s
noncomputable def tickF (s : LS) (cs : List (List Int)) : LS := silenced (takeAll s cs)
def ownN (s : LS) : Int := match s.pair with
  | some _ => s.num % 97
  | none => 0
def ownC (s : LS) : Int := match s.pair with
  | some _ => s.cnt % 97
  | none => 0
def ownP (s : LS) : List (List Int) := match s.pair with
  | some _ => s.left.take 1
  | none => []
def signsNow (s : LS) : List Int := (dg 2 s.own).reverse ++ (dg 2 s.oth).reverse ++ [ownN s, ownC s, ((ownP s).headD []).length] ++ (ownP s).headD [] ++ List.replicate (11 - ((ownP s).headD []).length) 0
def okP (xs : List Int) : Prop := 1 ≤ xs.length ∧ xs.length ≤ 10 ∧ ∀ v ∈ xs, 0 ≤ v ∧ v ≤ 96
/-- numbers that two signs tell; pieces that are pieces -/
structure LOk (s : LS) : Prop where
  own : 0 ≤ s.own ∧ s.own < 9409
  oth : 0 ≤ s.oth ∧ s.oth < 9409
  left : ∀ x ∈ s.left, okP x
theorem val2 {xs : List Int} (h : ∀ v ∈ xs, 0 ≤ v ∧ v ≤ 96) : 0 ≤ val (xs.take 2) ∧ val (xs.take 2) < 9409 := by
  have hd : dgs (xs.take 2) := fun v hv => by
    have := h v (List.mem_of_mem_take hv)
    omega
  have h2 := (val_ok hd).2
  have h3 := (tp_zero (xs.take 2).length (val (xs.take 2))).mp h2
  refine ⟨h3.1, Int.lt_of_lt_of_le h3.2 ?_⟩
  have hl : (xs.take 2).length ≤ 2 := by rw [List.length_take]; omega
  rcases (show (xs.take 2).length = 0 ∨ (xs.take 2).length = 1 ∨ (xs.take 2).length = 2 by omega) with z | z | z <;> rw [z] <;> decide
theorem lok_drop {s : LS} (h : LOk s) : LOk (dropUp s) := ⟨h.own, h.oth, fun _ hx => by cases hx⟩
theorem lok_begin {s : LS} (h : LOk s) : LOk (beginUp s) := ⟨h.own, h.oth, fun _ hx => by cases hx⟩
theorem lok_took {s : LS} {n m : Int} {r : List Int} (h : LOk s) : LOk (readTook s n m r) := by
  unfold readTook
  split
  · exact ⟨h.own, h.oth, h.left⟩
  · exact h
theorem lok_known {s : LS} {c : Int} (h : LOk s) : LOk (readKnown s c) := by
  unfold readKnown
  split
  · exact ⟨h.own, h.oth, fun x hx => h.left x (List.mem_of_mem_tail hx)⟩
  · exact h
theorem lok_piece {s : LS} {xs : List Int} (h : LOk s) : LOk (readPiece s xs) := by
  unfold readPiece
  split
  · exact lok_known (lok_took h)
  · exact h
theorem lok_anew {s : LS} (h : LOk s) : LOk (toldAnew s) := by
  unfold toldAnew
  split
  · exact ⟨h.own, h.oth, fun _ hx => by cases hx⟩
  · exact h
theorem lok_up {s : LS} (h : LOk s) : LOk (upNow s) := by
  unfold upNow
  split
  · exact h
  · exact lok_begin h
theorem lok_births {s : LS} {xs : List Int} (h : LOk s) (hx : ∀ v ∈ xs, 0 ≤ v ∧ v ≤ 96) : LOk (readBirths s xs) := by
  have hv := val2 hx
  unfold readBirths
  by_cases h1 : val (xs.take 2) < s.oth
  · rw [if_pos h1]
    exact h
  · rw [if_neg h1]
    have h3 : LOk (withOth (anewIf s (val (xs.take 2))) (val (xs.take 2))) := by
      unfold anewIf
      by_cases h2 : s.oth < val (xs.take 2)
      · rw [if_pos h2]
        exact ⟨(lok_anew h).own, hv, (lok_anew h).left⟩
      · rw [if_neg h2]
        exact ⟨h.own, hv, h.left⟩
    split
    · exact lok_piece (lok_up h3)
    · exact h3
theorem lok_cell {s : LS} {c : List Int} (h : LOk s) : LOk (takeCell s c) := by
  have hm := mdF_ok c
  unfold takeCell
  cases hc : mdF c with
  | none => exact h
  | some ys =>
    rw [hc] at hm
    exact lok_births ⟨h.own, h.oth, h.left⟩ hm.1.2
theorem lok_all : ∀ {cs : List (List Int)} {s : LS}, LOk s → LOk (cs.foldl takeCell s)
  | [], _, h => h
  | c :: cs, s, h => lok_all (cs := cs) (s := takeCell s c) (lok_cell h)
/-- what stays -/
theorem own_piece {s : LS} {xs : List Int} : (readPiece s xs).own = s.own ∧ (readPiece s xs).oth = s.oth ∧ (readPiece s xs).evs.length ≤ s.evs.length + 1 ∧ (readPiece s xs).left.length ≤ s.left.length ∧ (readPiece s xs).quiet = s.quiet ∧ (readPiece s xs).side = s.side ∧ (readPiece s xs).now = s.now ∧ (readPiece s xs).heard = s.heard ∧ (readPiece s xs).pair = s.pair := by
  unfold readPiece
  split
  · unfold readKnown readTook
    split <;> split <;> simp [List.length_append] <;> omega
  · simp
theorem own_up {s : LS} : (upNow s).own = s.own ∧ (upNow s).oth = s.oth ∧ (upNow s).evs.length ≤ s.evs.length + 1 ∧ (upNow s).left.length ≤ s.left.length ∧ (upNow s).quiet = s.quiet ∧ (upNow s).side = s.side ∧ (upNow s).now = s.now ∧ (upNow s).heard = s.heard := by
  unfold upNow
  split
  · simp
  · simp [beginUp]
theorem own_anew {s : LS} : (toldAnew s).own = s.own ∧ (toldAnew s).evs.length ≤ s.evs.length + 1 ∧ (toldAnew s).left.length ≤ s.left.length ∧ (toldAnew s).quiet = s.quiet ∧ (toldAnew s).side = s.side ∧ (toldAnew s).now = s.now ∧ (toldAnew s).heard = s.heard := by
  unfold toldAnew
  split
  · simp [dropUp]
  · simp
theorem own_births {s : LS} {xs : List Int} : (readBirths s xs).own = s.own ∧ (readBirths s xs).evs.length ≤ s.evs.length + 3 ∧ (readBirths s xs).left.length ≤ s.left.length ∧ (readBirths s xs).quiet = s.quiet ∧ (readBirths s xs).side = s.side ∧ (readBirths s xs).now = s.now ∧ (readBirths s xs).heard = s.heard := by
  unfold readBirths
  by_cases h1 : val (xs.take 2) < s.oth
  · rw [if_pos h1]
    exact ⟨rfl, by omega, Nat.le_refl _, rfl, rfl, rfl, rfl⟩
  · rw [if_neg h1]
    obtain ⟨e1, e2, e3, e4, e5, e6, e7⟩ : (anewIf s (val (xs.take 2))).own = s.own ∧ (anewIf s (val (xs.take 2))).evs.length ≤ s.evs.length + 1 ∧ (anewIf s (val (xs.take 2))).left.length ≤ s.left.length ∧ (anewIf s (val (xs.take 2))).quiet = s.quiet ∧ (anewIf s (val (xs.take 2))).side = s.side ∧ (anewIf s (val (xs.take 2))).now = s.now ∧ (anewIf s (val (xs.take 2))).heard = s.heard := by
      unfold anewIf
      split
      · exact own_anew
      · exact ⟨rfl, by omega, Nat.le_refl _, rfl, rfl, rfl, rfl⟩
    split
    · obtain ⟨a1, a2, a3, a4, a5, a6, a7, a8, a9⟩ := own_piece (s := upNow (withOth (anewIf s (val (xs.take 2))) (val (xs.take 2)))) (xs := xs.drop 4)
      obtain ⟨b1, b2, b3, b4, b5, b6, b7, b8⟩ := own_up (s := withOth (anewIf s (val (xs.take 2))) (val (xs.take 2)))
      exact ⟨a1.trans (b1.trans e1), Nat.le_trans a3 (Nat.le_trans (Nat.add_le_add_right b3 1) (by show (anewIf s (val (xs.take 2))).evs.length + 1 + 1 ≤ _; omega)), Nat.le_trans a4 (Nat.le_trans b4 e3), a5.trans (b5.trans e4), a6.trans (b6.trans e5), a7.trans (b7.trans e6), a8.trans (b8.trans e7)⟩
    · exact ⟨e1, by show (anewIf s (val (xs.take 2))).evs.length ≤ _; omega, e3, e4, e5, e6, e7⟩
theorem own_cell {s : LS} {c : List Int} : (takeCell s c).own = s.own ∧ (takeCell s c).evs.length ≤ s.evs.length + 3 ∧ (takeCell s c).left.length ≤ s.left.length ∧ (takeCell s c).quiet = s.quiet ∧ (takeCell s c).side = s.side ∧ (takeCell s c).now = s.now := by
  unfold takeCell
  split
  · obtain ⟨a1, a2, a3, a4, a5, a6, a7⟩ := own_births (s := { s with heard := s.now }) (xs := ‹List Int›)
    exact ⟨a1, a2, a3, a4, a5, a6⟩
  · exact ⟨rfl, by omega, Nat.le_refl _, rfl, rfl, rfl⟩
theorem own_all : ∀ {cs : List (List Int)} {s : LS}, (cs.foldl takeCell s).own = s.own ∧ (cs.foldl takeCell s).evs.length ≤ s.evs.length + 3 * cs.length ∧ (cs.foldl takeCell s).left.length ≤ s.left.length ∧ (cs.foldl takeCell s).quiet = s.quiet ∧ (cs.foldl takeCell s).side = s.side ∧ (cs.foldl takeCell s).now = s.now
  | [], _ => ⟨rfl, by simp, Nat.le_refl _, rfl, rfl, rfl⟩
  | c :: cs, s => by
    obtain ⟨a1, a2, a3, a4, a5, a6⟩ := own_all (cs := cs) (s := takeCell s c)
    obtain ⟨b1, b2, b3, b4, b5, b6⟩ := own_cell (s := s) (c := c)
    rw [List.foldl_cons]
    exact ⟨a1.trans b1, by rw [List.length_cons]; omega, by omega, a4.trans b4, a5.trans b5, a6.trans b6⟩
theorem dgs_okc {m : Nat} {n : Int} : ∀ v ∈ dg m n, 0 ≤ v ∧ v ≤ 96 := by
  induction m generalizing n with
  | zero => intro v hv; cases hv
  | succ m ih =>
    intro v hv
    rw [dg] at hv
    rcases List.mem_cons.mp hv with rfl | hv
    · omega
    · exact ih v hv
theorem ownP_ok {s : LS} (h : LOk s) : ((ownP s).headD []).length ≤ 10 ∧ ∀ v ∈ (ownP s).headD [], 0 ≤ v ∧ v ≤ 96 := by
  unfold ownP
  split
  · cases hl : s.left with
    | nil => exact ⟨Nat.zero_le _, fun v hv => by cases hv⟩
    | cons x xs =>
      have := h.left x (by rw [hl]; exact List.mem_cons_self ..)
      exact ⟨this.2.1, this.2.2⟩
  · exact ⟨Nat.zero_le _, fun v hv => by cases hv⟩
theorem signsNow_ok {s : LS} (h : LOk s) : okc 18 (signsNow s) := by
  obtain ⟨hl, hp⟩ := ownP_ok h
  unfold signsNow
  refine ⟨?_, fun v hv => ?_⟩
  · simp only [List.length_append, List.length_reverse, dg_len, List.length_cons, List.length_nil, List.length_replicate]
    omega
  · simp only [List.mem_append, List.mem_reverse, List.mem_cons, List.not_mem_nil, or_false] at hv
    rcases hv with (((hv | hv) | (rfl | rfl | rfl)) | hv) | hv
    · exact dgs_okc v hv
    · exact dgs_okc v hv
    · unfold ownN
      split <;> omega
    · unfold ownC
      split <;> omega
    · omega
    · exact hp v hv
    · rw [List.eq_of_mem_replicate hv]
      decide
theorem lok_tick {s : LS} {cs : List (List Int)} (h : LOk s) (h1 : s.own < 9408) : LOk (tickF s cs) := by
  have ha : LOk (takeAll s cs) := lok_all ⟨h.own, h.oth, h.left⟩
  obtain ⟨e1, _⟩ := own_all (cs := cs) (s := { s with now := s.now + 1 })
  have e2 : (takeAll s cs).own = s.own := e1
  have h3 := h.own
  unfold tickF silenced
  split
  · unfold fallSilent toldSilent
    split
    · exact ⟨by show 0 ≤ (takeAll s cs).own + 1 ∧ (takeAll s cs).own + 1 < 9409; omega, ⟨by show (0 : Int) ≤ 0; decide, by show (0 : Int) < 9409; decide⟩, fun x hx => by cases hx⟩
    · exact ⟨by show 0 ≤ (takeAll s cs).own + 1 ∧ (takeAll s cs).own + 1 < 9409; omega, ⟨by show (0 : Int) ≤ 0; decide, by show (0 : Int) < 9409; decide⟩, ha.left⟩
  · exact ha
/-- turned signs: at unlike places, by no turn round -/
theorem goodT_tns {ts : List (Int × Int)} (h : goodT ts = true) : Tns (ts.map fun t => (t.1.toNat, t.2)) ∧ ts.length ≤ 4 := by
  unfold goodT at h
  simp only [Bool.and_eq_true, decide_eq_true_eq] at h
  have key : ∀ {ts : List (Int × Int)} {l : Int}, -1 ≤ l → okT l ts = true → (∀ t ∈ ts, l < t.1 ∧ t.1 < 24 ∧ 1 ≤ t.2 ∧ t.2 ≤ 96) ∧ ((ts.map fun t => (t.1.toNat, t.2)).map (·.1)).Nodup := by
    intro ts
    induction ts with
    | nil => intro l _ _; exact ⟨fun t ht => (by cases ht), List.nodup_nil⟩
    | cons s ts ih =>
      intro l hl h
      unfold okT okA at h
      simp only [Bool.and_eq_true, decide_eq_true_eq] at h
      obtain ⟨i1, i2⟩ := ih (l := s.1) (by omega) h.2
      refine ⟨fun t ht => ?_, ?_⟩
      · rcases List.mem_cons.mp ht with rfl | ht
        · omega
        · have := i1 t ht
          omega
      · rw [List.map_cons, List.map_cons, List.nodup_cons]
        refine ⟨fun z => ?_, i2⟩
        obtain ⟨t', ht', e⟩ := List.mem_map.mp z
        obtain ⟨t, ht, rfl⟩ := List.mem_map.mp ht'
        have := i1 t ht
        simp only at e
        omega
  obtain ⟨k1, k2⟩ := key (l := -1) (by decide) h.2
  refine ⟨⟨k2, fun t ht => ?_⟩, h.1⟩
  obtain ⟨s, hs, rfl⟩ := List.mem_map.mp ht
  have := k1 s hs
  show s.1.toNat < 24 ∧ s.2 % 97 ≠ 0
  omega
end K34


set_option Elab.async false
set_option linter.all false
set_option maxRecDepth 100000
set_option maxHeartbeats 4000000
set_option pp.deepTerms.threshold 16
namespace K34
open PySem PySem.Spec PyProof.Rows L2 Vs
local macro_rules | `(tactic| walk_at "vpos") => `(tactic| first | decide | omega)
local macro_rules | `(tactic| walk_at "vdiv") => `(tactic| first | exact ⟨by decide, by decide⟩ | (constructor <;> omega))
local macro_rules | `(tactic| walk_at "vpow") => `(tactic| exact ⟨by decide, by decide, by decide⟩)
local macro_rules | `(tactic| walk_at "vmul") => `(tactic| first | exact mulL ⟨by decide, by decide⟩ | exact mulR ⟨by decide, by decide⟩ | exact mulL (by constructor <;> omega) | exact mulR (by constructor <;> omega))
local macro_rules | `(tactic| walk_at "vlen") => `(tactic| first | exact sz_ok (Nat.le_of_ble_eq_true rfl) | exact sz_lt (Nat.le_of_ble_eq_true rfl) | (refine sz_ok ?_; simp only [List.length_append, List.length_cons, List.length_nil, List.length_map]; omega) | (refine sz_lt ?_; simp only [List.length_append, List.length_cons, List.length_nil, List.length_map]; omega))
local macro_rules | `(tactic| walk_at "vrng") => `(tactic| (refine ⟨?_, ?_⟩ <;> omega))
local macro_rules | `(tactic| walk_at "vix") => `(tactic| rfl)
local macro_rules | `(tactic| walk_at "vixn") => `(tactic| first | rfl | exact ixN_at (by omega) (by omega))
local macro_rules | `(tactic| walk_at "vkb") => `(tactic| decide +kernel)
local macro_rules | `(tactic| walk_at "vty") => `(tactic| first | exact .int | exact .bl | exact .lst | exact .str | exact .tup | exact .non | exact .own .z | exact tyd_as (by assumption))
local macro_rules | `(tactic| walk_at "vkit") => `(tactic| assumption)
local macro_rules | `(tactic| walk_at "vrep") => `(tactic| (refine ⟨by omega, by omega, ?_⟩; first | decide | (refine sz_ok ?_; simp only [List.length_cons, List.length_nil]; omega)))
def top (i : Nat) : Stmt := PySem.Challenge.pw_stormpost_k34_whole_silence_is_a_breach.main.body.getD i (.Pass ⟨0, 0, 0, 0⟩)
structure Tx (K : PySem.W.Frag) (mg : Str → Option Value) : Prop where
  PLACES : ∃ t, mg "PLACES" = some (.int 24 t)
  FREE : ∃ t, mg "FREE" = some (.int 18 t)
  SUMS : ∃ t, mg "SUMS" = some (.int 6 t)
  MOST_LATE : ∃ t, mg "MOST_LATE" = some (.int 6 t)
  MOST_LOST : ∃ t, mg "MOST_LOST" = some (.int 4 t)
  MENDED_TURNS : ∃ t, mg "MENDED_TURNS" = some (.int 2 t)
  PRIME : ∃ t, mg "PRIME" = some (.int 97 t)
  ALL_SIGNS : ∃ t, mg "ALL_SIGNS" = some (.int 97 t)
  MOST_SIGNS : ∃ t, mg "MOST_SIGNS" = some (.int 10 t)
  BIRTH_SIGNS : ∃ t, mg "BIRTH_SIGNS" = some (.int 2 t)
  POWERS : GObj K mg "POWERS" (.lst (dI pows))
  CHECKS : GObj K mg "CHECKS" (.lst (dTs ckRows))
  PostError : ExF K mg "PostError"
  BadSign : ExF K mg "BadSign"
  BadCell : ExF K mg "BadCell"
  BadMeasure : ExF K mg "BadMeasure"
  no_len : mg "len" = none
  no_range : mg "range" = none
  no_isinstance : mg "isinstance" = none
  no_int : mg "int" = none
  no_bool : mg "bool" = none
  no_list : mg "list" = none
  no_sum : mg "sum" = none
  no_reversed : mg "reversed" = none
  no_ValueError : mg "ValueError" = none
  no_min : mg "min" = none
  no_max : mg "max" = none
  no_tuple : mg "tuple" = none
  no_all : mg "all" = none
  no_any : mg "any" = none
  no_enumerate : mg "enumerate" = none
  no_abs : mg "abs" = none
  no_sorted : mg "sorted" = none
  no_str : mg "str" = none
  no_dict : mg "dict" = none
  cl_LinkEnd : Cls K (He.ga K "LinkEnd")
  mg_LinkEnd : mg "LinkEnd" = some (.ref (He.ga K "LinkEnd"))
  na_LinkEnd_quiet_ticks : NoAttr K (He.ga K "LinkEnd") "quiet_ticks"
  na_LinkEnd_side_number : NoAttr K (He.ga K "LinkEnd") "side_number"
  na_LinkEnd_own_birth : NoAttr K (He.ga K "LinkEnd") "own_birth"
  na_LinkEnd_other_birth : NoAttr K (He.ga K "LinkEnd") "other_birth"
  na_LinkEnd_own_pair : NoAttr K (He.ga K "LinkEnd") "own_pair"
  na_LinkEnd_now_tick : NoAttr K (He.ga K "LinkEnd") "now_tick"
  na_LinkEnd_heard_tick : NoAttr K (He.ga K "LinkEnd") "heard_tick"
  na_LinkEnd_pieces_left : NoAttr K (He.ga K "LinkEnd") "pieces_left"
  na_LinkEnd_piece_number : NoAttr K (He.ga K "LinkEnd") "piece_number"
  na_LinkEnd_piece_count : NoAttr K (He.ga K "LinkEnd") "piece_count"
  na_LinkEnd_events_told : NoAttr K (He.ga K "LinkEnd") "events_told"
  mk_LinkEnd : L2.Mk K (He.ga K "LinkEnd") (He.ma K (He.ga K "LinkEnd") "__init__")
  me_LinkEnd_tick : Meth K (He.ga K "LinkEnd") "tick" (He.ma K (He.ga K "LinkEnd") "tick")
  me_LinkEnd_read_births : Meth K (He.ga K "LinkEnd") "read_births" (He.ma K (He.ga K "LinkEnd") "read_births")
  me_LinkEnd_begin_up : Meth K (He.ga K "LinkEnd") "begin_up" (He.ma K (He.ga K "LinkEnd") "begin_up")
  me_LinkEnd_end_up : Meth K (He.ga K "LinkEnd") "end_up" (He.ma K (He.ga K "LinkEnd") "end_up")
  me_LinkEnd_read_piece : Meth K (He.ga K "LinkEnd") "read_piece" (He.ma K (He.ga K "LinkEnd") "read_piece")
  me_LinkEnd_fall_silent : Meth K (He.ga K "LinkEnd") "fall_silent" (He.ma K (He.ga K "LinkEnd") "fall_silent")
  me_LinkEnd_signs_now : Meth K (He.ga K "LinkEnd") "signs_now" (He.ma K (He.ga K "LinkEnd") "signs_now")
  me_LinkEnd_up : Meth K (He.ga K "LinkEnd") "up" (He.ma K (He.ga K "LinkEnd") "up")
  me_LinkEnd_events : Meth K (He.ga K "LinkEnd") "events" (He.ma K (He.ga K "LinkEnd") "events")
section
variable {X : Cx} {F0 : Hp}
def isS (a : Int) : Prop := 0 ≤ a ∧ a < 97
/-! look_sign -/
def S_look_sign (K : PySem.W.Frag) : SpD := fun ds L q e => ∃ a, ds = [.int a] ∧ (isS a → q .non L) ∧ (¬ isS a → e (xcOf K "BadSign") L)
theorem b_look_sign {ds : List D} {L : Lg} {q : D → Lg → Prop} {e : Xc → Lg → Prop} (c : Cf X (["a"] : List Str) ([] : List Str) (defScope (top 28)) F0 (fun y _ L' => e y L')) (T : Tx X.K X.mg) (h : S_look_sign X.K ds L q e) :
    BK X F0 (defBody (top 28)) (ds.map some ++ List.replicate 0 none) L { nx := fun _ L' => q .non L', rt := q } := by
  obtain ⟨a, rfl, h1, h2⟩ := h
  refine bk_one (sk_if (et_w (ew_or (et_lt (ek_n c.toCn .z (⟨_, rfl, ek_int (⟨_, rfl, ⟨rfl, rfl⟩⟩)⟩))) (fun hb => et_or1 (et_ge (ek_n c.toCn .z (⟨_, rfl, ek_gi T.PRIME (c.toCn.gl) (⟨_, rfl, ⟨rfl, rfl⟩⟩)⟩)))) (⟨fun ht => ?_, fun ht => ?_⟩))))
  · refine bk_one (sk_rz c T.BadSign ?_)
    refine h2 fun ⟨h3, h4⟩ => ?_
    simp at ht
    omega
  · refine bk_nil (h1 ?_)
    simp at ht
    exact ⟨by omega, by omega⟩
/-! power -/
def S_power (K : PySem.W.Frag) : SpD := fun ds L q e => ∃ a k, ds = [.int a, .int k] ∧ 0 ≤ k ∧ (isS a → q (.int (a ^ k.toNat % 97)) L) ∧ (¬ isS a → e (xcOf K "BadSign") L)
theorem mod_mul (a b : Int) : a % 97 * b % 97 = a * b % 97 := by rw [Int.mul_emod (a % 97), Int.emod_emod, ← Int.mul_emod]
theorem pow_step (fo sq : Int) (k : Int) (h : 0 < k) : (if k % 2 = 1 then fo * sq % 97 else fo) * (sq * sq % 97) ^ (k / 2).toNat % 97 = fo * sq ^ k.toNat % 97 := by
  obtain ⟨n, rfl⟩ : ∃ n : Nat, k = n := ⟨k.toNat, by omega⟩
  have h2 : ((n : Int) / 2).toNat = n / 2 := by omega
  rw [h2, Int.toNat_natCast]
  have e1 : ∀ (x : Int) (m : Nat), (x % 97) ^ m % 97 = x ^ m % 97 := fun x m => by
    induction m with
    | zero => rw [Int.pow_zero, Int.pow_zero]
    | succ m ih => rw [Int.pow_succ, Int.pow_succ, Int.mul_emod, ih, Int.emod_emod, ← Int.mul_emod]
  have e2 : (sq * sq) ^ (n / 2) = sq ^ (2 * (n / 2)) := by
    rw [Int.pow_mul]
    congr 1
    rw [Int.pow_succ, Int.pow_succ, Int.pow_zero, Int.one_mul]
  by_cases hk : n % 2 = 1
  · have hk' : (n : Int) % 2 = 1 := by omega
    rw [if_pos hk', Int.mul_emod, Int.emod_emod, e1, ← Int.mul_emod, e2, Int.mul_assoc, ← Int.pow_succ']
    congr 3
    omega
  · have hk' : ¬ (n : Int) % 2 = 1 := by omega
    rw [if_neg hk', Int.mul_emod, e1, ← Int.mul_emod, e2]
    congr 3
    omega
theorem b_power {ds : List D} {L : Lg} {q : D → Lg → Prop} {e : Xc → Lg → Prop} (c : Cf X (["a", "k", "found", "square"] : List Str) ([] : List Str) (defScope (top 29)) F0 (fun y _ L' => e y L')) (T : Tx X.K X.mg) (hr : Room 1 X.A)
    (G_look_sign : CalX X 1 "look_sign" (["a"] : List Str) (S_look_sign X.K)) (h : S_power X.K ds L q e) :
    BK X F0 (defBody (top 29)) (ds.map some ++ List.replicate 2 none) L { nx := fun _ L' => q .non L', rt := q } := by
  obtain ⟨a, k, rfl, hk, h1, h2⟩ := h
  refine bk_cons (sk_expr (ek_call c.tk G_look_sign (hr.mono (by first | decide | exact Nat.le_refl _)) (ea_cons (ek_n c.toCn .z (ea_nil (⟨_, rfl, fun hx => ?_, fun hx => ?_⟩)))) (c.toCn.gl)))
  case refine_2 => exact h2 hx
  refine bk_cons (sk_set c.toCn (ek_int (⟨_, (.s (.s .z)), ?_⟩)))
  refine bk_cons (sk_set c.toCn (ek_n c.toCn .z (⟨_, (.s (.s (.s .z))), ?_⟩)))
  refine bk_cons (sk_while c.own (fun m Γ L' => ∃ kk fo sq : Int, Γ = [some (.int a), some (.int kk), some (.int fo), some (.int sq)] ∧ L' = L ∧ m = kk.toNat ∧ 0 ≤ kk ∧ (0 ≤ fo ∧ fo < 97) ∧ (0 ≤ sq ∧ sq < 97) ∧ fo * sq ^ kk.toNat % 97 = a ^ k.toNat % 97) (k.toNat) ?_ (fun m Γ L hW => ?_))
  · exact ⟨k, 1, a, rfl, rfl, rfl, hk, by decide, hx, by rw [Int.one_mul]⟩
  · obtain ⟨kk, fo, sq, rfl, rfl, rfl, hk0, hf, hs, hi⟩ := hW
    refine et_gt (ek_n c.toCn (.s .z) (⟨_, rfl, ek_int (⟨_, rfl, ⟨fun ht => ?_, fun ht => ?_⟩⟩)⟩))
    · simp at ht
      have st := pow_step fo sq kk ht
      refine bk_cons (sk_if (et_eqI (ek_mod (ek_n c.toCn (.s .z) (⟨_, rfl, ek_int (⟨_, rfl, (by walk_at "vpos"), ⟨_, rfl, ek_int (⟨_, rfl, ⟨fun ht => ?_, fun ht => ?_⟩⟩)⟩⟩)⟩)))))
      · simp at ht
        refine bk_one (sk_set c.toCn (ek_mod (ek_mul (ek_n c.toCn (.s (.s .z)) (⟨_, rfl, ek_n c.toCn (.s (.s (.s .z))) (⟨_, rfl, (by walk_at "vmul"), ⟨_, rfl, ek_gi T.PRIME (c.toCn.gl) (⟨_, rfl, (by walk_at "vpos"), ⟨_, (.s (.s .z)), ?_⟩⟩)⟩⟩)⟩)))))
        rw [if_pos ht] at st
        refine bk_cons (sk_set c.toCn (ek_mod (ek_mul (ek_n c.toCn (.s (.s (.s .z))) (⟨_, rfl, ek_n c.toCn (.s (.s (.s .z))) (⟨_, rfl, (by walk_at "vmul"), ⟨_, rfl, ek_gi T.PRIME (c.toCn.gl) (⟨_, rfl, (by walk_at "vpos"), ⟨_, (.s (.s (.s .z))), ?_⟩⟩)⟩⟩)⟩)))))
        refine bk_one (sk_set c.toCn (ek_fdiv (ek_n c.toCn (.s .z) (⟨_, rfl, ek_int (⟨_, rfl, (by walk_at "vdiv"), ⟨_, (.s .z), ?_⟩⟩)⟩))))
        refine ⟨(kk / 2).toNat, by omega, kk / 2, _, _, rfl, rfl, rfl, by omega, ⟨Int.emod_nonneg _ (by decide), Int.emod_lt_of_pos _ (by decide)⟩, ⟨Int.emod_nonneg _ (by decide), Int.emod_lt_of_pos _ (by decide)⟩, ?_⟩
        rw [st, hi]
      · simp at ht
        refine bk_nil ?_
        rw [if_neg (by omega)] at st
        refine bk_cons (sk_set c.toCn (ek_mod (ek_mul (ek_n c.toCn (.s (.s (.s .z))) (⟨_, rfl, ek_n c.toCn (.s (.s (.s .z))) (⟨_, rfl, (by walk_at "vmul"), ⟨_, rfl, ek_gi T.PRIME (c.toCn.gl) (⟨_, rfl, (by walk_at "vpos"), ⟨_, (.s (.s (.s .z))), ?_⟩⟩)⟩⟩)⟩)))))
        refine bk_one (sk_set c.toCn (ek_fdiv (ek_n c.toCn (.s .z) (⟨_, rfl, ek_int (⟨_, rfl, (by walk_at "vdiv"), ⟨_, (.s .z), ?_⟩⟩)⟩))))
        refine ⟨(kk / 2).toNat, by omega, kk / 2, _, _, rfl, rfl, rfl, by omega, hf, ⟨Int.emod_nonneg _ (by decide), Int.emod_lt_of_pos _ (by decide)⟩, ?_⟩
        rw [st, hi]
    · simp at ht
      have e0 : kk = 0 := by omega
      subst e0
      refine bk_one (sk_ret (ek_n c.toCn (.s (.s .z)) (?_)))
      have e1 : fo = a ^ k.toNat % 97 := by
        rw [← hi]
        show fo = fo * sq ^ 0 % 97
        rw [Int.pow_zero, Int.mul_one, Int.emod_eq_of_lt hf.1 hf.2]
      rw [e1]
      exact h1 hx
/-! inverse -/
def S_inverse (K : PySem.W.Frag) : SpD := fun ds L q e => ∃ a, ds = [.int a] ∧ (isS a ∧ a ≠ 0 → q (.int (a ^ 95 % 97)) L) ∧ (¬ (isS a ∧ a ≠ 0) → e (xcOf K "BadSign") L)
theorem b_inverse {ds : List D} {L : Lg} {q : D → Lg → Prop} {e : Xc → Lg → Prop} (c : Cf X (["a"] : List Str) ([] : List Str) (defScope (top 30)) F0 (fun y _ L' => e y L')) (T : Tx X.K X.mg) (hr : Room 2 X.A)
    (G_look_sign : CalX X 1 "look_sign" (["a"] : List Str) (S_look_sign X.K)) (G_power : CalX X 2 "power" (["a", "k"] : List Str) (S_power X.K)) (h : S_inverse X.K ds L q e) :
    BK X F0 (defBody (top 30)) (ds.map some ++ List.replicate 0 none) L { nx := fun _ L' => q .non L', rt := q } := by
  obtain ⟨a, rfl, h1, h2⟩ := h
  refine bk_cons (sk_expr (ek_call c.tk G_look_sign (hr.mono (by first | decide | exact Nat.le_refl _)) (ea_cons (ek_n c.toCn .z (ea_nil (⟨_, rfl, fun hx => ?_, fun hx => ?_⟩)))) (c.toCn.gl)))
  case refine_2 => exact h2 fun z => hx z.1
  refine bk_cons (sk_if (et_eqI (ek_n c.toCn .z (⟨_, rfl, ek_int (⟨_, rfl, ⟨fun ht => ?_, fun ht => ?_⟩⟩)⟩))))
  · refine bk_one (sk_rz c T.BadSign ?_)
    simp at ht
    exact h2 fun z => z.2 ht
  · simp at ht
    refine bk_nil ?_
    refine bk_one (sk_ret (ek_call c.tk G_power (hr.mono (by first | decide | exact Nat.le_refl _)) (ea_cons (ek_n c.toCn .z (ea_cons (ek_sub (ek_gi T.PRIME (c.toCn.gl) (⟨_, rfl, ek_int (⟨_, rfl, ea_nil (⟨_, _, rfl, by decide, fun hy => ?_, fun hy => absurd hx hy⟩)⟩)⟩)))))) (c.toCn.gl)))
    exact h1 ⟨hx, ht⟩
/-! look_signs, for a list of either kind -/
def S_look_signs (K : PySem.W.Frag) : SpD := fun ds L q e => ∃ x xs many, ds = [x, .int many] ∧ AsL L x (dI xs) ∧ (okc many xs → q .non L) ∧ (¬ okc many xs → e (xcOf K "BadCell") L)
theorem b_look_signs {ds : List D} {L : Lg} {q : D → Lg → Prop} {e : Xc → Lg → Prop} (c : Cf X (["signs", "many", "sign"] : List Str) ([] : List Str) (defScope (top 12)) F0 (fun y _ L' => e y L')) (T : Tx X.K X.mg) (h : S_look_signs X.K ds L q e) :
    BK X F0 (defBody (top 12)) (ds.map some ++ List.replicate 1 none) L { nx := fun _ L' => q .non L', rt := q } := by
  obtain ⟨x, xs, many, rfl, hx, h1, h2⟩ := h
  refine bk_cons (sk_if (et_neI (ek_len T.no_len (c.toCn.gl) (ek_n c.toCn .z (⟨_, Or.inl hx, ⟨_, rfl, ek_n c.toCn (.s .z) (⟨_, rfl, ⟨fun ht => ?_, fun ht => ?_⟩⟩)⟩⟩)))))
  · refine bk_one (sk_rz c T.BadCell ?_)
    simp at ht
    exact h2 fun z => ht z.1
  · simp at ht
    refine bk_nil ?_
    refine bk_one (sk_forN c (fun kk h => ek_n c.toCn .z (h)) hx (fun i Γ L' => ∃ w, Γ = [some x, some (.int many), w] ∧ L' = L ∧ ∀ j v, j < i → xs[j]? = some v → 0 ≤ v ∧ v ≤ 96) ?_ ?_ (fun F1 c i d Γ L hd hP => ?_) (fun Γ L hP => ?_))
    · exact ⟨none, rfl, rfl, fun j v hj => absurd hj (Nat.not_lt_zero _)⟩
    · rintro i Γ L' ⟨w, rfl, rfl, hj⟩
      exact hx
    · obtain ⟨w, rfl, rfl, hj⟩ := hP
      obtain ⟨v, hv, rfl⟩ := dI_get hd
      refine tg_n c.toCn ⟨_, .s (.s .z), ?_⟩
      refine bk_one (sk_if (et_w (ew_or (et_lt (ek_n c.toCn (.s (.s .z)) (⟨_, rfl, ek_int (⟨_, rfl, ⟨rfl, rfl⟩⟩)⟩))) (fun hb => et_or1 (et_gt (ek_n c.toCn (.s (.s .z)) (⟨_, rfl, ek_int (⟨_, rfl, ⟨rfl, rfl⟩⟩)⟩)))) (⟨fun ht => ?_, fun ht => ?_⟩))))
      · refine bk_one (sk_rz c T.BadCell ?_)
        simp at ht
        refine h2 fun z => ?_
        have := z.2 v (List.mem_of_getElem? hv)
        omega
      · simp at ht
        refine bk_nil ⟨some (.int v), rfl, rfl, fun j u hj' hu => ?_⟩
        by_cases hji : j = i
        · subst hji
          rw [hv] at hu
          cases hu
          omega
        · exact hj j u (by omega) hu
    · obtain ⟨w, rfl, rfl, hj⟩ := hP
      refine h1 ⟨ht, fun v hv => ?_⟩
      obtain ⟨n, hn, e⟩ := List.mem_iff_getElem.mp hv
      exact hj n v (by rw [dI_len]; exact hn) (by rw [List.getElem?_eq_getElem hn, e])
theorem range_nat {lo : Int} {n m : Nat} {d : D} (h : (rangeD lo m)[n]? = some d) : n < m ∧ d = .int (lo + (n : Int)) := by
  have hl := (List.getElem?_eq_some_iff.mp h).1
  rw [rangeD_len] at hl
  rw [rangeD_get hl] at h
  cases h
  exact ⟨hl, rfl⟩
theorem map_get {α : Type} {f : Nat → α} {m n : Nat} {y : α} (h : ((List.range m).map f)[n]? = some y) : n < m ∧ y = f n := by
  have hl := (List.getElem?_eq_some_iff.mp h).1
  rw [List.length_map, List.length_range] at hl
  rw [List.getElem?_map, List.getElem?_range hl] at h
  exact ⟨hl, (Option.some.inj h).symm⟩
theorem getD_of {xs : List Int} {n : Nat} {x : Int} (h : xs[n]? = some x) : xs.getD n 0 = x := by rw [List.getD_eq_getElem?_getD, h]; rfl
/-! sums_of -/
def sv (xs : List Int) (j : Nat) : List Int := (List.range xs.length).map fun i => xs.getD i 0 * (5 ^ (i * j) % 97)
def sums (xs : List Int) : List Int := (List.range 6).map fun k => (sv xs (k + 1)).sum % 97
theorem sv_sum (xs : List Int) (j : Nat) : (sv xs j).sum % 97 = sj j 0 xs % 97 := by
  have key : ∀ n, n ≤ xs.length → ((List.range n).map fun i => xs.getD i 0 * ((5 : Int) ^ (i * j) % 97)).sum % 97 = sj j 0 (xs.take n) % 97 := by
    intro n hn
    induction n with
    | zero => simp [sj]
    | succ n ih =>
      obtain ⟨x, hx⟩ : ∃ x, xs[n]? = some x := ⟨_, List.getElem?_eq_getElem (by omega)⟩
      rw [sj_take _ _ hx, sum_take, getD_of hx, Int.add_emod, ih (by omega), emod_mul_r, ← Int.add_emod]
  have := key xs.length (Nat.le_refl _)
  rw [List.take_of_length_le (Nat.le_refl _)] at this
  exact this
def S_sums_of : SpD := fun ds L q _ => ∃ x xs, ds = [x] ∧ AsL L x (dI xs) ∧ xs.length ≤ 1000 ∧ ∀ p, q (.ref p) ((p, .lst (dI (sums xs))) :: L)
theorem b_sums_of {ds : List D} {L : Lg} {q : D → Lg → Prop} {e : Xc → Lg → Prop} (c : Cf X (["signs"] : List Str) (["j", "i"] : List Str) (defScope (top 13)) F0 (fun y _ L' => e y L')) (T : Tx X.K X.mg) (h : S_sums_of ds L q e) :
    BK X F0 (defBody (top 13)) (ds.map some ++ List.replicate 2 none) L { nx := fun _ L' => q .non L', rt := q } := by
  obtain ⟨x, xs, rfl, hx, hl, h1⟩ := h
  refine bk_one (sk_ret (ek_lcF [("j", 1)] c.toCn c.calm (by decide +kernel) (ei_range2 T.no_range (c.toCn.gl) (ek_int (⟨_, rfl, ek_add (ek_gi T.SUMS (c.toCn.gl) (⟨_, rfl, ek_int (⟨_, rfl, ⟨_, rfl, (⟨by decide, by decide, by decide, by decide⟩), ⟨dI (sums xs), ?_, fun p => ?_⟩⟩⟩)⟩))⟩)))))
  · refine ⟨rfl, by rw [rangeD_len]; decide, fun F1 n d e acc Dp hd he => ?_⟩
    obtain ⟨hn, rfl⟩ := range_nat hd
    obtain ⟨y, hy, rfl⟩ := dI_get he
    obtain ⟨hn6, rfl⟩ := map_get hy
    intro X' cb hX'
    obtain ⟨s0, H0, C0, cl, fp, rfl⟩ := hX'
    refine tb_n cb ⟨_, (.s .z), rfl, fun X' cb hX' => ?_⟩
    obtain ⟨s0, H0, C0, cl, fp, rfl⟩ := hX'
    refine ek_mod (ek_sum c.calm T.no_sum cb.gl (ek_lcBM [("i", 2)] cb (by decide +kernel) (ei_p (ei_range1 T.no_range cb.gl (ek_len T.no_len cb.gl (ek_b cb .z (⟨_, Or.inl hx.app, ⟨_, rfl, (by rw [dI_len]; exact ⟨by omega, by omega⟩), ⟨dI (sv xs (n + 1)), ?_, ⟨_, (.lst), ⟨_, rfl, ek_int (⟨_, rfl, (by walk_at "vpos"), ?_⟩)⟩⟩⟩⟩⟩)))))))
    · refine ⟨by rw [dI_len, rangeD_len, dI_len]; unfold sv; rw [List.length_map, List.length_range]; rfl, by rw [rangeD_len, dI_len]; omega, fun F2 m d e acc2 Dp2 hd he => ?_⟩
      obtain ⟨hm, rfl⟩ := range_nat hd
      obtain ⟨y, hy, rfl⟩ := dI_get he
      obtain ⟨hm2, rfl⟩ := map_get hy
      obtain ⟨v, hv⟩ : ∃ v, xs[m]? = some v := ⟨_, List.getElem?_eq_getElem hm2⟩
      have e1 : (((0 + (m : Int)) * (1 + (n : Int))) % 96).toNat = m * (n + 1) % 96 := by
        have : (0 + (m : Int)) * (1 + (n : Int)) = ((m * (n + 1) : Nat) : Int) := by rw [Int.zero_add, Int.add_comm 1]; rfl
        rw [this]
        omega
      have e2 : 0 ≤ ((0 + (m : Int)) * (1 + (n : Int))) % 96 := Int.emod_nonneg _ (by decide)
      have hp := pows_get (m * (n + 1))
      rw [← e1] at hp
      have bp : -(18446744073709551616) < (5 : Int) ^ (m * (n + 1)) % 97 ∧ (5 : Int) ^ (m * (n + 1)) % 97 < 18446744073709551616 := ⟨by have := Int.emod_nonneg ((5 : Int) ^ (m * (n + 1))) (show (97 : Int) ≠ 0 by decide); omega, by have := Int.emod_lt_of_pos ((5 : Int) ^ (m * (n + 1))) (show (0 : Int) < 97 by decide); omega⟩
      intro X' cb hX'
      obtain ⟨s0, H0, C0, cl, fp, rfl⟩ := hX'
      refine tb_n cb ⟨_, (.s (.s .z)), rfl, fun X' cb hX' => ?_⟩
      obtain ⟨s0, H0, C0, cl, fp, rfl⟩ := hX'
      refine ek_mul (ek_ix (ek_b cb .z (ek_b cb (.s (.s .z)) (⟨_, _, _, hx.app.app, rfl, (by first | exact at_dIn hv | exact at_dI e2 hp), ⟨_, rfl, ek_ix (ek_go T.POWERS cb.gl (ek_mod (ek_mul (ek_b cb (.s (.s .z)) (⟨_, rfl, ek_b cb (.s .z) (⟨_, rfl, (by first | exact mulL ⟨by omega, by omega⟩ | exact mulR bp), ⟨_, rfl, ek_int (⟨_, rfl, (by walk_at "vpos"), ⟨_, _, _, .lst, rfl, (by first | exact at_dIn hv | exact at_dI e2 hp), ⟨_, rfl, (by first | exact mulL ⟨by omega, by omega⟩ | exact mulR bp), ?_⟩⟩⟩)⟩⟩)⟩))))) (fun _ _ => rfl)⟩⟩))) (fun _ _ => rfl))
      refine ⟨rfl, ?_⟩
      rw [getD_of hv]
    · exact ⟨rfl, rfl⟩
  · exact h1 p
/-! the sealed cell -/
theorem at_dTn {rs : List (List Int)} {n : Nat} {r : List Int} (h : rs[n]? = some r) : atI (dTs rs) (0 + (n : Int)) = some (.tup (dI r)) := at_nat (by omega) (by
  rw [show (0 + (n : Int)).toNat = n by omega, List.getElem?_map, h]
  rfl)
def S_sealed (K : PySem.W.Frag) : SpD := fun ds L q e => ∃ x xs, ds = [x] ∧ AsL L x (dI xs) ∧ (okc 18 xs → ∀ p, q (.ref p) ((p, .lst (dI (celOf xs))) :: L)) ∧ (¬ okc 18 xs → e (xcOf K "BadCell") L)
theorem b_sealed {ds : List D} {L : Lg} {q : D → Lg → Prop} {e : Xc → Lg → Prop} (c : Cf X (["signs"] : List Str) (["k", "i"] : List Str) (defScope (top 14)) F0 (fun y _ L' => e y L')) (T : Tx X.K X.mg) (hr : Room 1 X.A)
    (G_look_signs : CalX X 1 "look_signs" (["signs", "many"] : List Str) (S_look_signs X.K)) (h : S_sealed X.K ds L q e) :
    BK X F0 (defBody (top 14)) (ds.map some ++ List.replicate 2 none) L { nx := fun _ L' => q .non L', rt := q } := by
  obtain ⟨x, xs, rfl, hx, h1, h2⟩ := h
  refine bk_cons (sk_expr (ek_call c.tk G_look_signs (hr.mono (by first | decide | exact Nat.le_refl _)) (ea_cons (ek_n c.toCn .z (ea_cons (ek_gi T.FREE (c.toCn.gl) (ea_nil (⟨x, xs, _, rfl, hx, fun hx1 => ?_, fun hx1 => ?_⟩)))))) (c.toCn.gl)))
  case refine_2 => exact h2 hx1
  have hl : xs.length = 18 := by have := hx1.1; omega
  refine bk_one (sk_ret (ek_catO (ek_list T.no_list (c.toCn.gl) (ek_n c.toCn .z (⟨_, Or.inl hx, ek_lcM [("k", 1)] c.toCn c.calm (by decide +kernel) (ei_p (ei_range1 T.no_range (c.toCn.gl) (ek_gi T.SUMS (c.toCn.gl) (⟨_, rfl, (⟨by decide, by decide⟩), ⟨dI ((List.range 6).map fun k => (ckv xs k).sum % 97), ?_, ⟨_, _, .lst, .lst, (by rw [dI_len, dI_len, hl, List.length_map, List.length_range]; decide), fun p => ?_⟩⟩⟩))))⟩)))))
  · refine ⟨rfl, by rw [rangeD_len]; decide, fun F1 n d e acc Dp hd he => ?_⟩
    obtain ⟨hn, rfl⟩ := range_nat hd
    obtain ⟨y, hy, rfl⟩ := dI_get he
    obtain ⟨hn6, rfl⟩ := map_get hy
    intro X' cb hX'
    obtain ⟨s0, H0, C0, cl, fp, rfl⟩ := hX'
    refine tb_n cb ⟨_, (.s .z), rfl, fun X' cb hX' => ?_⟩
    obtain ⟨s0, H0, C0, cl, fp, rfl⟩ := hX'
    refine ek_mod (ek_sum c.calm T.no_sum cb.gl (ek_lcBM [("i", 2)] cb (by decide +kernel) (ei_p (ei_range1 T.no_range cb.gl (ek_gi T.FREE cb.gl (⟨_, rfl, (⟨by decide, by decide⟩), ⟨dI (ckv xs n), ?_, ⟨_, (.lst), ⟨_, rfl, ek_int (⟨_, rfl, (by walk_at "vpos"), ?_⟩)⟩⟩⟩⟩))))))
    · refine ⟨by rw [dI_len, rangeD_len]; unfold ckv; rw [List.length_map, List.length_range, hl]; rfl, by rw [rangeD_len]; decide, fun F2 m d e acc2 Dp2 hd he => ?_⟩
      obtain ⟨hm, rfl⟩ := range_nat hd
      obtain ⟨y, hy, rfl⟩ := dI_get he
      obtain ⟨hm2, rfl⟩ := map_get hy
      obtain ⟨v, hv⟩ : ∃ v, xs[m]? = some v := ⟨_, List.getElem?_eq_getElem hm2⟩
      have hvb := hx1.2 v (List.mem_of_getElem? hv)
      have hrow : ckRows[m]? = some (ckRow m) := by
        unfold ckRows
        rw [List.getElem?_map, List.getElem?_range (by omega)]
        rfl
      have hck : (ckRow m)[n]? = some (ckq m n) := by
        unfold ckRow
        rw [List.getElem?_map, List.getElem?_range hn6]
        rfl
      intro X' cb hX'
      obtain ⟨s0, H0, C0, cl, fp, rfl⟩ := hX'
      refine tb_n cb ⟨_, (.s (.s .z)), rfl, fun X' cb hX' => ?_⟩
      obtain ⟨s0, H0, C0, cl, fp, rfl⟩ := hX'
      refine ek_mul (ek_ix (ek_b cb .z (ek_b cb (.s (.s .z)) (⟨_, _, _, hx.app.app, rfl, (by first | exact at_dIn hv | exact at_dIn hck | exact at_dTn hrow), ⟨_, rfl, ek_ixT (ek_ix (ek_go T.CHECKS cb.gl (ek_b cb (.s (.s .z)) (⟨_, _, _, .lst, rfl, (by first | exact at_dIn hv | exact at_dIn hck | exact at_dTn hrow), ek_b cb (.s .z) (⟨_, _, _, rfl, rfl, (by first | exact at_dIn hv | exact at_dIn hck | exact at_dTn hrow), ⟨_, rfl, (mulL ⟨by omega, by omega⟩), ?_⟩⟩)⟩))) (fun _ _ => rfl)) (fun _ _ => rfl)⟩⟩))) (fun _ _ => rfl))
      refine ⟨rfl, ?_⟩
      rw [getD_of hv]
    · exact ⟨rfl, rfl⟩
  · have e1 : dI xs ++ dI ((List.range 6).map fun k => (ckv xs k).sum % 97) = dI (celOf xs) := by
      unfold celOf
      exact (List.map_append).symm
    rw [e1]
    exact h1 hx1 p
def S_troubles (K : PySem.W.Frag) : SpD := fun ds L q e => ∃ x xs, ds = [x] ∧ AsL L x (dI xs) ∧ (okc 24 xs → ∀ p, q (.ref p) ((p, .lst (dI (sums xs))) :: L)) ∧ (¬ okc 24 xs → e (xcOf K "BadCell") L)
theorem b_troubles {ds : List D} {L : Lg} {q : D → Lg → Prop} {e : Xc → Lg → Prop} (c : Cf X (["cell"] : List Str) ([] : List Str) (defScope (top 15)) F0 (fun y _ L' => e y L')) (T : Tx X.K X.mg) (hr : Room 1 X.A)
    (G_look_signs : CalX X 1 "look_signs" (["signs", "many"] : List Str) (S_look_signs X.K)) (G_sums_of : CalX X 1 "sums_of" (["signs"] : List Str) S_sums_of) (h : S_troubles X.K ds L q e) :
    BK X F0 (defBody (top 15)) (ds.map some ++ List.replicate 0 none) L { nx := fun _ L' => q .non L', rt := q } := by
  obtain ⟨x, xs, rfl, hx, h1, h2⟩ := h
  refine bk_cons (sk_expr (ek_call c.tk G_look_signs (hr.mono (by first | decide | exact Nat.le_refl _)) (ea_cons (ek_n c.toCn .z (ea_cons (ek_gi T.PLACES (c.toCn.gl) (ea_nil (⟨x, xs, _, rfl, hx, fun hx2 => ?_, fun hx2 => ?_⟩)))))) (c.toCn.gl)))
  case refine_2 => exact h2 hx2
  refine bk_one (sk_ret (ek_call c.tk G_sums_of (hr.mono (by first | decide | exact Nat.le_refl _)) (ea_cons (ek_n c.toCn .z (ea_nil (⟨x, xs, rfl, hx, by have := hx2.1; omega, fun p2 => ?_⟩)))) (c.toCn.gl)))
  exact h1 hx2 _
/-! ### mending -/
def optD : Option Nat → D
  | some p => .int (p : Int)
  | none => .non
def Plc (x : Int) : Option Nat → Prop
  | some i => i < 24 ∧ (5 : Int) ^ i % 97 = x
  | none => ∀ i, i < 24 → (5 : Int) ^ i % 97 ≠ x
theorem pows24 {i : Nat} (h : i < 24) : pows[i]? = some ((5 : Int) ^ i % 97) := by
  have := pows_get i
  rwa [Nat.mod_eq_of_lt (by omega)] at this
def S_place_of : SpD := fun ds L q _ => ∃ x, ds = [.int x] ∧ ∀ o, Plc x o → q (optD o) L
theorem b_place_of {ds : List D} {L : Lg} {q : D → Lg → Prop} {e : Xc → Lg → Prop} (c : Cf X (["x", "i"] : List Str) ([] : List Str) (defScope (top 32)) F0 (fun y _ L' => e y L')) (T : Tx X.K X.mg) (h : S_place_of ds L q e) :
    BK X F0 (defBody (top 32)) (ds.map some ++ List.replicate 1 none) L { nx := fun _ L' => q .non L', rt := q } := by
  obtain ⟨x, rfl, h1⟩ := h
  refine bk_cons (sk_for c (ei_range1 T.no_range (c.toCn.gl) (ek_gi T.PLACES (c.toCn.gl) (⟨_, rfl, (⟨by decide, by decide⟩), ⟨fun i Γ L' => ∃ w, Γ = [some (.int x), w] ∧ L' = L ∧ ∀ k, k < i → (5 : Int) ^ k % 97 ≠ x, ?_, fun F1 c i d Γ L hd hP => ?_, fun Γ L hP => ?_⟩⟩))))
  · exact ⟨_, rfl, rfl, fun k hk => absurd hk (Nat.not_lt_zero _)⟩
  · obtain ⟨w, rfl, rfl, hk⟩ := hP
    obtain ⟨hi, rfl⟩ := range_nat hd
    have hi : i < 24 := hi
    refine tg_n c.toCn ⟨_, (.s .z), ?_⟩
    refine bk_one (sk_if (et_eqI (ek_ix (ek_go T.POWERS (c.toCn.gl) (ek_n c.toCn (.s .z) (⟨_, _, _, .lst, rfl, (at_dIn (pows24 hi)), ⟨_, rfl, ek_n c.toCn .z (⟨_, rfl, ⟨fun ht => ?_, fun ht => ?_⟩⟩)⟩⟩))) (fun _ _ => rfl))))
    · refine bk_one (sk_ret (ek_n c.toCn (.s .z) (?_)))
      have h2 := h1 (some i) ⟨hi, by simpa using ht⟩
      have e : optD (some i) = .int (0 + (i : Int)) := by
        show D.int (i : Int) = _
        rw [Int.zero_add]
      rw [e] at h2
      exact h2
    · refine bk_nil ⟨_, rfl, rfl, fun k hk2 => ?_⟩
      by_cases hki : k = i
      · rw [hki]
        simpa using ht
      · exact hk k (by omega)
  · obtain ⟨w, rfl, rfl, hk⟩ := hP
    refine bk_one (sk_ret (ek_non (?_)))
    exact h1 none hk
theorem six {fs : List Int} (h : fs6 fs) : ∃ a0 a1 a2 a3 a4 a5, fs = [a0, a1, a2, a3, a4, a5] ∧ (0 ≤ a0 ∧ a0 ≤ 96) ∧ (0 ≤ a1 ∧ a1 ≤ 96) ∧ (0 ≤ a2 ∧ a2 ≤ 96) ∧ (0 ≤ a3 ∧ a3 ≤ 96) ∧ (0 ≤ a4 ∧ a4 ≤ 96) ∧ (0 ≤ a5 ∧ a5 ≤ 96) := by
  obtain ⟨hl, hb⟩ := h
  match fs, hl, hb with
  | [a0, a1, a2, a3, a4, a5], _, hb => exact ⟨a0, a1, a2, a3, a4, a5, rfl, hb a0 (by simp), hb a1 (by simp), hb a2 (by simp), hb a3 (by simp), hb a4 (by simp), hb a5 (by simp)⟩
theorem fk_lt {fs : List Int} (h : fs6 fs) {k : Nat} (hk : k < 6) : ∃ v, fs[k]? = some v ∧ (0 ≤ v ∧ v ≤ 96) ∧ fk fs k = cc v := fk_at h hk
def oneD : Option (Nat × Int) → D
  | some (i, v) => .lst [.tup [.int (i : Int), .int v]]
  | none => .non
def S_one_turned : SpD := fun ds L q _ => ∃ y fs, ds = [y] ∧ AsL L y (dI fs) ∧ fs6 fs ∧ ∀ o, OneR fs o → q (oneD o) L
theorem b_one_turned {ds : List D} {L : Lg} {q : D → Lg → Prop} {e : Xc → Lg → Prop} (c : Cf X (["found", "x", "j", "place"] : List Str) ([] : List Str) (defScope (top 33)) F0 (fun y _ L' => e y L')) (T : Tx X.K X.mg) (hr : Room 3 X.A)
    (G_inverse : CalX X 3 "inverse" (["a"] : List Str) (S_inverse X.K)) (G_place_of : CalX X 1 "place_of" (["x"] : List Str) S_place_of) (h : S_one_turned ds L q e) :
    BK X F0 (defBody (top 33)) (ds.map some ++ List.replicate 3 none) L { nx := fun _ L' => q .non L', rt := q } := by
  obtain ⟨y, fs, rfl, hy, h6, h1⟩ := h
  have hzero : (0 : Int) ∈ fs → OneR fs none := fun hm i hi V hV ho => by
    obtain ⟨n, hn, e⟩ := List.mem_iff_getElem.mp hm
    refine (one_tells ho hV).1 n (by rw [← h6.1]; exact hn) ?_
    unfold fk
    rw [List.getD_eq_getElem?_getD, List.getElem?_eq_getElem hn, e]
    rfl
  refine bk_cons (sk_if (et_inI (ek_int (⟨_, rfl, ek_n c.toCn .z (⟨_, Or.inl hy, ⟨_, rfl, ⟨fun ht => ?_, fun ht => ?_⟩⟩⟩)⟩))))
  · refine bk_one (sk_ret (ek_non (?_)))
    exact h1 none (hzero (of_decide_eq_true ht))
  refine bk_nil ?_
  have hnz : (0 : Int) ∉ fs := of_decide_eq_false ht
  obtain ⟨v0, g0, b0, f0⟩ := fk_lt h6 (k := 0) (by decide)
  obtain ⟨v1, g1, b1, f1⟩ := fk_lt h6 (k := 1) (by decide)
  have hv0 : v0 ≠ 0 := fun z => hnz (z ▸ List.mem_of_getElem? g0)
  have hc0 : cc v0 ≠ 0 := fun z => by
    have := cc_0.mp z
    omega
  refine bk_cons (sk_set c.toCn (ek_mod (ek_mul (ek_ix (ek_n c.toCn .z (ek_int (⟨_, _, _, hy, rfl, (by first | exact at_dI (i := 0) (by decide) g0 | exact at_dI (i := 1) (by decide) g1), ⟨_, rfl, ek_call c.tk G_inverse (hr.mono (by first | decide | exact Nat.le_refl _)) (ea_cons (ek_ix (ek_n c.toCn .z (ek_int (⟨_, _, _, hy, rfl, (by first | exact at_dI (i := 0) (by decide) g0 | exact at_dI (i := 1) (by decide) g1), ea_nil (⟨_, rfl, fun _ => ⟨_, rfl, (by walk_at "vmul"), ⟨_, rfl, ek_int (⟨_, rfl, (by walk_at "vpos"), ⟨_, (.s .z), ?_⟩⟩)⟩⟩, fun z => absurd ⟨⟨by omega, by omega⟩, hv0⟩ z⟩)⟩))) (fun _ _ => rfl))) (c.toCn.gl)⟩⟩))) (fun _ _ => rfl)))))
  have hxv : cc (v1 * (v0 ^ 95 % 97) % 97) = fk fs 1 * cc (ivI v0) := by
    rw [cc_mod, cc_mul, f1]
    rfl
  have hxb : 0 ≤ v1 * (v0 ^ 95 % 97) % 97 ∧ v1 * (v0 ^ 95 % 97) % 97 ≤ 96 := okc_mod _
  have hxi : ∀ i V, One fs i V → V ≠ 0 → cc (v1 * (v0 ^ 95 % 97) % 97) = pw i := fun i V ho hV => by
    rw [hxv]
    refine (one_tells ho hV).2.2 _ ?_
    rw [f0]
    exact iv_cc hc0
  have hxn : cc (v1 * (v0 ^ 95 % 97) % 97) ≠ 0 → True := fun _ => trivial
  have hfl : (dI fs).length = 6 := by rw [dI_len]; exact h6.1
  generalize v1 * (v0 ^ 95 % 97) % 97 = x at *
  refine bk_cons (sk_for c (ei_range2 T.no_range (c.toCn.gl) (ek_int (⟨_, rfl, ek_len T.no_len (c.toCn.gl) (ek_n c.toCn .z (⟨_, Or.inl hy, ⟨_, rfl, (⟨by decide, by decide, by rw [hfl]; decide, by rw [hfl]; decide⟩), ⟨fun i Γ L' => ∃ w1 w2, Γ = [some y, some (.int x), w1, w2] ∧ L' = L ∧ ∀ k, k < i → fk fs (k + 1) = fk fs k * cc x, ?_, fun F1 c i d Γ L hd hP => ?_, fun Γ L hP => ?_⟩⟩⟩))⟩))))
  · exact ⟨_, _, rfl, rfl, fun k hk => absurd hk (Nat.not_lt_zero _)⟩
  · obtain ⟨w1, w2, rfl, rfl, hk⟩ := hP
    rw [hfl] at hd
    obtain ⟨hi, rfl⟩ := range_nat hd
    have hi : i < 5 := hi
    obtain ⟨va, ga, ba, fa⟩ := fk_lt h6 (k := i) (by omega)
    obtain ⟨vb, gb, bb, fb⟩ := fk_lt h6 (k := i + 1) (by omega)
    have ia : atI (dI fs) (1 + (i : Int) - 1) = some (.int va) := at_dI (by omega) (by rw [show (1 + (i : Int) - 1).toNat = i by omega]; exact ga)
    have ib : atI (dI fs) (1 + (i : Int)) = some (.int vb) := at_dI (by omega) (by rw [show (1 + (i : Int)).toNat = i + 1 by omega]; exact gb)
    refine tg_n c.toCn ⟨_, (.s (.s .z)), ?_⟩
    refine bk_one (sk_if (et_neI (ek_ix (ek_n c.toCn .z (ek_n c.toCn (.s (.s .z)) (⟨_, _, _, hy, rfl, (by first | exact ia | exact ib), ⟨_, rfl, ek_mod (ek_mul (ek_ix (ek_n c.toCn .z (ek_sub (ek_n c.toCn (.s (.s .z)) (⟨_, rfl, ek_int (⟨_, rfl, ⟨_, _, _, hy, rfl, (by first | exact ia | exact ib), ⟨_, rfl, ek_n c.toCn (.s .z) (⟨_, rfl, (by walk_at "vmul"), ⟨_, rfl, ek_int (⟨_, rfl, (by walk_at "vpos"), ⟨_, rfl, ⟨fun ht => ?_, fun ht => ?_⟩⟩⟩)⟩⟩)⟩⟩⟩)⟩)))) (fun _ _ => rfl)))⟩⟩))) (fun _ _ => rfl))))
    · refine bk_one (sk_ret (ek_non (?_)))
      refine h1 none fun i' hi' V hV ho => ?_
      have hr := (one_tells ho hV).2.1 i hi
      rw [← hxi i' V ho hV, fa, fb, ← cc_mul] at hr
      have := cc_eq.mp hr
      simp at ht
      exact ht (by omega)
    · refine bk_nil ⟨_, _, rfl, rfl, fun k hk2 => ?_⟩
      by_cases hki : k = i
      · subst hki
        simp at ht
        rw [fa, fb, ht, cc_mod, cc_mul]
      · exact hk k (by omega)
  · obtain ⟨w1, w2, rfl, rfl, hk⟩ := hP
    rw [hfl, rangeD_len] at hk
    have hk : ∀ k, k < 5 → fk fs (k + 1) = fk fs k * cc x := hk
    refine bk_cons (sk_set c.toCn (ek_call c.tk G_place_of (hr.mono (by first | decide | exact Nat.le_refl _)) (ea_cons (ek_n c.toCn (.s .z) (ea_nil (⟨_, rfl, fun o ho => ⟨_, (.s (.s (.s .z))), ?_⟩⟩)))) (c.toCn.gl)))
    cases o with
    | none =>
      refine bk_cons (sk_if (et_isN (ek_n c.toCn (.s (.s (.s .z))) (⟨fun ht => ?_, fun ht => ?_⟩))))
      · refine bk_one (sk_ret (ek_non (?_)))
        refine h1 none fun i hi V hV hO => ho i hi ?_
        have e := hxi i V hO hV
        have := cc_eq.mp e
        omega
      · cases ht
    | some i =>
      refine bk_cons (sk_if (et_isN (ek_n c.toCn (.s (.s (.s .z))) (⟨fun ht => ?_, fun ht => ?_⟩))))
      · cases ht
      refine bk_nil ?_
      obtain ⟨hi, he⟩ := ho
      have hx0 : x ≠ 0 := fun z => pw_ne i (cc_0.mpr (by rw [z] at he; exact he))
      have hcx : cc x = pw i := cc_eq.mpr (by omega)
      refine bk_one (sk_ret (ek_lst (ea_cons (ek_tup (ea_cons (ek_n c.toCn (.s (.s (.s .z))) (ea_cons (ek_mod (ek_mul (ek_ix (ek_n c.toCn .z (ek_int (⟨_, _, _, hy, rfl, (at_dI (i := 0) (by decide) g0), ⟨_, rfl, ek_call c.tk G_inverse (hr.mono (by first | decide | exact Nat.le_refl _)) (ea_cons (ek_n c.toCn (.s .z) (ea_nil (⟨_, rfl, fun _ => ⟨_, rfl, (by walk_at "vmul"), ⟨_, rfl, ek_int (⟨_, rfl, (by walk_at "vpos"), ea_nil (⟨(by walk_at "vlen"), ea_nil (⟨(by walk_at "vlen"), ?_⟩)⟩)⟩)⟩⟩, fun z => absurd ⟨⟨by omega, by omega⟩, hx0⟩ z⟩)))) (c.toCn.gl)⟩⟩))) (fun _ _ => rfl)))))))))))
      refine h1 (some (i, v0 * (x ^ 95 % 97) % 97)) ⟨hi, okc_mod _, one_some hcx hk ?_⟩
      rw [f0, cc_mod, cc_mul, hcx, ← hcx]
      have hcx0 : cc x ≠ 0 := by rw [hcx]; exact pw_ne i
      exact (id_inv' (cc v0) (cc x) (cc (ivI x)) (iv_cc hcx0)).symm
/-! two turns -/
def gon (fs : List Int) (s p : Int) : Bool := (List.range 4).all fun j => decide (fk fs (j + 2) = cc s * fk fs (j + 1) - cc p * fk fs j)
theorem gon_iff {fs : List Int} {s p : Int} : gon fs s p = true ↔ ∀ j, j < 4 → fk fs (j + 2) = cc s * fk fs (j + 1) - cc p * fk fs j := by
  unfold gon
  rw [List.all_eq_true]
  exact ⟨fun h j hj => of_decide_eq_true (h j (List.mem_range.mpr hj)), fun h j hj => decide_eq_true (h j (List.mem_range.mp hj))⟩
def S_goes_on : SpD := fun ds L q _ => ∃ y fs s p, ds = [y, .int s, .int p] ∧ AsL L y (dI fs) ∧ fs6 fs ∧ (0 ≤ s ∧ s ≤ 96) ∧ (0 ≤ p ∧ p ≤ 96) ∧ q (.bl (gon fs s p)) L
theorem b_goes_on {ds : List D} {L : Lg} {q : D → Lg → Prop} {e : Xc → Lg → Prop} (c : Cf X (["found", "s", "p", "j"] : List Str) ([] : List Str) (defScope (top 34)) F0 (fun y _ L' => e y L')) (T : Tx X.K X.mg) (h : S_goes_on ds L q e) :
    BK X F0 (defBody (top 34)) (ds.map some ++ List.replicate 1 none) L { nx := fun _ L' => q .non L', rt := q } := by
  obtain ⟨y, fs, s, p, rfl, hy, h6, hs, hp, h1⟩ := h
  have hfl : (dI fs).length = 6 := by rw [dI_len]; exact h6.1
  refine bk_cons (sk_for c (ei_range2 T.no_range (c.toCn.gl) (ek_int (⟨_, rfl, ek_len T.no_len (c.toCn.gl) (ek_n c.toCn .z (⟨_, Or.inl hy, ⟨_, rfl, (⟨by decide, by decide, by rw [hfl]; decide, by rw [hfl]; decide⟩), ⟨fun i Γ L' => ∃ w1, Γ = [some y, some (.int s), some (.int p), w1] ∧ L' = L ∧ ∀ j, j < i → fk fs (j + 2) = cc s * fk fs (j + 1) - cc p * fk fs j, ?_, fun F1 c i d Γ L hd hP => ?_, fun Γ L hP => ?_⟩⟩⟩))⟩))))
  · exact ⟨_, rfl, rfl, fun k hk => absurd hk (Nat.not_lt_zero _)⟩
  · obtain ⟨w1, rfl, rfl, hk⟩ := hP
    rw [hfl] at hd
    obtain ⟨hi, rfl⟩ := range_nat hd
    have hi : i < 4 := hi
    obtain ⟨va, ga, ba, fa⟩ := fk_lt h6 (k := i) (by omega)
    obtain ⟨vb, gb, bb, fb⟩ := fk_lt h6 (k := i + 1) (by omega)
    obtain ⟨vc, gc, bc, fc⟩ := fk_lt h6 (k := i + 2) (by omega)
    have ia : atI (dI fs) (2 + (i : Int) - 2) = some (.int va) := at_dI (by omega) (by rw [show (2 + (i : Int) - 2).toNat = i by omega]; exact ga)
    have ib : atI (dI fs) (2 + (i : Int) - 1) = some (.int vb) := at_dI (by omega) (by rw [show (2 + (i : Int) - 1).toNat = i + 1 by omega]; exact gb)
    have ic : atI (dI fs) (2 + (i : Int)) = some (.int vc) := at_dI (by omega) (by rw [show (2 + (i : Int)).toNat = i + 2 by omega]; exact gc)
    have key : (s * vb - p * va - vc) % 97 = 0 ↔ fk fs (i + 2) = cc s * fk fs (i + 1) - cc p * fk fs i := by
      rw [← cc_0, cc_sub, cc_sub, cc_mul, cc_mul, fa, fb, fc]
      constructor
      · intro h
        exact (id_sub _ _ h).symm
      · intro h
        rw [h]
        exact id_self _
    refine tg_n c.toCn ⟨_, (.s (.s (.s .z))), ?_⟩
    refine bk_one (sk_if (et_neI (ek_mod (ek_sub (ek_sub (ek_mul (ek_n c.toCn (.s .z) (⟨_, rfl, ek_ix (ek_n c.toCn .z (ek_sub (ek_n c.toCn (.s (.s (.s .z))) (⟨_, rfl, ek_int (⟨_, rfl, ⟨_, _, _, hy, rfl, (by first | exact ia | exact ib | exact ic), ⟨_, rfl, (by walk_at "vmul"), ⟨_, rfl, ek_mul (ek_n c.toCn (.s (.s .z)) (⟨_, rfl, ek_ix (ek_n c.toCn .z (ek_sub (ek_n c.toCn (.s (.s (.s .z))) (⟨_, rfl, ek_int (⟨_, rfl, ⟨_, _, _, hy, rfl, (by first | exact ia | exact ib | exact ic), ⟨_, rfl, (by walk_at "vmul"), ⟨_, rfl, ⟨_, rfl, ek_ix (ek_n c.toCn .z (ek_n c.toCn (.s (.s (.s .z))) (⟨_, _, _, hy, rfl, (by first | exact ia | exact ib | exact ic), ⟨_, rfl, ⟨_, rfl, ek_int (⟨_, rfl, (by walk_at "vpos"), ⟨_, rfl, ek_int (⟨_, rfl, ⟨fun ht => ?_, fun ht => ?_⟩⟩)⟩⟩)⟩⟩⟩))) (fun _ _ => rfl)⟩⟩⟩⟩⟩)⟩)))) (fun _ _ => rfl)⟩))⟩⟩⟩⟩)⟩)))) (fun _ _ => rfl)⟩))))))))
    · refine bk_one (sk_ret (ek_bl (?_)))
      have e1 : gon fs s p = false := by
        rw [Bool.eq_false_iff]
        intro z
        have := gon_iff.mp z i hi
        simp at ht
        exact ht (key.mpr this)
      rw [e1] at h1
      exact h1
    · refine bk_nil ⟨_, rfl, rfl, fun k hk2 => ?_⟩
      by_cases hki : k = i
      · subst hki
        simp at ht
        exact key.mp ht
      · exact hk k (by omega)
  · obtain ⟨w1, rfl, rfl, hk⟩ := hP
    rw [hfl, rangeD_len] at hk
    refine bk_one (sk_ret (ek_bl (?_)))
    have e1 : gon fs s p = true := gon_iff.mpr hk
    rw [e1] at h1
    exact h1
/-! measures: look_late, look_measure, quiet_of -/
def okL (late : Int) : Prop := 1 ≤ late ∧ late ≤ 6
def okM (late lost : Int) : Prop := (1 ≤ late ∧ late ≤ 6) ∧ 0 ≤ lost ∧ lost ≤ 4
def S_look_late (K : PySem.W.Frag) : SpD := fun ds L q e => ∃ late, ds = [.int late] ∧ (okL late → q .non L) ∧ (¬ okL late → e (xcOf K "BadMeasure") L)
theorem b_look_late {ds : List D} {L : Lg} {q : D → Lg → Prop} {e : Xc → Lg → Prop} (c : Cf X (["late"] : List Str) ([] : List Str) (defScope (top 20)) F0 (fun y _ L' => e y L')) (T : Tx X.K X.mg) (h : S_look_late X.K ds L q e) :
    BK X F0 (defBody (top 20)) (ds.map some ++ List.replicate 0 none) L { nx := fun _ L' => q .non L', rt := q } := by
  obtain ⟨late, rfl, h1, h2⟩ := h
  refine bk_one (sk_if (et_w (ew_or (et_lt (ek_n c.toCn .z (⟨_, rfl, ek_int (⟨_, rfl, ⟨rfl, rfl⟩⟩)⟩))) (fun hb => et_or1 (et_gt (ek_n c.toCn .z (⟨_, rfl, ek_gi T.MOST_LATE (c.toCn.gl) (⟨_, rfl, ⟨rfl, rfl⟩⟩)⟩)))) (⟨fun ht => ?_, fun ht => ?_⟩))))
  · refine bk_one (sk_rz c T.BadMeasure ?_)
    refine h2 fun z => ?_
    have z1 := z.1
    have z2 := z.2
    simp at ht
    omega
  · refine bk_nil (h1 ?_)
    unfold okL
    simp at ht
    omega
def S_look_measure (K : PySem.W.Frag) : SpD := fun ds L q e => ∃ late lost, ds = [.tup [.int late, .int lost]] ∧ (okM late lost → q .non L) ∧ (¬ okM late lost → e (xcOf K "BadMeasure") L)
theorem b_look_measure {ds : List D} {L : Lg} {q : D → Lg → Prop} {e : Xc → Lg → Prop} (c : Cf X (["measure", "late", "lost"] : List Str) ([] : List Str) (defScope (top 21)) F0 (fun y _ L' => e y L')) (T : Tx X.K X.mg) (hr : Room 1 X.A)
    (G_look_late : CalX X 1 "look_late" (["late"] : List Str) (S_look_late X.K)) (h : S_look_measure X.K ds L q e) :
    BK X F0 (defBody (top 21)) (ds.map some ++ List.replicate 2 none) L { nx := fun _ L' => q .non L', rt := q } := by
  obtain ⟨late, lost, rfl, h1, h2⟩ := h
  refine bk_cons (sk_asg (ek_n c.toCn .z (tg_tup c.calm ⟨_, rfl, rfl, tn_c c.toCn ⟨_, (.s .z), tn_c c.toCn ⟨_, (.s (.s .z)), tn_z (?_)⟩⟩⟩)))
  refine bk_cons (sk_expr (ek_call c.tk G_look_late (hr.mono (by first | decide | exact Nat.le_refl _)) (ea_cons (ek_n c.toCn (.s .z) (ea_nil (⟨_, rfl, fun hl => ?_, fun hl => ?_⟩)))) (c.toCn.gl)))
  · refine bk_one (sk_if (et_w (ew_or (et_lt (ek_n c.toCn (.s (.s .z)) (⟨_, rfl, ek_int (⟨_, rfl, ⟨rfl, rfl⟩⟩)⟩))) (fun hb => et_or1 (et_gt (ek_n c.toCn (.s (.s .z)) (⟨_, rfl, ek_gi T.MOST_LOST (c.toCn.gl) (⟨_, rfl, ⟨rfl, rfl⟩⟩)⟩)))) (⟨fun ht => ?_, fun ht => ?_⟩))))
    · refine bk_one (sk_rz c T.BadMeasure ?_)
      refine h2 fun z => ?_
      have z1 := z.2.1
      have z2 := z.2.2
      simp at ht
      omega
    · refine bk_nil (h1 ?_)
      have l1 := hl.1
      have l2 := hl.2
      unfold okM
      simp at ht
      omega
  · exact h2 fun z => hl z.1
def S_quiet_of (K : PySem.W.Frag) : SpD := fun ds L q e => ∃ late lost, ds = [.tup [.int late, .int lost]] ∧ (okM late lost → q (.int (late + lost)) L) ∧ (¬ okM late lost → e (xcOf K "BadMeasure") L)
theorem b_quiet_of {ds : List D} {L : Lg} {q : D → Lg → Prop} {e : Xc → Lg → Prop} (c : Cf X (["measure"] : List Str) ([] : List Str) (defScope (top 23)) F0 (fun y _ L' => e y L')) (T : Tx X.K X.mg) (hr : Room 2 X.A)
    (G_look_measure : CalX X 2 "look_measure" (["measure"] : List Str) (S_look_measure X.K)) (h : S_quiet_of X.K ds L q e) :
    BK X F0 (defBody (top 23)) (ds.map some ++ List.replicate 0 none) L { nx := fun _ L' => q .non L', rt := q } := by
  obtain ⟨late, lost, rfl, h1, h2⟩ := h
  have i0 : atI [D.int late, D.int lost] 0 = some (.int late) := rfl
  have i1 : atI [D.int late, D.int lost] 1 = some (.int lost) := rfl
  refine bk_cons (sk_expr (ek_call c.tk G_look_measure (hr.mono (by first | decide | exact Nat.le_refl _)) (ea_cons (ek_n c.toCn .z (ea_nil (⟨_, _, rfl, fun hm => ?_, fun hm => ?_⟩)))) (c.toCn.gl)))
  · refine bk_one (sk_ret (ek_add (ek_ixT (ek_n c.toCn .z (ek_int (⟨_, _, _, rfl, rfl, (by first | exact i0 | exact i1), ⟨_, rfl, ek_ixT (ek_n c.toCn .z (ek_int (⟨_, _, _, rfl, rfl, (by first | exact i0 | exact i1), ⟨_, rfl, ?_⟩⟩))) (fun _ _ => rfl)⟩⟩))) (fun _ _ => rfl))))
    exact h1 hm
  · exact h2 hm
/-! number_signs -/
def S_number_signs (K : PySem.W.Frag) : SpD := fun ds L q e => ∃ (number : Int) (m : Nat), ds = [.int number, .int (m : Int)] ∧ m ≤ 1000 ∧ (tp m number = 0 → ∀ p, q (.ref p) ((p, .lst (dI (dg m number).reverse)) :: L)) ∧ (tp m number ≠ 0 → e (xcOf K "BadSign") L)
theorem b_number_signs {ds : List D} {L : Lg} {q : D → Lg → Prop} {e : Xc → Lg → Prop} (c : Cf X (["number", "many", "signs", "rest", "k"] : List Str) ([] : List Str) (defScope (top 39)) F0 (fun y _ L' => e y L')) (T : Tx X.K X.mg) (h : S_number_signs X.K ds L q e) :
    BK X F0 (defBody (top 39)) (ds.map some ++ List.replicate 3 none) L { nx := fun _ L' => q .non L', rt := q } := by
  obtain ⟨number, m, rfl, hm, h1, h2⟩ := h
  refine bk_cons (sk_set c.toCn (ek_lstO (ea_nil (⟨(by walk_at "vlen"), fun p_signs => ⟨_, (.s (.s .z)), ?_⟩⟩))))
  refine bk_cons (sk_set c.toCn (ek_n c.toCn .z (⟨_, (.s (.s (.s .z))), ?_⟩)))
  refine bk_cons (sk_for c (ei_range1 T.no_range (c.toCn.gl) (ek_n c.toCn (.s .z) (⟨_, rfl, (⟨by omega, by omega⟩), ⟨fun i Γ L' => ∃ rest xs w, Γ = [some (.int number), some (.int (m : Int)), some (.ref p_signs), some (.int rest), w] ∧ L' = (p_signs, .lst (dI xs)) :: L ∧ xs.length = i ∧ i ≤ m ∧ xs ++ dg (m - i) rest = dg m number ∧ tp (m - i) rest = tp m number, ?_, fun F1 c i d Γ L hd hP => ?_, fun Γ L hP => ?_⟩⟩))))
  · exact ⟨number, [], none, rfl, rfl, rfl, Nat.zero_le _, rfl, rfl⟩
  · obtain ⟨rest, xs, w, rfl, rfl, hl, hi, h3, h4⟩ := hP
    obtain ⟨hi2, rfl⟩ := range_nat hd
    have e1 : m - i = (m - (i + 1)) + 1 := by omega
    rw [e1, dg] at h3
    rw [e1, tp] at h4
    refine tg_n c.toCn ⟨_, (.s (.s (.s (.s .z)))), ?_⟩
    refine bk_cons (sk_expr (ek_app (ek_n c.toCn (.s (.s .z)) (⟨_, _, rfl, .own .z, ek_mod (ek_n c.toCn (.s (.s (.s .z))) (⟨_, rfl, ek_gi T.PRIME (c.toCn.gl) (⟨_, rfl, (by walk_at "vpos"), ⟨_, _, _, .z, .z, (sz_lt (by rw [dI_len]; omega)), ?_⟩⟩)⟩))⟩))))
    refine bk_one (sk_set c.toCn (ek_fdiv (ek_n c.toCn (.s (.s (.s .z))) (⟨_, rfl, ek_gi T.PRIME (c.toCn.gl) (⟨_, rfl, (by walk_at "vdiv"), ⟨_, (.s (.s (.s .z))), ?_⟩⟩)⟩))))
    exact ⟨rest / 97, xs ++ [rest % 97], _, rfl, by rw [← dI_app], by rw [List.length_append, hl]; rfl, by omega, by rw [← h3, List.append_assoc]; rfl, h4⟩
  · obtain ⟨rest, xs, w, rfl, rfl, hl, hi, h3, h4⟩ := hP
    rw [rangeD_len] at hl hi h3 h4
    have e1 : (m : Int).toNat = m := by omega
    rw [show ((m : Int).toNat) = m by omega, Nat.sub_self] at h3 h4
    rw [dg, List.append_nil] at h3
    rw [tp] at h4
    refine bk_cons (sk_if (et_neI (ek_n c.toCn (.s (.s (.s .z))) (⟨_, rfl, ek_int (⟨_, rfl, ⟨fun ht => ?_, fun ht => ?_⟩⟩)⟩))))
    · simp at ht
      refine bk_drop .z ?_
      refine bk_one (sk_rz c T.BadSign ?_)
      exact h2 fun z => ht (by rw [h4]; exact z)
    · simp at ht
      refine bk_nil ?_
      refine bk_frz (.s (.s .z)) .z (.s (.s .z)) ?_
      refine bk_one (sk_ret (ek_revO c.calm T.no_list (c.toCn.gl) T.no_reversed (c.toCn.gl) (ek_n c.toCn (.s (.s .z)) (⟨_, .lst, fun p => ?_⟩))))
      have e2 : (dI xs).reverse = dI (dg m number).reverse := by rw [← h3]; exact (List.map_reverse).symm
      rw [e2]
      exact h1 (by rw [← h4]; exact ht) p
/-! signs_number -/
def S_signs_number (K : PySem.W.Frag) : SpD := fun ds L q e => ∃ xs, ds = [.lst (dI xs)] ∧ (dgs xs → q (.int (val xs)) L) ∧ (¬ dgs xs → e (xcOf K "BadSign") L)
theorem b_signs_number {ds : List D} {L : Lg} {q : D → Lg → Prop} {e : Xc → Lg → Prop} (c : Cf X (["signs", "number", "sign"] : List Str) ([] : List Str) (defScope (top 40)) F0 (fun y _ L' => e y L')) (T : Tx X.K X.mg) (hr : Room 1 X.A)
    (G_look_sign : CalX X 1 "look_sign" (["a"] : List Str) (S_look_sign X.K)) (h : S_signs_number X.K ds L q e) :
    BK X F0 (defBody (top 40)) (ds.map some ++ List.replicate 2 none) L { nx := fun _ L' => q .non L', rt := q } := by
  obtain ⟨xs, rfl, h1, h2⟩ := h
  refine bk_cons (sk_set c.toCn (ek_int (⟨_, (.s .z), ?_⟩)))
  refine bk_cons (sk_for c (ei_list (ek_n c.toCn .z (⟨_, rfl, ⟨fun i Γ L' => ∃ w, Γ = [some (.lst (dI xs)), some (.int (val (xs.take i))), w] ∧ L' = L ∧ dgs (xs.take i), ?_, fun F1 c i d Γ L hd hP => ?_, fun Γ L hP => ?_⟩⟩))))
  · exact ⟨none, rfl, rfl, fun v hv => by simp at hv⟩
  · obtain ⟨w, rfl, rfl, hj⟩ := hP
    obtain ⟨v, hv, rfl⟩ := dI_get hd
    refine tg_n c.toCn ⟨_, (.s (.s .z)), ?_⟩
    refine bk_cons (sk_expr (ek_call c.tk G_look_sign (hr.mono (by first | decide | exact Nat.le_refl _)) (ea_cons (ek_n c.toCn (.s (.s .z)) (ea_nil (⟨_, rfl, fun hx => ?_, fun hx => ?_⟩)))) (c.toCn.gl)))
    case refine_2 => exact h2 fun z => hx (z v (List.mem_of_getElem? hv))
    have e1 : xs.take (i + 1) = xs.take i ++ [v] := by rw [List.take_add_one, hv]; rfl
    refine bk_one (sk_set c.toCn (ek_add (ek_mul (ek_n c.toCn (.s .z) (⟨_, rfl, ek_gi T.PRIME (c.toCn.gl) (⟨_, rfl, (mulR ⟨by decide, by decide⟩), ⟨_, rfl, ek_n c.toCn (.s (.s .z)) (⟨_, rfl, ⟨_, (.s .z), ?_⟩⟩)⟩⟩)⟩)))))
    refine ⟨_, by rw [e1, val_snoc], rfl, ?_⟩
    rw [e1]
    intro u hu
    rcases List.mem_append.mp hu with z | z
    · exact hj u z
    · have : u = v := by simpa using z
      subst this
      exact hx
  · obtain ⟨w, rfl, rfl, hj⟩ := hP
    rw [dI_len, List.take_of_length_le (Nat.le_refl _)] at hj ⊢
    refine bk_one (sk_ret (ek_n c.toCn (.s .z) (?_)))
    exact h1 hj
end
end K34


set_option Elab.async false
set_option linter.all false
set_option maxRecDepth 100000
set_option maxHeartbeats 4000000
set_option pp.deepTerms.threshold 16
namespace K34
open PySem PySem.Spec PyProof.Rows L2 Vs
local macro_rules | `(tactic| walk_at "vpos") => `(tactic| first | decide | omega)
local macro_rules | `(tactic| walk_at "vdiv") => `(tactic| first | exact ⟨by decide, by decide⟩ | (constructor <;> omega))
local macro_rules | `(tactic| walk_at "vpow") => `(tactic| exact ⟨by decide, by decide, by decide⟩)
local macro_rules | `(tactic| walk_at "vmul") => `(tactic| first | exact mulL ⟨by decide, by decide⟩ | exact mulR ⟨by decide, by decide⟩ | exact mulL (by constructor <;> omega) | exact mulR (by constructor <;> omega))
local macro_rules | `(tactic| walk_at "vlen") => `(tactic| first | exact sz_ok (Nat.le_of_ble_eq_true rfl) | exact sz_lt (Nat.le_of_ble_eq_true rfl) | (refine sz_ok ?_; simp only [List.length_append, List.length_cons, List.length_nil, List.length_map]; omega) | (refine sz_lt ?_; simp only [List.length_append, List.length_cons, List.length_nil, List.length_map]; omega))
local macro_rules | `(tactic| walk_at "vrng") => `(tactic| (refine ⟨?_, ?_⟩ <;> omega))
local macro_rules | `(tactic| walk_at "vix") => `(tactic| rfl)
local macro_rules | `(tactic| walk_at "vixn") => `(tactic| first | rfl | exact ixN_at (by omega) (by omega))
local macro_rules | `(tactic| walk_at "vkb") => `(tactic| decide +kernel)
local macro_rules | `(tactic| walk_at "vty") => `(tactic| first | exact .int | exact .bl | exact .lst | exact .str | exact .tup | exact .non | exact .own .z | exact tyd_as (by assumption))
local macro_rules | `(tactic| walk_at "vkit") => `(tactic| assumption)
local macro_rules | `(tactic| walk_at "vrep") => `(tactic| (refine ⟨by omega, by omega, ?_⟩; first | decide | (refine sz_ok ?_; simp only [List.length_cons, List.length_nil]; omega)))
section
variable {X : Cx} {F0 : Hp}
/-! two_turned -/
def PL (s p : Int) : List Nat := (List.range 24).filter fun i => decide (((5 : Int) ^ i % 97 * (5 ^ i % 97) - s * (5 ^ i % 97) + p) % 97 = 0)
theorem pl_mem {s p : Int} {i : Nat} : i ∈ PL s p ↔ i < 24 ∧ pw i * pw i - cc s * pw i + cc p = 0 := by
  unfold PL
  rw [List.mem_filter, List.mem_range, decide_eq_true_eq, ← cc_0, cc_add, cc_sub, cc_mul, cc_mul, cc_mod]
  rfl
theorem pl_nd (s p : Int) : (PL s p).Nodup := List.Nodup.sublist List.filter_sublist List.nodup_range
def twoD : Option ((Nat × Int) × (Nat × Int)) → D
  | some ((i, u), (k, v)) => .lst [.tup [.int (i : Int), .int u], .tup [.int (k : Int), .int v]]
  | none => .non
def S_two_turned : SpD := fun ds L q _ => ∃ y fs, ds = [y] ∧ AsL L y (dI fs) ∧ fs6 fs ∧ ∀ o, TwoR fs o → q (twoD o) L
theorem b_two_turned {ds : List D} {L : Lg} {q : D → Lg → Prop} {e : Xc → Lg → Prop} (c : Cf X (["found", "below", "over", "s", "p", "places", "one", "two", "first", "second"] : List Str) (["i"] : List Str) (defScope (top 35)) F0 (fun y _ L' => e y L')) (T : Tx X.K X.mg) (hr : Room 3 X.A)
    (G_inverse : CalX X 3 "inverse" (["a"] : List Str) (S_inverse X.K)) (G_goes_on : CalX X 1 "goes_on" (["found", "s", "p"] : List Str) S_goes_on) (h : S_two_turned ds L q e) :
    BK X F0 (defBody (top 35)) (ds.map some ++ List.replicate 10 none) L { nx := fun _ L' => q .non L', rt := q } := by
  obtain ⟨y, fs, rfl, hy, h6, h1⟩ := h
  obtain ⟨v0, g0, b0, f0⟩ := fk_lt h6 (k := 0) (by decide)
  obtain ⟨v1, g1, b1, f1⟩ := fk_lt h6 (k := 1) (by decide)
  obtain ⟨v2, g2, b2, f2⟩ := fk_lt h6 (k := 2) (by decide)
  obtain ⟨v3, g3, b3, f3⟩ := fk_lt h6 (k := 3) (by decide)
  have i0 : atI (dI fs) 0 = some (.int v0) := at_dI (by decide) g0
  have i1 : atI (dI fs) 1 = some (.int v1) := at_dI (by decide) g1
  have i2 : atI (dI fs) 2 = some (.int v2) := at_dI (by decide) g2
  have i3 : atI (dI fs) 3 = some (.int v3) := at_dI (by decide) g3
  refine bk_cons (sk_set c.toCn (ek_mod (ek_sub (ek_mul (ek_ix (ek_n c.toCn .z (ek_int (⟨_, _, _, hy, rfl, (by first | exact i0 | exact i1 | exact i2), ⟨_, rfl, ek_ix (ek_n c.toCn .z (ek_int (⟨_, _, _, hy, rfl, (by first | exact i0 | exact i1 | exact i2), ⟨_, rfl, (by walk_at "vmul"), ⟨_, rfl, ek_mul (ek_ix (ek_n c.toCn .z (ek_int (⟨_, _, _, hy, rfl, (by first | exact i0 | exact i1 | exact i2), ⟨_, rfl, ek_ix (ek_n c.toCn .z (ek_int (⟨_, _, _, hy, rfl, (by first | exact i0 | exact i1 | exact i2), ⟨_, rfl, (by walk_at "vmul"), ⟨_, rfl, ⟨_, rfl, ek_int (⟨_, rfl, (by walk_at "vpos"), ⟨_, (.s .z), ?_⟩⟩)⟩⟩⟩⟩))) (fun _ _ => rfl)⟩⟩))) (fun _ _ => rfl))⟩⟩⟩))) (fun _ _ => rfl)⟩⟩))) (fun _ _ => rfl))))))
  have eb : cc ((v0 * v2 - v1 * v1) % 97) = fk fs 0 * fk fs 2 - fk fs 1 * fk fs 1 := by
    rw [cc_mod, cc_sub, cc_mul, cc_mul, f0, f1, f2]
  have bb := okc_mod (v0 * v2 - v1 * v1)
  generalize (v0 * v2 - v1 * v1) % 97 = bl at *
  refine bk_cons (sk_if (et_eqI (ek_n c.toCn (.s .z) (⟨_, rfl, ek_int (⟨_, rfl, ⟨fun ht => ?_, fun ht => ?_⟩⟩)⟩))))
  · refine bk_one (sk_ret (ek_non (?_)))
    refine h1 none fun i k hi hk hik U V hU hV hO => ?_
    refine (two_tells hO hi hk hik hU hV).1 ?_
    rw [← eb]
    exact cc_0.mpr (by simp at ht; omega)
  refine bk_nil ?_
  have hb0 : bl ≠ 0 := by simpa using ht
  have hcb : cc bl ≠ 0 := fun z => by
    have := cc_0.mp z
    omega
  refine bk_cons (sk_set c.toCn (ek_call c.tk G_inverse (hr.mono (by first | decide | exact Nat.le_refl _)) (ea_cons (ek_n c.toCn (.s .z) (ea_nil (⟨_, rfl, fun _ => ⟨_, (.s (.s .z)), ?_⟩, fun z => absurd ⟨⟨by omega, by omega⟩, hb0⟩ z⟩)))) (c.toCn.gl)))
  have eo : (fk fs 0 * fk fs 2 - fk fs 1 * fk fs 1) * cc (bl ^ 95 % 97) = 1 := by
    rw [← eb]
    exact iv_cc hcb
  have bo := okc_mod (bl ^ 95)
  generalize bl ^ 95 % 97 = ov at *
  refine bk_cons (sk_set c.toCn (ek_mod (ek_mul (ek_sub (ek_mul (ek_ix (ek_n c.toCn .z (ek_int (⟨_, _, _, hy, rfl, (by first | exact i0 | exact i1 | exact i2 | exact i3), ⟨_, rfl, ek_ix (ek_n c.toCn .z (ek_int (⟨_, _, _, hy, rfl, (by first | exact i0 | exact i1 | exact i2 | exact i3), ⟨_, rfl, (by first | exact mulL ⟨by omega, by omega⟩ | exact mulR ⟨by omega, by omega⟩), ⟨_, rfl, ek_mul (ek_ix (ek_n c.toCn .z (ek_int (⟨_, _, _, hy, rfl, (by first | exact i0 | exact i1 | exact i2 | exact i3), ⟨_, rfl, ek_ix (ek_n c.toCn .z (ek_int (⟨_, _, _, hy, rfl, (by first | exact i0 | exact i1 | exact i2 | exact i3), ⟨_, rfl, (by first | exact mulL ⟨by omega, by omega⟩ | exact mulR ⟨by omega, by omega⟩), ⟨_, rfl, ⟨_, rfl, ek_n c.toCn (.s (.s .z)) (⟨_, rfl, (by first | exact mulL ⟨by omega, by omega⟩ | exact mulR ⟨by omega, by omega⟩), ⟨_, rfl, ek_int (⟨_, rfl, (by walk_at "vpos"), ⟨_, (.s (.s (.s .z))), ?_⟩⟩)⟩⟩)⟩⟩⟩⟩))) (fun _ _ => rfl)⟩⟩))) (fun _ _ => rfl))⟩⟩⟩))) (fun _ _ => rfl)⟩⟩))) (fun _ _ => rfl)))))))
  refine bk_cons (sk_set c.toCn (ek_mod (ek_mul (ek_sub (ek_mul (ek_ix (ek_n c.toCn .z (ek_int (⟨_, _, _, hy, rfl, (by first | exact i0 | exact i1 | exact i2 | exact i3), ⟨_, rfl, ek_ix (ek_n c.toCn .z (ek_int (⟨_, _, _, hy, rfl, (by first | exact i0 | exact i1 | exact i2 | exact i3), ⟨_, rfl, (by first | exact mulL ⟨by omega, by omega⟩ | exact mulR ⟨by omega, by omega⟩), ⟨_, rfl, ek_mul (ek_ix (ek_n c.toCn .z (ek_int (⟨_, _, _, hy, rfl, (by first | exact i0 | exact i1 | exact i2 | exact i3), ⟨_, rfl, ek_ix (ek_n c.toCn .z (ek_int (⟨_, _, _, hy, rfl, (by first | exact i0 | exact i1 | exact i2 | exact i3), ⟨_, rfl, (by first | exact mulL ⟨by omega, by omega⟩ | exact mulR ⟨by omega, by omega⟩), ⟨_, rfl, ⟨_, rfl, ek_n c.toCn (.s (.s .z)) (⟨_, rfl, (by first | exact mulL ⟨by omega, by omega⟩ | exact mulR ⟨by omega, by omega⟩), ⟨_, rfl, ek_int (⟨_, rfl, (by walk_at "vpos"), ⟨_, (.s (.s (.s (.s .z)))), ?_⟩⟩)⟩⟩)⟩⟩⟩⟩))) (fun _ _ => rfl)⟩⟩))) (fun _ _ => rfl))⟩⟩⟩))) (fun _ _ => rfl)⟩⟩))) (fun _ _ => rfl)))))))
  have es : cc ((v0 * v3 - v1 * v2) * ov % 97) = (fk fs 0 * fk fs 3 - fk fs 1 * fk fs 2) * cc ov := by
    rw [cc_mod, cc_mul, cc_sub, cc_mul, cc_mul, f0, f1, f2, f3]
  have ep : cc ((v1 * v3 - v2 * v2) * ov % 97) = (fk fs 1 * fk fs 3 - fk fs 2 * fk fs 2) * cc ov := by
    rw [cc_mod, cc_mul, cc_sub, cc_mul, cc_mul, f1, f2, f3]
  have bs := okc_mod ((v0 * v3 - v1 * v2) * ov)
  have bp := okc_mod ((v1 * v3 - v2 * v2) * ov)
  generalize (v0 * v3 - v1 * v2) * ov % 97 = s at *
  generalize (v1 * v3 - v2 * v2) * ov % 97 = p at *
  have tells : ∀ i k U V, Two fs i U k V → i < 24 → k < 24 → i ≠ k → U ≠ 0 → V ≠ 0 → i ∈ PL s p ∧ k ∈ PL s p ∧ gon fs s p = true := fun i k U V hO hi hk hik hU hV => by
    obtain ⟨e1, e2, e3⟩ := (two_tells hO hi hk hik hU hV).2 (cc ov) (cc s) (cc p) eo es ep
    refine ⟨pl_mem.mpr ⟨hi, ?_⟩, pl_mem.mpr ⟨hk, ?_⟩, gon_iff.mpr e3⟩
    · rw [e1, e2]
      exact id_rx _ _
    · rw [e1, e2]
      exact id_ry _ _
  have hpw : ∀ i : Nat, 0 ≤ (5 : Int) ^ i % 97 ∧ (5 : Int) ^ i % 97 ≤ 96 := fun i => okc_mod _
  refine bk_cons (sk_setLc [("i", 10)] c.toCn c.calm (by decide +kernel) (ei_p (ei_range1 T.no_range (c.toCn.gl) (ek_gi T.PLACES (c.toCn.gl) (⟨_, rfl, (⟨by decide, by decide⟩), ⟨(List.range 24).map fun (i : Nat) => if decide (((5 : Int) ^ i % 97 * ((5 : Int) ^ i % 97) - s * ((5 : Int) ^ i % 97) + p) % 97 = 0) then some (D.int (0 + (i : Int))) else none, ?_, ?_, ?_, ⟨_, (.s (.s (.s (.s (.s .z))))), ?_⟩⟩⟩)))))
  · rw [List.length_map, List.length_range, rangeD_len]
    rfl
  · rw [rangeD_len]
    decide
  · intro F1 n d e acc Dp hd he
    obtain ⟨hn, rfl⟩ := range_nat hd
    have hn : n < 24 := hn
    have he' := map_at (x := n) (by rw [List.getElem?_range hn]) he
    subst he'
    have hpn := hpw n
    intro X' cb hX'
    obtain ⟨s0, H0, C0, cl, fp, rfl⟩ := hX'
    refine tb_n cb ⟨_, (.s (.s (.s (.s (.s (.s (.s (.s (.s (.s .z)))))))))), rfl, fun X' cb hX' => ?_⟩
    obtain ⟨s0, H0, C0, cl, fp, rfl⟩ := hX'
    refine es_one (et_eqI (ek_mod (ek_add (ek_sub (ek_mul (ek_ix (ek_go T.POWERS cb.gl (ek_b cb (.s (.s (.s (.s (.s (.s (.s (.s (.s (.s .z)))))))))) (⟨_, _, _, .lst, rfl, (at_dIn (pows24 hn)), ⟨_, rfl, ek_ix (ek_go T.POWERS cb.gl (ek_b cb (.s (.s (.s (.s (.s (.s (.s (.s (.s (.s .z)))))))))) (⟨_, _, _, .lst, rfl, (at_dIn (pows24 hn)), ⟨_, rfl, (mulL ⟨by omega, by omega⟩), ⟨_, rfl, ek_mul (ek_b cb (.s (.s (.s .z))) (⟨_, rfl, ek_ix (ek_go T.POWERS cb.gl (ek_b cb (.s (.s (.s (.s (.s (.s (.s (.s (.s (.s .z)))))))))) (⟨_, _, _, .lst, rfl, (at_dIn (pows24 hn)), ⟨_, rfl, (mulL ⟨by omega, by omega⟩), ⟨_, rfl, ⟨_, rfl, ek_b cb (.s (.s (.s (.s .z)))) (⟨_, rfl, ⟨_, rfl, ek_int (⟨_, rfl, (by walk_at "vpos"), ⟨_, rfl, ek_int (⟨_, rfl, ⟨rfl, fun ht X' cb hX' => ?_, fun ht => ?_⟩⟩)⟩⟩)⟩⟩)⟩⟩⟩⟩))) (fun _ _ => rfl)⟩))⟩⟩⟩))) (fun _ _ => rfl)⟩⟩))) (fun _ _ => rfl)))))))
    · obtain ⟨s0, H0, C0, cl, fp, rfl⟩ := hX'
      refine ek_b cb (.s (.s (.s (.s (.s (.s (.s (.s (.s (.s .z)))))))))) (?_)
      exact ⟨rfl, by rw [if_pos ht]⟩
    · rw [if_neg (by rw [ht]; decide)]
  rw [fm_map]
  rw [show (List.range 24).filter (fun i => decide (((5 : Int) ^ i % 97 * (5 ^ i % 97) - s * (5 ^ i % 97) + p) % 97 = 0)) = PL s p from rfl]
  have hbad : ((PL s p).length < 2 ∨ gon fs s p = false) → OneOr fs := fun hb i k hi hk hik U V hU hV hO => by
    obtain ⟨t1, t2, t3⟩ := tells i k U V hO hi hk hik hU hV
    rcases hb with hb | hb
    · match e : PL s p, t1, t2, hb with
      | [], t1, _, _ => cases t1
      | [a], t1, t2, _ =>
        simp only [List.mem_cons, List.not_mem_nil, or_false] at t1 t2
        exact hik (t1.trans t2.symm)
      | _ :: _ :: _, _, _, hb => simp at hb; omega
    · rw [t3] at hb
      cases hb
  have hlm : ((PL s p).map fun (i : Nat) => D.int (0 + (i : Int))).length = (PL s p).length := List.length_map _
  refine bk_cons (sk_if (et_w (ew_or (et_lt (ek_len T.no_len (c.toCn.gl) (ek_n c.toCn (.s (.s (.s (.s (.s .z))))) (⟨_, Or.inl .lst, ⟨_, rfl, ek_int (⟨_, rfl, ⟨rfl, rfl⟩⟩)⟩⟩)))) (fun hb => et_or1 (et_not (et_v (ek_call c.tk G_goes_on (hr.mono (by first | decide | exact Nat.le_refl _)) (ea_cons (ek_n c.toCn .z (ea_cons (ek_n c.toCn (.s (.s (.s .z))) (ea_cons (ek_n c.toCn (.s (.s (.s (.s .z)))) (ea_nil (⟨_, fs, _, _, rfl, hy, h6, bs, bp, ⟨_, rfl, ⟨rfl, rfl⟩⟩⟩)))))))) (c.toCn.gl))))) (⟨fun ht => ?_, fun ht => ?_⟩))))
  · refine bk_one (sk_ret (ek_non (?_)))
    rw [hlm] at ht
    refine h1 none (hbad ?_)
    cases hg : gon fs s p with
    | false => exact .inr rfl
    | true =>
      rw [hg] at ht
      simp at ht
      exact .inl (by omega)
  refine bk_nil ?_
  rw [hlm] at ht
  have hg : gon fs s p = true := by
    cases hg : gon fs s p with
    | false => rw [hg] at ht; simp at ht
    | true => rfl
  have hl2 : 2 ≤ (PL s p).length := by
    rw [hg] at ht
    simp at ht
    omega
  obtain ⟨a, b, rest, hab⟩ : ∃ a b rest, PL s p = a :: b :: rest := by
    match e : PL s p, hl2 with
    | a :: b :: rest, _ => exact ⟨a, b, rest, rfl⟩
  have hma := pl_mem.mp (show a ∈ PL s p by rw [hab]; exact List.mem_cons_self)
  have hmb := pl_mem.mp (show b ∈ PL s p by rw [hab]; exact List.mem_cons_of_mem _ List.mem_cons_self)
  have hne : a ≠ b := fun z => by
    have nd := pl_nd s p
    rw [hab, z] at nd
    exact absurd List.mem_cons_self (List.nodup_cons.mp nd).1
  rw [hab]
  have j0 : atI ((a :: b :: rest).map fun (i : Nat) => D.int (0 + (i : Int))) 0 = some (.int (0 + (a : Int))) := at_nat (by decide) rfl
  have j1 : atI ((a :: b :: rest).map fun (i : Nat) => D.int (0 + (i : Int))) 1 = some (.int (0 + (b : Int))) := at_nat (by decide) rfl
  refine bk_cons (sk_par c (ea_cons (ek_ix (ek_go T.POWERS (c.toCn.gl) (ek_ix (ek_n c.toCn (.s (.s (.s (.s (.s .z))))) (ek_int (⟨_, _, _, .lst, rfl, (by first | exact j0 | exact j1 | exact at_dIn (pows24 hma.1) | exact at_dIn (pows24 hmb.1)), ⟨_, _, _, .lst, rfl, (by first | exact j0 | exact j1 | exact at_dIn (pows24 hma.1) | exact at_dIn (pows24 hmb.1)), ea_cons (ek_ix (ek_go T.POWERS (c.toCn.gl) (ek_ix (ek_n c.toCn (.s (.s (.s (.s (.s .z))))) (ek_int (⟨_, _, _, .lst, rfl, (by first | exact j0 | exact j1 | exact at_dIn (pows24 hma.1) | exact at_dIn (pows24 hmb.1)), ⟨_, _, _, .lst, rfl, (by first | exact j0 | exact j1 | exact at_dIn (pows24 hma.1) | exact at_dIn (pows24 hmb.1)), ea_nil (⟨_, _, rfl, _, (.s (.s (.s (.s (.s (.s .z)))))), ⟨_, (.s (.s (.s (.s (.s (.s (.s .z))))))), ?_⟩⟩)⟩⟩))) (fun _ _ => rfl))) (fun _ _ => rfl))⟩⟩))) (fun _ _ => rfl))) (fun _ _ => rfl))))
  have ba := hpw a
  have bb2 := hpw b
  have ea : cc ((5 : Int) ^ a % 97) = pw a := cc_mod _
  have eb2 : cc ((5 : Int) ^ b % 97) = pw b := cc_mod _
  generalize (5 : Int) ^ a % 97 = A at *
  generalize (5 : Int) ^ b % 97 = B at *
  have hAB : pw a - pw b ≠ 0 := sub_ne fun z => hne (pw_inj hma.1 hmb.1 z)
  have hd1 : cc (A * (A - B) % 97) = pw a * (pw a - pw b) := by rw [cc_mod, cc_mul, cc_sub, ea, eb2]
  have hd1n : cc (A * (A - B) % 97) ≠ 0 := by rw [hd1]; exact mul_ne (pw_ne a) hAB
  have bd1 := okc_mod (A * (A - B))
  have hd10 : A * (A - B) % 97 ≠ 0 := fun z => hd1n (by rw [z]; rfl)
  have hB0 : B ≠ 0 := fun z => pw_ne b (by rw [← eb2, z]; rfl)
  have hBn : cc B ≠ 0 := by rw [eb2]; exact pw_ne b
  refine bk_cons (sk_set c.toCn (ek_mod (ek_mul (ek_sub (ek_ix (ek_n c.toCn .z (ek_int (⟨_, _, _, hy, rfl, (by first | exact i0 | exact i1), ⟨_, rfl, ek_mul (ek_ix (ek_n c.toCn .z (ek_int (⟨_, _, _, hy, rfl, (by first | exact i0 | exact i1), ⟨_, rfl, ek_n c.toCn (.s (.s (.s (.s (.s (.s (.s .z))))))) (⟨_, rfl, (by first | exact mulL ⟨by omega, by omega⟩ | exact mulR ⟨by omega, by omega⟩), ⟨_, rfl, ⟨_, rfl, ek_call c.tk G_inverse (hr.mono (by first | decide | exact Nat.le_refl _)) (ea_cons (ek_mod (ek_mul (ek_n c.toCn (.s (.s (.s (.s (.s (.s .z)))))) (⟨_, rfl, ek_sub (ek_n c.toCn (.s (.s (.s (.s (.s (.s .z)))))) (⟨_, rfl, ek_n c.toCn (.s (.s (.s (.s (.s (.s (.s .z))))))) (⟨_, rfl, ⟨_, rfl, (by first | exact mulL ⟨by omega, by omega⟩ | exact mulR ⟨by omega, by omega⟩), ⟨_, rfl, ek_int (⟨_, rfl, (by walk_at "vpos"), ea_nil (⟨_, rfl, fun _ => ⟨_, rfl, (by first | exact mulL ⟨by omega, by omega⟩ | exact mulR ⟨by omega, by omega⟩), ⟨_, rfl, ek_int (⟨_, rfl, (by walk_at "vpos"), ⟨_, (.s (.s (.s (.s (.s (.s (.s (.s .z)))))))), ?_⟩⟩)⟩⟩, fun z => absurd ⟨⟨by omega, by omega⟩, hd10⟩ z⟩)⟩)⟩⟩⟩)⟩))⟩))))) (c.toCn.gl)⟩⟩⟩)⟩⟩))) (fun _ _ => rfl))⟩⟩))) (fun _ _ => rfl))))))
  have ef : cc ((v1 - v0 * B) * ((A * (A - B) % 97) ^ 95 % 97) % 97) = (fk fs 1 - fk fs 0 * pw b) * cc (ivI (A * (A - B) % 97)) := by
    rw [cc_mod, cc_mul, cc_sub, cc_mul, f0, f1, eb2]
    rfl
  have bf := okc_mod ((v1 - v0 * B) * ((A * (A - B) % 97) ^ 95 % 97))
  have iv1 := iv_cc hd1n
  rw [hd1] at iv1
  generalize ivI (A * (A - B) % 97) = w1 at *
  generalize (v1 - v0 * B) * ((A * (A - B) % 97) ^ 95 % 97) % 97 = F at *
  refine bk_cons (sk_set c.toCn (ek_mod (ek_mul (ek_sub (ek_ix (ek_n c.toCn .z (ek_int (⟨_, _, _, hy, rfl, (by first | exact i0 | exact i1), ⟨_, rfl, ek_mul (ek_n c.toCn (.s (.s (.s (.s (.s (.s (.s (.s .z)))))))) (⟨_, rfl, ek_n c.toCn (.s (.s (.s (.s (.s (.s .z)))))) (⟨_, rfl, (by first | exact mulL ⟨by omega, by omega⟩ | exact mulR ⟨by omega, by omega⟩), ⟨_, rfl, ⟨_, rfl, ek_call c.tk G_inverse (hr.mono (by first | decide | exact Nat.le_refl _)) (ea_cons (ek_n c.toCn (.s (.s (.s (.s (.s (.s (.s .z))))))) (ea_nil (⟨_, rfl, fun _ => ⟨_, rfl, (by first | exact mulL ⟨by omega, by omega⟩ | exact mulR ⟨by omega, by omega⟩), ⟨_, rfl, ek_int (⟨_, rfl, (by walk_at "vpos"), ⟨_, (.s (.s (.s (.s (.s (.s (.s (.s (.s .z))))))))), ?_⟩⟩)⟩⟩, fun z => absurd ⟨⟨by omega, by omega⟩, hB0⟩ z⟩)))) (c.toCn.gl)⟩⟩⟩)⟩))⟩⟩))) (fun _ _ => rfl))))))
  have eg : cc ((v0 - F * A) * (B ^ 95 % 97) % 97) = (fk fs 0 - cc F * pw a) * cc (ivI B) := by
    rw [cc_mod, cc_mul, cc_sub, cc_mul, f0, ea]
    rfl
  have bg := okc_mod ((v0 - F * A) * (B ^ 95 % 97))
  have iv2 := iv_cc hBn
  rw [eb2] at iv2
  generalize (v0 - F * A) * (B ^ 95 % 97) % 97 = S2 at *
  refine bk_one (sk_ret (ek_lst (ea_cons (ek_tup (ea_cons (ek_ix (ek_n c.toCn (.s (.s (.s (.s (.s .z))))) (ek_int (⟨_, _, _, .lst, rfl, (by first | exact j0 | exact j1), ea_cons (ek_n c.toCn (.s (.s (.s (.s (.s (.s (.s (.s .z)))))))) (ea_nil (⟨(by walk_at "vlen"), ea_cons (ek_tup (ea_cons (ek_ix (ek_n c.toCn (.s (.s (.s (.s (.s .z))))) (ek_int (⟨_, _, _, .lst, rfl, (by first | exact j0 | exact j1), ea_cons (ek_n c.toCn (.s (.s (.s (.s (.s (.s (.s (.s (.s .z))))))))) (ea_nil (⟨(by walk_at "vlen"), ea_nil (⟨(by walk_at "vlen"), ?_⟩)⟩)))⟩))) (fun _ _ => rfl))))⟩)))⟩))) (fun _ _ => rfl)))))))
  obtain ⟨k0, k1⟩ := id_f0 (fk fs 0) (fk fs 1) (pw b) (pw a) (cc F) (cc S2) _ _ iv1 iv2 ef eg
  have h2 := h1 (some ((a, F), (b, S2))) ⟨hma.1, hmb.1, hne, bf, bg, two_some k0 k1 hma.2 hmb.2 (gon_iff.mp hg)⟩
  rw [Int.zero_add, Int.zero_add]
  exact h2
end
end K34


set_option Elab.async false
set_option linter.all false
set_option maxRecDepth 100000
set_option maxHeartbeats 4000000
set_option pp.deepTerms.threshold 16
namespace K34
open PySem PySem.Spec PyProof.Rows L2 Vs
local macro_rules | `(tactic| walk_at "vpos") => `(tactic| first | decide | omega)
local macro_rules | `(tactic| walk_at "vdiv") => `(tactic| first | exact ⟨by decide, by decide⟩ | (constructor <;> omega))
local macro_rules | `(tactic| walk_at "vpow") => `(tactic| exact ⟨by decide, by decide, by decide⟩)
local macro_rules | `(tactic| walk_at "vmul") => `(tactic| first | exact mulL ⟨by decide, by decide⟩ | exact mulR ⟨by decide, by decide⟩ | exact mulL (by constructor <;> omega) | exact mulR (by constructor <;> omega))
local macro_rules | `(tactic| walk_at "vlen") => `(tactic| first | exact sz_ok (Nat.le_of_ble_eq_true rfl) | exact sz_lt (Nat.le_of_ble_eq_true rfl) | (refine sz_ok ?_; simp only [List.length_append, List.length_cons, List.length_nil, List.length_map]; omega) | (refine sz_lt ?_; simp only [List.length_append, List.length_cons, List.length_nil, List.length_map]; omega))
local macro_rules | `(tactic| walk_at "vrng") => `(tactic| (refine ⟨?_, ?_⟩ <;> omega))
local macro_rules | `(tactic| walk_at "vix") => `(tactic| rfl)
local macro_rules | `(tactic| walk_at "vixn") => `(tactic| first | rfl | exact ixN_at (by omega) (by omega))
local macro_rules | `(tactic| walk_at "vkb") => `(tactic| decide +kernel)
local macro_rules | `(tactic| walk_at "vty") => `(tactic| first | exact .int | exact .bl | exact .lst | exact .str | exact .tup | exact .non | exact .own .z | exact tyd_as (by assumption))
local macro_rules | `(tactic| walk_at "vkit") => `(tactic| assumption)
local macro_rules | `(tactic| walk_at "vrep") => `(tactic| (refine ⟨by omega, by omega, ?_⟩; first | decide | (refine sz_ok ?_; simp only [List.length_cons, List.length_nil]; omega)))
section
variable {X : Cx} {F0 : Hp}
/-! mended -/
def tsD (ts : List (Nat × Int)) : D := .lst (ts.map fun t => .tup [.int (t.1 : Int), .int t.2])
def mtD : Option (List (Nat × Int)) → D
  | some ts => tsD ts
  | none => .non
def app1 (ys : List Int) (t : Nat × Int) : List Int := ys.set t.1 ((ys.getD t.1 0 - t.2) % 97)
def Tr (fs : List Int) : Option (List (Nat × Int)) → Prop
  | some ts => (∀ t ∈ ts, t.1 < 24) ∧ ∀ xs, okc 24 xs → sumsOf fs xs → Md xs (some (ts.foldl app1 xs))
  | none => OneR fs none ∧ TwoR fs none ∧ ¬ ∀ k, k < 6 → fk fs k = 0
theorem unl_self (xs : List Int) : unl xs xs = [] := by
  unfold unl
  rw [List.filter_eq_nil_iff]
  intro a _
  simp
theorem tr_nil {fs : List Int} (h : ∀ k, k < 6 → fk fs k = 0) : Tr fs (some []) := ⟨fun t ht => (List.not_mem_nil ht).elim, fun xs hx hs => ⟨hx, sld_of hs h, by show (unl xs xs).length ≤ 2; rw [unl_self]; exact Nat.zero_le _⟩⟩
theorem tr_one {fs : List Int} {i : Nat} {v : Int} (h : OneR fs (some (i, v))) : Tr fs (some [(i, v)]) := ⟨fun t ht => by
  rw [List.mem_singleton] at ht
  rw [ht]
  exact h.1, fun xs hx hs => by
  have hi : xs[i]? = some (xs.getD i 0) := by
    have hl : i < xs.length := by have := hx.1; have := h.1; omega
    rw [List.getD_eq_getElem?_getD, List.getElem?_eq_getElem hl]
    rfl
  exact md_one hx hs h.2.2 hi⟩
theorem tr_two {fs : List Int} {i k : Nat} {u v : Int} (h : TwoR fs (some ((i, u), (k, v)))) : Tr fs (some [(i, u), (k, v)]) := ⟨fun t ht => by
  simp only [List.mem_cons, List.not_mem_nil, or_false] at ht
  rcases ht with rfl | rfl
  · exact h.1
  · exact h.2.1, fun xs hx hs => by
  obtain ⟨hi, hk, hik, _, _, ho⟩ := h
  have hl := hx.1
  have g : ∀ n, n < 24 → xs[n]? = some (xs.getD n 0) := fun n hn => by
    rw [List.getD_eq_getElem?_getD, List.getElem?_eq_getElem (by omega)]
    rfl
  have h2 := md_two hx hs ho (g i hi) (g k hk) hik
  have e : (xs.set i ((xs.getD i 0 - u) % 97)).getD k 0 = xs.getD k 0 := by
    rw [List.getD_eq_getElem?_getD, List.getElem?_set, if_neg hik, List.getD_eq_getElem?_getD]
  show Md xs (some (app1 (app1 xs (i, u)) (k, v)))
  unfold app1
  rw [e]
  exact h2⟩
theorem sums_len (xs : List Int) : (sums xs).length = 6 := by unfold sums; rw [List.length_map, List.length_range]
theorem sums_at {xs : List Int} {k : Nat} (hk : k < 6) : (sums xs).getD k 0 = (sv xs (k + 1)).sum % 97 := by
  unfold sums
  rw [List.getD_eq_getElem?_getD, List.getElem?_map, List.getElem?_range hk]
  rfl
theorem sums_fs6 (xs : List Int) : fs6 (sums xs) := ⟨sums_len xs, fun v hv => by
  unfold sums at hv
  obtain ⟨k, _, rfl⟩ := List.mem_map.mp hv
  exact okc_mod _⟩
theorem sums_ok (xs : List Int) : sumsOf (sums xs) xs := fun k hk => by
  unfold fk
  rw [sums_at hk, sv_sum, cc_mod]
theorem sums_zero {fs : List Int} (h : fs6 fs) : fs = [0, 0, 0, 0, 0, 0] ↔ ∀ k, k < 6 → fk fs k = 0 := by
  constructor
  · rintro rfl k hk
    match k, hk with
    | 0, _ | 1, _ | 2, _ | 3, _ | 4, _ | 5, _ => rfl
  · intro hz
    refine List.ext_getElem? fun n => ?_
    by_cases hn : n < 6
    · obtain ⟨v, e, b, f⟩ := fk_lt h hn
      have := hz n hn
      rw [f, cc_0] at this
      have hv : v = 0 := by omega
      rw [e, hv]
      match n, hn with
      | 0, _ | 1, _ | 2, _ | 3, _ | 4, _ | 5, _ => rfl
    · rw [List.getElem?_eq_none (by rw [h.1]; omega), List.getElem?_eq_none (by show 6 ≤ n; omega)]
theorem app_okc {ts : List (Nat × Int)} {xs : List Int} (h : okc 24 xs) : okc 24 (ts.foldl app1 xs) := by
  induction ts generalizing xs with
  | nil => exact h
  | cons t ts ih => exact ih (okc_set h (okc_mod _))
theorem map_at' {α β : Type} {g : α → β} {xs : List α} {n : Nat} {y : β} (h : (xs.map g)[n]? = some y) : ∃ x, xs[n]? = some x ∧ y = g x := by
  rw [List.getElem?_map] at h
  match e : xs[n]?, h with
  | some x, h => exact ⟨x, rfl, (Option.some.inj h).symm⟩
def S_mended (K : PySem.W.Frag) : SpD := fun ds L q e => ∃ cell xs, ds = [cell] ∧ AsL L cell (dI xs) ∧ (okc 24 xs → (Md xs none → q .non L) ∧ ∀ ys p, Md xs (some ys) → q (.ref p) ((p, .lst (dI ys)) :: L)) ∧ (¬ okc 24 xs → e (xcOf K "BadCell") L)
theorem b_mended {ds : List D} {L : Lg} {q : D → Lg → Prop} {e : Xc → Lg → Prop} (c : Cf X (["cell", "found", "turns", "made", "place", "add"] : List Str) ([] : List Str) (defScope (top 36)) F0 (fun y _ L' => e y L')) (T : Tx X.K X.mg) (hr : Room 4 X.A)
    (G_troubles : CalX X 2 "troubles" (["cell"] : List Str) (S_troubles X.K)) (G_one_turned : CalX X 4 "one_turned" (["found"] : List Str) S_one_turned) (G_two_turned : CalX X 4 "two_turned" (["found"] : List Str) S_two_turned)
    (h : S_mended X.K ds L q e) :
    BK X F0 (defBody (top 36)) (ds.map some ++ List.replicate 5 none) L { nx := fun _ L' => q .non L', rt := q } := by
  obtain ⟨cell, xs, rfl, hx, h1, h2⟩ := h
  have hu := hr.units
  have h6 := sums_fs6 xs
  have hso := sums_ok xs
  have hsl := sums_len xs
  refine bk_cons (sk_set c.toCn (ek_call c.tk G_troubles (hr.mono (by first | decide | exact Nat.le_refl _)) (ea_cons (ek_n c.toCn .z (ea_nil (⟨_, xs, rfl, hx, fun hok1 p => ⟨_, (.s .z), ?_⟩, fun hok1 => ?_⟩)))) (c.toCn.gl)))
  case refine_2 => exact h2 (by assumption)
  obtain ⟨h1, h3⟩ := h1 hok1
  generalize sums xs = fs at *
  obtain ⟨a0, a1, a2, a3, a4, a5, hfs, -⟩ := six h6
  have hD : dI fs = dI [a0, a1, a2, a3, a4, a5] := by rw [hfs]
  refine bk_cons (sk_set c.toCn (ek_lst (ea_nil (⟨(by walk_at "vlen"), ⟨_, (.s (.s .z)), ?_⟩⟩))))
  refine bk_cut (fun Γ L' => ∃ t, Γ = [some cell, some (.ref p), some (mtD t), none, none, none] ∧ L' = (p, .lst (dI fs)) :: L ∧ Tr fs t) (sk_if (et_neD hu (ek_n c.toCn (.s .z) (ek_repL (ea_cons (ek_int (ea_nil (⟨(by walk_at "vlen"), ek_len T.no_len (c.toCn.gl) (ek_n c.toCn (.s .z) (⟨_, Or.inl (.own .z), ⟨_, rfl, (⟨by rw [hD]; show (-9223372036854775808 : Int) ≤ 6; decide, by rw [hD]; show (6 : Int) < 9223372036854775808; decide, by rw [hD]; show 1 * 6 ≤ sizeLine; decide⟩), ⟨_, _, (by first | exact .own .z dpds_dI | exact (by rw [hD]; exact .lst (dpds_dI (xs := [0, 0, 0, 0, 0, 0])))), (by first | exact .own .z dpds_dI | exact (by rw [hD]; exact .lst (dpds_dI (xs := [0, 0, 0, 0, 0, 0])))), (shaped_dI), (shaped_dI), ⟨fun ht => ?_, fun ht => ?_⟩⟩⟩⟩))⟩)))))))) (fun Γ L hM => ?_)
  · rw [show PyData.eqv (.list (fs.map PyData.int)) (.list (([0, 0, 0, 0, 0, 0] : List Int).map PyData.int)) = _ from eqv_dI] at ht
    have hnz : fs ≠ [0, 0, 0, 0, 0, 0] := by simpa using ht
    have hnz := (not_congr (sums_zero h6)).mp hnz
    refine bk_cons (sk_set c.toCn (ek_call c.tk G_one_turned (hr.mono (by first | decide | exact Nat.le_refl _)) (ea_cons (ek_n c.toCn (.s .z) (ea_nil (⟨_, fs, rfl, .own .z, h6, fun o ho1 => ⟨_, (.s (.s .z)), ?_⟩⟩)))) (c.toCn.gl)))
    refine bk_one (sk_if (et_isN (ek_n c.toCn (.s (.s .z)) (⟨fun ht => ?_, fun ht => ?_⟩))))
    · have ho : OneR fs none := by
        match o, ht with
        | none, _ => exact ho1
        | some (i, v), ht => cases ht
      refine bk_one (sk_set c.toCn (ek_call c.tk G_two_turned (hr.mono (by first | decide | exact Nat.le_refl _)) (ea_cons (ek_n c.toCn (.s .z) (ea_nil (⟨_, fs, rfl, .own .z, h6, fun o2 ho2 => ⟨_, (.s (.s .z)), ?_⟩⟩)))) (c.toCn.gl)))
      match o2, ho2 with
      | none, ho2 => exact ⟨none, rfl, rfl, ho, ho2, hnz⟩
      | some ((i, u), (k, v)), ho2 => exact ⟨some [(i, u), (k, v)], rfl, rfl, tr_two ho2⟩
    · match o, ho1, ht with
      | some (i, v), ho1, _ => exact bk_nil ⟨some [(i, v)], rfl, rfl, tr_one ho1⟩
      | none, _, ht => cases ht
  · rw [show PyData.eqv (.list (fs.map PyData.int)) (.list (([0, 0, 0, 0, 0, 0] : List Int).map PyData.int)) = _ from eqv_dI] at ht
    have hz : fs = [0, 0, 0, 0, 0, 0] := by simpa using ht
    exact bk_nil ⟨some [], rfl, rfl, tr_nil ((sums_zero h6).mp hz)⟩
  obtain ⟨t, rfl, rfl, htr⟩ := hM
  refine bk_cons (sk_if (et_isN (ek_n c.toCn (.s (.s .z)) (⟨fun ht => ?_, fun ht => ?_⟩))))
  · have htr : Tr fs none := by
      match t, ht with
      | none, _ => exact htr
      | some ts, ht => cases ht
    refine bk_one (sk_retS (ek_non (⟨_, List.sublist_cons_self _ _, ?_⟩)))
    exact h1 (md_none hok1 hso htr.2.2 htr.1 htr.2.1)
  · obtain ⟨ts, rfl⟩ : ∃ ts, t = some ts := by
      match t, ht with
      | some ts, _ => exact ⟨ts, rfl⟩
      | none, ht => cases ht
    refine bk_nil ?_
    refine bk_cons (sk_set c.toCn (ek_listO T.no_list (c.toCn.gl) (ek_n c.toCn .z (⟨_, Or.inl hx.cons, fun p_made => ⟨_, (.s (.s (.s .z))), ?_⟩⟩))))
    refine bk_cons (sk_for c (ei_list (ek_n c.toCn (.s (.s .z)) (⟨_, rfl, ⟨fun i Γ L' => ∃ w1 w2, Γ = [some cell, some (.ref p), some (tsD ts), some (.ref p_made), w1, w2] ∧ L' = (p_made, .lst (dI ((ts.take i).foldl app1 xs))) :: (p, .lst (dI fs)) :: L, ?_, fun F1 c i d Γ L hd hP => ?_, fun Γ L hP => ?_⟩⟩))))
    · exact ⟨_, _, rfl, rfl⟩
    · obtain ⟨w1, w2, rfl, rfl⟩ := hP
      obtain ⟨⟨n, v⟩, hnv, rfl⟩ := map_at' hd
      have hn := htr.1 _ (List.mem_of_getElem? hnv)
      have hz := app_okc (ts := ts.take i) hok1
      have hi : i < ts.length := (List.getElem?_eq_some_iff.mp hnv).1
      have hts : (ts.take (i + 1)).foldl app1 xs = app1 ((ts.take i).foldl app1 xs) (n, v) := by
        rw [List.take_succ, List.foldl_append, hnv]
        rfl
      generalize (ts.take i).foldl app1 xs = zs at *
      have hzl : n < zs.length := by have := hz.1; omega
      have gz : zs[n]? = some (zs.getD n 0) := by
        rw [List.getD_eq_getElem?_getD, List.getElem?_eq_getElem hzl]
        rfl
      refine tg_tup c.calm ⟨_, rfl, rfl, tn_c c.toCn ⟨_, (.s (.s (.s (.s .z)))), tn_c c.toCn ⟨_, (.s (.s (.s (.s (.s .z))))), tn_z (?_)⟩⟩⟩
      refine bk_one (sk_seti (ek_mod (ek_sub (ek_ix (ek_n c.toCn (.s (.s (.s .z))) (ek_n c.toCn (.s (.s (.s (.s .z)))) (⟨_, _, _, (.own .z), rfl, (at_dIk gz), ⟨_, rfl, ek_n c.toCn (.s (.s (.s (.s (.s .z))))) (⟨_, rfl, ⟨_, rfl, ek_int (⟨_, rfl, (by walk_at "vpos"), ek_n c.toCn (.s (.s (.s .z))) (ek_n c.toCn (.s (.s (.s (.s .z)))) (⟨_, _, _, _, _, _, rfl, rfl, .z, (ixN_at (by omega) (by rw [dI_len]; omega)), .z, ?_⟩))⟩)⟩⟩)⟩⟩))) (fun _ _ => rfl)))))
      refine ⟨_, _, rfl, ?_⟩
      rw [hts]
      show (p_made, C.lst ((dI zs).set n (D.int ((zs.getD n 0 - v) % 97)))) :: (p, C.lst (dI fs)) :: L = _
      rw [dI_set]
      rfl
    · obtain ⟨w1, w2, rfl, rfl⟩ := hP
      rw [List.length_map, List.take_length]
      refine bk_one (sk_retS (ek_n c.toCn (.s (.s (.s .z))) (⟨_, .cons₂ _ (List.sublist_cons_self _ _), ?_⟩)))
      exact h3 _ _ (htr.2 xs hok1 hso)
/-- the caller knows the mended one -/
def S_mended1 : SpD := fun ds L q e => ∃ cell xs zs, ds = [cell] ∧ AsL L cell (dI xs) ∧ okc 24 xs ∧ ¬ Md xs none ∧ (∀ ys, Md xs (some ys) → ys = zs) ∧ ∀ p, q (.ref p) ((p, .lst (dI zs)) :: L)
theorem mended1_imp {K : PySem.W.Frag} {ds : List D} {L : Lg} {q : D → Lg → Prop} {e : Xc → Lg → Prop} (h : S_mended1 ds L q e) : S_mended K ds L q e := by
  obtain ⟨x, xs, zs, h1, h2, h3, h4, h5, h6⟩ := h
  exact ⟨x, xs, h1, h2, fun _ => ⟨fun z => absurd z h4, fun ys p z => by rw [h5 ys z]; exact h6 p⟩, fun z => absurd h3 z⟩
/-- there is none -/
def S_mended0 : SpD := fun ds L q e => ∃ cell xs, ds = [cell] ∧ AsL L cell (dI xs) ∧ okc 24 xs ∧ (∀ ys, ¬ Md xs (some ys)) ∧ q .non L
theorem mended0_imp {K : PySem.W.Frag} {ds : List D} {L : Lg} {q : D → Lg → Prop} {e : Xc → Lg → Prop} (h : S_mended0 ds L q e) : S_mended K ds L q e := by
  obtain ⟨x, xs, h1, h2, h3, h5, h6⟩ := h
  exact ⟨x, xs, h1, h2, fun _ => ⟨fun _ => h6, fun ys p z => absurd z (h5 ys)⟩, fun z => absurd h3 z⟩
end
end K34


set_option Elab.async false
set_option linter.all false
set_option maxRecDepth 100000
set_option maxHeartbeats 4000000
set_option pp.deepTerms.threshold 16
namespace K34
open PySem PySem.Spec PyProof.Rows L2 Vs
local macro_rules | `(tactic| walk_at "vpos") => `(tactic| first | decide | omega)
local macro_rules | `(tactic| walk_at "vdiv") => `(tactic| first | exact ⟨by decide, by decide⟩ | (constructor <;> omega))
local macro_rules | `(tactic| walk_at "vpow") => `(tactic| exact ⟨by decide, by decide, by decide⟩)
local macro_rules | `(tactic| walk_at "vmul") => `(tactic| first | exact mulL ⟨by decide, by decide⟩ | exact mulR ⟨by decide, by decide⟩ | exact mulL (by constructor <;> omega) | exact mulR (by constructor <;> omega))
local macro_rules | `(tactic| walk_at "vlen") => `(tactic| first | exact sz_ok (Nat.le_of_ble_eq_true rfl) | exact sz_lt (Nat.le_of_ble_eq_true rfl) | (refine sz_ok ?_; simp only [List.length_append, List.length_cons, List.length_nil, List.length_map]; omega) | (refine sz_lt ?_; simp only [List.length_append, List.length_cons, List.length_nil, List.length_map]; omega))
local macro_rules | `(tactic| walk_at "vrng") => `(tactic| (refine ⟨?_, ?_⟩ <;> omega))
local macro_rules | `(tactic| walk_at "vix") => `(tactic| rfl)
local macro_rules | `(tactic| walk_at "vixn") => `(tactic| first | rfl | exact ixN_at (by omega) (by omega))
local macro_rules | `(tactic| walk_at "vkb") => `(tactic| decide +kernel)
local macro_rules | `(tactic| walk_at "vty") => `(tactic| first | exact .int | exact .bl | exact .lst | exact .str | exact .tup | exact .non | exact .own .z | exact tyd_as (by assumption))
local macro_rules | `(tactic| walk_at "vkit") => `(tactic| assumption)
local macro_rules | `(tactic| walk_at "vrep") => `(tactic| (refine ⟨by omega, by omega, ?_⟩; first | decide | (refine sz_ok ?_; simp only [List.length_cons, List.length_nil]; omega)))
def mt (i j : Nat) : Stmt := match top i with
  | .ClassDef _ _ _ body _ _ _ _ _ _ _ => body.getD j (.Pass ⟨0, 0, 0, 0⟩)
  | _ => .Pass ⟨0, 0, 0, 0⟩
section
variable {X : Cx} {F0 : Hp}
/-! ### an end of a wire: the ledger -/
abbrev lkC (K : PySem.W.Frag) : Addr := He.ga K "LinkEnd"
def prD2 (p : Int × Int) : D := .tup [.int p.1, .int p.2]
def pairD : Option (Int × Int) → D
  | some p => prD2 p
  | none => .non
def evD : Ev → D
  | .anew p => .tup [.str "anew", prD2 p]
  | .up p => .tup [.str "up", prD2 p]
  | .took xs => .tup [.str "took", .lst (dI xs)]
  | .silent p a b => .tup [.str "silent", prD2 p, .int a, .int b]
def evL (es : List Ev) : List D := es.map evD
theorem evL_app {a b : List Ev} : evL (a ++ b) = evL a ++ evL b := List.map_append
theorem evL_len {a : List Ev} : (evL a).length = a.length := List.length_map ..
theorem dII_app {a b : List (List Int)} : dII (a ++ b) = dII a ++ dII b := List.map_append
theorem dII_len {a : List (List Int)} : (dII a).length = a.length := List.length_map ..
def lkF (s : LS) (lp ep : Addr) : List (Str × D) := [("quiet_ticks", .int s.quiet), ("side_number", .int s.side), ("own_birth", .int s.own), ("other_birth", .int s.oth), ("own_pair", pairD s.pair), ("now_tick", .int s.now), ("heard_tick", .int s.heard), ("pieces_left", .ref lp), ("piece_number", .int s.num), ("piece_count", .int s.cnt), ("events_told", .ref ep)]
def lkW (K : PySem.W.Frag) (p lp ep : Addr) (s : LS) (L0 : Lg) : Lg := (ep, C.lst (evL s.evs)) :: (lp, C.lst (dII s.left)) :: (p, C.obj (lkC K) (lkF s lp ep)) :: L0
section
variable {K : PySem.W.Frag} {p lp ep : Addr} {s : LS} {L0 : Lg} {es ls : List D} {fs : List (Str × D)} {ss : List Stmt} {Γ : Gm} {k : Ks}
theorem lk_goal (P : Lg → Prop) (h : P (lkW K p lp ep s L0)) (e1 : evL s.evs = es) (e2 : dII s.left = ls) (e3 : lkF s lp ep = fs) : P ((ep, C.lst es) :: (lp, C.lst ls) :: (p, C.obj (lkC K) fs) :: L0) := by
  subst e1 e2 e3
  exact h
theorem lk_eq (e1 : evL s.evs = es) (e2 : dII s.left = ls) (e3 : lkF s lp ep = fs) : ((ep, C.lst es) :: (lp, C.lst ls) :: (p, C.obj (lkC K) fs) :: L0 : Lg) = lkW K p lp ep s L0 := by
  subst e1 e2 e3
  rfl
theorem lk_bk (s : LS) (e1 : evL s.evs = es) (e2 : dII s.left = ls) (e3 : lkF s lp ep = fs) (h : BK X F0 ss Γ (lkW X.K p lp ep s L0) k) : BK X F0 ss Γ ((ep, C.lst es) :: (lp, C.lst ls) :: (p, C.obj (lkC X.K) fs) :: L0) k := by
  subst e1 e2 e3
  exact h
end
local macro_rules | `(tactic| walk_at "vfl") => `(tactic| exact Nat.le_of_ble_eq_true rfl)
local macro_rules | `(tactic| walk_at "vfld") => `(tactic| rfl)
/-! LinkEnd.end_up -/
def S_end_up (K : PySem.W.Frag) : SpD := fun ds L q _ => ∃ p lp ep s L0, ds = [.ref p] ∧ L = lkW K p lp ep s L0 ∧ ∀ lp', q .non (lkW K p lp' ep (dropUp s) L0)
theorem b_end_up {ds : List D} {L : Lg} {q : D → Lg → Prop} {e : Xc → Lg → Prop} (c : Cf X (["self"] : List Str) ([] : List Str) (defScope (mt 45 4)) F0 (fun y _ L' => e y L')) (T : Tx X.K X.mg) (h : S_end_up X.K ds L q e) :
    BK X F0 (defBody (mt 45 4)) (ds.map some ++ List.replicate 0 none) L { nx := fun _ L' => q .non L', rt := q } := by
  obtain ⟨p, lp, ep, s, L0, rfl, rfl, h1⟩ := h
  refine bk_cons (sk_fld T.cl_LinkEnd T.na_LinkEnd_own_pair (ek_non (ek_n c.toCn .z (⟨_, _, _, _, rfl, (.s (.s .z)), (by walk_at "vfl"), (.s (.s .z)), ?_⟩))))
  refine bk_cons (sk_fld T.cl_LinkEnd T.na_LinkEnd_pieces_left (ek_lstO (ea_nil (⟨(by walk_at "vlen"), fun p_pieces_left => ek_n c.toCn .z (⟨_, _, _, _, rfl, (.s (.s (.s .z))), (by walk_at "vfl"), (.s (.s (.s .z))), ?_⟩)⟩))))
  refine bk_lg subP_new3 (bk_nil ?_)
  exact lk_goal (q .non) (h1 p_pieces_left) rfl rfl rfl
/-! LinkEnd.begin_up -/
def S_begin_up (K : PySem.W.Frag) : SpD := fun ds L q _ => ∃ p lp ep s L0, ds = [.ref p] ∧ L = lkW K p lp ep s L0 ∧ s.evs.length < 900000 ∧ ∀ lp', q .non (lkW K p lp' ep (beginUp s) L0)
theorem b_begin_up {ds : List D} {L : Lg} {q : D → Lg → Prop} {e : Xc → Lg → Prop} (c : Cf X (["self"] : List Str) ([] : List Str) (defScope (mt 45 3)) F0 (fun y _ L' => e y L')) (T : Tx X.K X.mg) (h : S_begin_up X.K ds L q e) :
    BK X F0 (defBody (mt 45 3)) (ds.map some ++ List.replicate 0 none) L { nx := fun _ L' => q .non L', rt := q } := by
  obtain ⟨p, lp, ep, s, L0, rfl, rfl, hz, h1⟩ := h
  refine bk_cons (sk_fld T.cl_LinkEnd T.na_LinkEnd_own_pair (ek_tup (ea_cons (ek_fld T.cl_LinkEnd T.na_LinkEnd_own_birth (ek_n c.toCn .z (⟨_, _, _, _, rfl, (.s (.s .z)), (by walk_at "vfld"), ea_cons (ek_fld T.cl_LinkEnd T.na_LinkEnd_other_birth (ek_n c.toCn .z (⟨_, _, _, _, rfl, (.s (.s .z)), (by walk_at "vfld"), ea_nil (⟨(by walk_at "vlen"), ek_n c.toCn .z (⟨_, _, _, _, rfl, (.s (.s .z)), (by walk_at "vfl"), (.s (.s .z)), ?_⟩)⟩)⟩)))⟩))))))
  refine bk_cut (fun Γ L => Γ = [some (.ref p)] ∧ L = lkW X.K p lp ep { s with pair := some (prS s) } L0) (sk_if (et_eqI (ek_fld T.cl_LinkEnd T.na_LinkEnd_side_number (ek_n c.toCn .z (⟨_, _, _, _, rfl, (.s (.s .z)), (by walk_at "vfld"), ⟨_, rfl, ek_int (⟨_, rfl, ⟨fun ht => ?_, fun ht => ?_⟩⟩)⟩⟩))))) (fun Γ L hM => ?_)
  · refine bk_one (sk_fld T.cl_LinkEnd T.na_LinkEnd_own_pair (ek_tup (ea_cons (ek_fld T.cl_LinkEnd T.na_LinkEnd_other_birth (ek_n c.toCn .z (⟨_, _, _, _, rfl, (.s (.s .z)), (by walk_at "vfld"), ea_cons (ek_fld T.cl_LinkEnd T.na_LinkEnd_own_birth (ek_n c.toCn .z (⟨_, _, _, _, rfl, (.s (.s .z)), (by walk_at "vfld"), ea_nil (⟨(by walk_at "vlen"), ek_n c.toCn .z (⟨_, _, _, _, rfl, (.s (.s .z)), (by walk_at "vfl"), (.s (.s .z)), ?_⟩)⟩)⟩)))⟩))))))
    simp at ht
    refine ⟨rfl, lk_eq rfl rfl ?_⟩
    show lkF _ lp ep = putA _ _ (putA _ _ (lkF s lp ep))
    rw [show prS s = (s.oth, s.own) from if_pos ht]
    rfl
  · refine bk_nil ⟨rfl, lk_eq rfl rfl ?_⟩
    simp at ht
    show lkF _ lp ep = putA _ _ (lkF s lp ep)
    rw [show prS s = (s.own, s.oth) from if_neg ht]
    rfl
  · obtain ⟨rfl, rfl⟩ := hM
    refine bk_cons (sk_fld T.cl_LinkEnd T.na_LinkEnd_pieces_left (ek_lstO (ea_nil (⟨(by walk_at "vlen"), fun p_pieces_left => ek_n c.toCn .z (⟨_, _, _, _, rfl, (.s (.s (.s .z))), (by walk_at "vfl"), (.s (.s (.s .z))), ?_⟩)⟩))))
    refine bk_lg subP_new3 ?_
    refine bk_cons (sk_fld T.cl_LinkEnd T.na_LinkEnd_piece_number (ek_int (ek_n c.toCn .z (⟨_, _, _, _, rfl, (.s (.s .z)), (by walk_at "vfl"), (.s (.s .z)), ?_⟩))))
    refine bk_cons (sk_fld T.cl_LinkEnd T.na_LinkEnd_piece_count (ek_int (ek_n c.toCn .z (⟨_, _, _, _, rfl, (.s (.s .z)), (by walk_at "vfl"), (.s (.s .z)), ?_⟩))))
    refine bk_one (sk_expr (ek_app (ek_fld T.cl_LinkEnd T.na_LinkEnd_events_told (ek_n c.toCn .z (⟨_, _, _, _, rfl, (.s (.s .z)), (by walk_at "vfld"), ⟨_, _, rfl, .own .z, ek_tup (ea_cons (ek_str (ea_cons (ek_fld T.cl_LinkEnd T.na_LinkEnd_own_pair (ek_n c.toCn .z (⟨_, _, _, _, rfl, (.s (.s .z)), (by walk_at "vfld"), ea_nil (⟨(by first | exact sz_ok (Nat.le_of_ble_eq_true rfl) | exact sz_lt (by rw [evL_len]; exact Nat.le_of_lt (Nat.lt_of_lt_of_le hz (by decide)))), ⟨_, _, _, .z, .z, (by first | exact sz_ok (Nat.le_of_ble_eq_true rfl) | exact sz_lt (by rw [evL_len]; exact Nat.le_of_lt (Nat.lt_of_lt_of_le hz (by decide)))), ?_⟩⟩)⟩))))))⟩⟩)))))
    exact lk_goal (q .non) (h1 p_pieces_left) evL_app rfl rfl
end
end K34



set_option Elab.async false
set_option linter.all false
set_option maxRecDepth 100000
set_option maxHeartbeats 4000000
set_option pp.deepTerms.threshold 16
namespace K34
open PySem PySem.Spec PyProof.Rows L2 Vs
local macro_rules | `(tactic| walk_at "vpos") => `(tactic| first | decide | omega)
local macro_rules | `(tactic| walk_at "vdiv") => `(tactic| first | exact ⟨by decide, by decide⟩ | (constructor <;> omega))
local macro_rules | `(tactic| walk_at "vpow") => `(tactic| exact ⟨by decide, by decide, by decide⟩)
local macro_rules | `(tactic| walk_at "vmul") => `(tactic| first | exact mulL ⟨by decide, by decide⟩ | exact mulR ⟨by decide, by decide⟩ | exact mulL (by constructor <;> omega) | exact mulR (by constructor <;> omega))
local macro_rules | `(tactic| walk_at "vlen") => `(tactic| first | exact sz_ok (Nat.le_of_ble_eq_true rfl) | exact sz_lt (Nat.le_of_ble_eq_true rfl) | (refine sz_ok ?_; simp only [List.length_append, List.length_cons, List.length_nil, List.length_map]; omega) | (refine sz_lt ?_; simp only [List.length_append, List.length_cons, List.length_nil, List.length_map]; omega))
local macro_rules | `(tactic| walk_at "vrng") => `(tactic| (refine ⟨?_, ?_⟩ <;> omega))
local macro_rules | `(tactic| walk_at "vix") => `(tactic| rfl)
local macro_rules | `(tactic| walk_at "vixn") => `(tactic| first | rfl | exact ixN_at (by omega) (by omega))
local macro_rules | `(tactic| walk_at "vkb") => `(tactic| decide +kernel)
local macro_rules | `(tactic| walk_at "vty") => `(tactic| first | exact .int | exact .bl | exact .lst | exact .str | exact .tup | exact .non | exact .own .z | exact tyd_as (by assumption))
local macro_rules | `(tactic| walk_at "vkit") => `(tactic| assumption)
local macro_rules | `(tactic| walk_at "vrep") => `(tactic| (refine ⟨by omega, by omega, ?_⟩; first | decide | (refine sz_ok ?_; simp only [List.length_cons, List.length_nil]; omega)))
section
variable {X : Cx} {F0 : Hp}
local macro_rules | `(tactic| walk_at "vfl") => `(tactic| exact Nat.le_of_ble_eq_true rfl)
local macro_rules | `(tactic| walk_at "vfld") => `(tactic| rfl)
/-! LinkEnd.read_piece -/
def S_read_piece (K : PySem.W.Frag) : SpD := fun ds L q _ => ∃ p lp ep s L0 xs, ds = [.ref p, .lst (dI xs)] ∧ L = lkW K p lp ep s L0 ∧ 3 ≤ xs.length ∧ s.evs.length < 900000 ∧ s.left.length < 900000 ∧ q .non (lkW K p lp ep (readPiece s xs) L0)
theorem eqv_nilL {xs : List (List Int)} : PyData.eqv (.list (xs.map pI)) (.list []) = decide (xs = []) := by
  simp only [PyData.eqv]
  exact eqv_iis (ys := [])
theorem b_read_piece {ds : List D} {L : Lg} {q : D → Lg → Prop} {e : Xc → Lg → Prop} (c : Cf X (["self", "signs", "number", "count", "many"] : List Str) ([] : List Str) (defScope (mt 45 5)) F0 (fun y _ L' => e y L')) (T : Tx X.K X.mg) (hr : Room 1 X.A) (h : S_read_piece X.K ds L q e) :
    BK X F0 (defBody (mt 45 5)) (ds.map some ++ List.replicate 3 none) L { nx := fun _ L' => q .non L', rt := q } := by
  obtain ⟨p, lp, ep, s, L0, xs, rfl, rfl, hl, hz, hz2, h1⟩ := h
  have hu := hr.units
  obtain ⟨number, count, many, r, rfl⟩ : ∃ a b c r, xs = a :: b :: c :: r := by
    match xs, hl with
    | a :: b :: c :: r, _ => exact ⟨a, b, c, r, rfl⟩
  refine bk_cons (sk_asg (ek_as (ek_sl (ek_n c.toCn (.s .z) (eo_n (eo_s (ek_int (⟨_, rfl, ⟨_, .lst, D.lst ([.int number, .int count, .int many]), congrArg D.lst (by rw [cut_dI (by decide)]; rfl), tg_lst c.calm ⟨_, rfl, rfl, tn_c c.toCn ⟨_, (.s (.s .z)), tn_c c.toCn ⟨_, (.s (.s (.s .z))), tn_c c.toCn ⟨_, (.s (.s (.s (.s .z)))), tn_z (?_)⟩⟩⟩⟩⟩⟩))))))))
  refine bk_cut (fun Γ L => Γ = [some (.ref p), some (.lst (dI (number :: count :: many :: r))), some (.int number), some (.int count), some (.int many)] ∧ L = lkW X.K p lp ep (readTook s number many r) L0) (sk_if (et_w (ew_and (et_gt (ek_n c.toCn (.s (.s (.s (.s .z)))) (⟨_, rfl, ek_int (⟨_, rfl, ⟨rfl, rfl⟩⟩)⟩))) (fun hb => et_and1 (et_eqI (ek_n c.toCn (.s (.s .z)) (⟨_, rfl, ek_mod (ek_fld T.cl_LinkEnd T.na_LinkEnd_piece_count (ek_n c.toCn .z (⟨_, _, _, _, rfl, (.s (.s .z)), (by walk_at "vfld"), ⟨_, rfl, ek_gi T.ALL_SIGNS (c.toCn.gl) (⟨_, rfl, (by walk_at "vpos"), ⟨_, rfl, ⟨rfl, rfl⟩⟩⟩)⟩⟩)))⟩)))) (⟨fun ht => ?_, fun ht => ?_⟩)))) (fun Γ L hM => ?_)
  · simp only [Bool.and_eq_true, decide_eq_true_eq] at ht
    refine bk_cons (sk_fld T.cl_LinkEnd T.na_LinkEnd_piece_count (ek_add (ek_fld T.cl_LinkEnd T.na_LinkEnd_piece_count (ek_n c.toCn .z (⟨_, _, _, _, rfl, (.s (.s .z)), (by walk_at "vfld"), ⟨_, rfl, ek_int (⟨_, rfl, ek_n c.toCn .z (⟨_, _, _, _, rfl, (.s (.s .z)), (by walk_at "vfl"), (.s (.s .z)), ?_⟩)⟩)⟩⟩)))))
    refine bk_one (sk_expr (ek_app (ek_fld T.cl_LinkEnd T.na_LinkEnd_events_told (ek_n c.toCn .z (⟨_, _, _, _, rfl, (.s (.s .z)), (by walk_at "vfld"), ⟨_, _, rfl, .own .z, ek_tup (ea_cons (ek_str (ea_cons (ek_list T.no_list (c.toCn.gl) (ek_as (ek_sl (ek_n c.toCn (.s .z) (eo_s (ek_int (⟨_, rfl, eo_s (ek_add (ek_int (⟨_, rfl, ek_n c.toCn (.s (.s (.s (.s .z)))) (⟨_, rfl, ⟨_, rfl, ⟨_, .lst, D.lst (dI (r.take many.toNat)), congrArg D.lst (by rw [cut_dI2 (by decide) (by omega)]; congr 1; show List.take _ r = _; congr 1; omega), ⟨_, Or.inl .lst, ea_nil (⟨(by first | exact sz_ok (Nat.le_of_ble_eq_true rfl) | exact sz_lt (by rw [evL_len]; exact Nat.le_of_lt (Nat.lt_of_lt_of_le hz (by decide)))), ⟨_, _, _, .z, .z, (by first | exact sz_ok (Nat.le_of_ble_eq_true rfl) | exact sz_lt (by rw [evL_len]; exact Nat.le_of_lt (Nat.lt_of_lt_of_le hz (by decide)))), ?_⟩⟩)⟩⟩⟩⟩)⟩)))⟩))))))))))⟩⟩)))))
    refine ⟨rfl, lk_eq ?_ ?_ ?_⟩ <;> rw [show readTook s number many r = _ from if_pos ht]
    · exact evL_app
    · rfl
  · refine bk_nil ⟨rfl, ?_⟩
    rw [show readTook s number many r = s from if_neg (fun z => by simp only [Bool.and_eq_false_iff, decide_eq_false_iff_not] at ht; rcases ht with ht | ht; exact ht z.1; exact ht z.2)]
  · obtain ⟨rfl, rfl⟩ := hM
    have hl2 : (readTook s number many r).left = s.left := by unfold readTook; split <;> rfl
    refine bk_one (sk_if (et_w (ew_and (et_neD hu (ek_fld T.cl_LinkEnd T.na_LinkEnd_pieces_left (ek_n c.toCn .z (⟨_, _, _, _, rfl, (.s (.s .z)), (by walk_at "vfld"), ek_lst (ea_nil (⟨(by walk_at "vlen"), ⟨_, _, (by first | exact .own (.s .z) dpds_dII | exact .lst .nil), (by first | exact .own (.s .z) dpds_dII | exact .lst .nil), (by first | exact shp_ok (k := 2) shp_dII (by decide) | exact shp_ok (k := 2) (shp_dII (xss := [])) (by decide)), (by first | exact shp_ok (k := 2) shp_dII (by decide) | exact shp_ok (k := 2) (shp_dII (xss := [])) (by decide)), ⟨rfl, rfl⟩⟩⟩))⟩)))) (fun hb => et_and1 (et_eqI (ek_n c.toCn (.s (.s (.s .z))) (⟨_, rfl, ek_mod (ek_add (ek_fld T.cl_LinkEnd T.na_LinkEnd_piece_number (ek_n c.toCn .z (⟨_, _, _, _, rfl, (.s (.s .z)), (by walk_at "vfld"), ⟨_, rfl, ek_int (⟨_, rfl, ⟨_, rfl, ek_gi T.ALL_SIGNS (c.toCn.gl) (⟨_, rfl, (by walk_at "vpos"), ⟨_, rfl, ⟨rfl, rfl⟩⟩⟩)⟩⟩)⟩⟩))))⟩)))) (⟨fun ht => ?_, fun ht => ?_⟩))))
    · rw [eqv_nilL] at ht
      simp only [Bool.and_eq_true, Bool.not_eq_true', decide_eq_true_eq, decide_eq_false_iff_not] at ht
      have e1 : readKnown (readTook s number many r) count = { (readTook s number many r) with num := (readTook s number many r).num + 1, left := (readTook s number many r).left.tail } := if_pos ht
      obtain ⟨y, ys, hy⟩ : ∃ y ys, (readTook s number many r).left = y :: ys := by
        cases hc : (readTook s number many r).left with
        | nil => exact absurd hc ht.1
        | cons y ys => exact ⟨y, ys, rfl⟩
      refine bk_cons (sk_fld T.cl_LinkEnd T.na_LinkEnd_piece_number (ek_add (ek_fld T.cl_LinkEnd T.na_LinkEnd_piece_number (ek_n c.toCn .z (⟨_, _, _, _, rfl, (.s (.s .z)), (by walk_at "vfld"), ⟨_, rfl, ek_int (⟨_, rfl, ek_n c.toCn .z (⟨_, _, _, _, rfl, (.s (.s .z)), (by walk_at "vfl"), (.s (.s .z)), ?_⟩)⟩)⟩⟩)))))
      refine lk_bk { (readTook s number many r) with num := (readTook s number many r).num + 1 } rfl rfl rfl ?_
      refine bk_one (sk_expr (ek_popAt (ek_fld T.cl_LinkEnd T.na_LinkEnd_pieces_left (ek_n c.toCn .z (⟨_, _, _, _, rfl, (.s (.s .z)), (by walk_at "vfld"), ⟨_, _, rfl, .own (.s .z), ek_int (⟨_, _, _, _, _, _, rfl, (.s .z), (by show ixN (dII (readTook s number many r).left).length 0 = some 0; rw [hy]; exact ixN_at (i := 0) (by decide) (by rw [dII_len, List.length_cons]; omega)), (by show (dII (readTook s number many r).left)[0]? = _; rw [hy]; rfl), (by show (dII (readTook s number many r).left).length ≤ 1000000; rw [dII_len, hl2]; omega), (.s .z), ?_⟩)⟩⟩)))))
      refine lk_goal (q .non) h1 ?_ ?_ ?_ <;> rw [show readPiece s (number :: count :: many :: r) = _ from e1]
      · show dII (readTook s number many r).left.tail = (dII (readTook s number many r).left).eraseIdx 0
        rw [hy]
        rfl
      · rfl
    · refine bk_nil ?_
      rw [eqv_nilL] at ht
      rw [show readPiece s (number :: count :: many :: r) = readTook s number many r from if_neg (fun z => by
        simp only [Bool.and_eq_false_iff, Bool.not_eq_false', decide_eq_true_eq, decide_eq_false_iff_not] at ht
        rcases ht with ht | ht
        · exact z.1 ht
        · exact ht z.2)] at h1
      exact h1
/-! LinkEnd.fall_silent -/
def S_fall_silent (K : PySem.W.Frag) : SpD := fun ds L q _ => ∃ p lp ep s L0, ds = [.ref p] ∧ L = lkW K p lp ep s L0 ∧ s.evs.length < 900000 ∧ ∀ lp', q .non (lkW K p lp' ep (fallSilent s) L0)
theorem b_fall_silent {ds : List D} {L : Lg} {q : D → Lg → Prop} {e : Xc → Lg → Prop} (c : Cf X (["self"] : List Str) ([] : List Str) (defScope (mt 45 6)) F0 (fun y _ L' => e y L')) (T : Tx X.K X.mg) (hr : Room 1 X.A)
    (G_LinkEnd_end_up : MetX X 1 (He.ga X.K "LinkEnd") "end_up" (["self"] : List Str) (S_end_up X.K)) (h : S_fall_silent X.K ds L q e) :
    BK X F0 (defBody (mt 45 6)) (ds.map some ++ List.replicate 0 none) L { nx := fun _ L' => q .non L', rt := q } := by
  obtain ⟨p, lp, ep, s, L0, rfl, rfl, hz, h1⟩ := h
  refine bk_cut (fun Γ L => ∃ lp', Γ = [some (.ref p)] ∧ L = lkW X.K p lp' ep (toldSilent s) L0) (sk_if (et_notN (ek_fld T.cl_LinkEnd T.na_LinkEnd_own_pair (ek_n c.toCn .z (⟨_, _, _, _, rfl, (.s (.s .z)), (by walk_at "vfld"), ⟨fun ht => ?_, fun ht => ?_⟩⟩))))) (fun Γ L hM => ?_)
  · cases hp : s.pair with
    | none => rw [hp] at ht; cases ht
    | some pr =>
      refine bk_cons (sk_expr (ek_app (ek_fld T.cl_LinkEnd T.na_LinkEnd_events_told (ek_n c.toCn .z (⟨_, _, _, _, rfl, (.s (.s .z)), (by walk_at "vfld"), ⟨_, _, rfl, .own .z, ek_tup (ea_cons (ek_str (ea_cons (ek_fld T.cl_LinkEnd T.na_LinkEnd_own_pair (ek_n c.toCn .z (⟨_, _, _, _, rfl, (.s (.s .z)), (by walk_at "vfld"), ea_cons (ek_add (ek_fld T.cl_LinkEnd T.na_LinkEnd_heard_tick (ek_n c.toCn .z (⟨_, _, _, _, rfl, (.s (.s .z)), (by walk_at "vfld"), ⟨_, rfl, ek_int (⟨_, rfl, ea_cons (ek_fld T.cl_LinkEnd T.na_LinkEnd_now_tick (ek_n c.toCn .z (⟨_, _, _, _, rfl, (.s (.s .z)), (by walk_at "vfld"), ea_nil (⟨(by first | exact sz_ok (Nat.le_of_ble_eq_true rfl) | exact sz_lt (by rw [evL_len]; exact Nat.le_of_lt (Nat.lt_of_lt_of_le hz (by decide)))), ⟨_, _, _, .z, .z, (by first | exact sz_ok (Nat.le_of_ble_eq_true rfl) | exact sz_lt (by rw [evL_len]; exact Nat.le_of_lt (Nat.lt_of_lt_of_le hz (by decide)))), ?_⟩⟩)⟩)))⟩)⟩⟩))))⟩))))))⟩⟩)))))
      refine lk_bk { s with evs := s.evs ++ [.silent pr (s.heard + 1) s.now] } ?_ rfl rfl ?_
      · show evL (s.evs ++ _) = _
        rw [evL_app, hp]
        rfl
      refine bk_one (sk_expr (ek_meth0 c.tk G_LinkEnd_end_up (hr.mono (by first | decide | exact Nat.le_refl _)) (ek_n c.toCn .z (⟨_, _, _, rfl, (.s (.s .z)), rfl, ⟨p, lp, ep, _, L0, rfl, rfl, fun lp' => ?_⟩⟩))))
      refine ⟨lp', rfl, ?_⟩
      rw [show toldSilent s = dropUp { s with evs := s.evs ++ [.silent pr (s.heard + 1) s.now] } by unfold toldSilent; rw [hp]]
  · refine bk_nil ⟨lp, rfl, ?_⟩
    cases hp : s.pair with
    | none => rw [show toldSilent s = s by unfold toldSilent; rw [hp]]
    | some pr => rw [hp] at ht; cases ht
  · obtain ⟨lp', rfl, rfl⟩ := hM
    refine bk_cons (sk_fld T.cl_LinkEnd T.na_LinkEnd_own_birth (ek_add (ek_fld T.cl_LinkEnd T.na_LinkEnd_own_birth (ek_n c.toCn .z (⟨_, _, _, _, rfl, (.s (.s .z)), (by walk_at "vfld"), ⟨_, rfl, ek_int (⟨_, rfl, ek_n c.toCn .z (⟨_, _, _, _, rfl, (.s (.s .z)), (by walk_at "vfl"), (.s (.s .z)), ?_⟩)⟩)⟩⟩)))))
    refine bk_one (sk_fld T.cl_LinkEnd T.na_LinkEnd_other_birth (ek_int (ek_n c.toCn .z (⟨_, _, _, _, rfl, (.s (.s .z)), (by walk_at "vfl"), (.s (.s .z)), ?_⟩))))
    exact lk_goal (q .non) (h1 lp') rfl rfl rfl
/-! LinkEnd.up -/
def S_up (K : PySem.W.Frag) : SpD := fun ds L q _ => ∃ p lp ep s L0, ds = [.ref p] ∧ L = lkW K p lp ep s L0 ∧ q (pairD s.pair) L
theorem b_up {ds : List D} {L : Lg} {q : D → Lg → Prop} {e : Xc → Lg → Prop} (c : Cf X (["self"] : List Str) ([] : List Str) (defScope (mt 45 9)) F0 (fun y _ L' => e y L')) (T : Tx X.K X.mg) (h : S_up X.K ds L q e) :
    BK X F0 (defBody (mt 45 9)) (ds.map some ++ List.replicate 0 none) L { nx := fun _ L' => q .non L', rt := q } := by
  obtain ⟨p, lp, ep, s, L0, rfl, rfl, h1⟩ := h
  refine bk_one (sk_ret (ek_fld T.cl_LinkEnd T.na_LinkEnd_own_pair (ek_n c.toCn .z (⟨_, _, _, _, rfl, (.s (.s .z)), (by walk_at "vfld"), ?_⟩))))
  exact h1
/-! LinkEnd.events -/
def S_events (K : PySem.W.Frag) : SpD := fun ds L q _ => ∃ p lp ep s L0, ds = [.ref p] ∧ L = lkW K p lp ep s L0 ∧ ∀ ep', q (.lst (evL s.evs)) (lkW K p lp ep' { s with evs := [] } L0)
theorem b_events {ds : List D} {L : Lg} {q : D → Lg → Prop} {e : Xc → Lg → Prop} (c : Cf X (["self", "found"] : List Str) ([] : List Str) (defScope (mt 45 11)) F0 (fun y _ L' => e y L')) (T : Tx X.K X.mg) (h : S_events X.K ds L q e) :
    BK X F0 (defBody (mt 45 11)) (ds.map some ++ List.replicate 1 none) L { nx := fun _ L' => q .non L', rt := q } := by
  obtain ⟨p, lp, ep, s, L0, rfl, rfl, h1⟩ := h
  refine bk_cons (sk_set c.toCn (ek_fld T.cl_LinkEnd T.na_LinkEnd_events_told (ek_n c.toCn .z (⟨_, _, _, _, rfl, (.s (.s .z)), (by walk_at "vfld"), ⟨_, (.s .z), ?_⟩⟩))))
  refine bk_cons (sk_fld T.cl_LinkEnd T.na_LinkEnd_events_told (ek_lstO (ea_nil (⟨(by walk_at "vlen"), fun p_events_told => ek_n c.toCn .z (⟨_, _, _, _, rfl, (.s (.s (.s .z))), (by walk_at "vfl"), (.s (.s (.s .z))), ?_⟩)⟩))))
  refine bk_one (sk_ret (ek_frzO (ek_n c.toCn (.s .z) (?_))))
  exact .inl ⟨ep, evL s.evs, 1, _, _, rfl, .s .z, .refl, lk_goal (q (.lst (evL s.evs))) (h1 p_events_told) rfl rfl rfl⟩
end
end K34



set_option Elab.async false
set_option linter.all false
set_option maxRecDepth 100000
set_option maxHeartbeats 4000000
set_option pp.deepTerms.threshold 16
namespace K34
open PySem PySem.Spec PyProof.Rows L2 Vs
local macro_rules | `(tactic| walk_at "vpos") => `(tactic| first | decide | omega)
local macro_rules | `(tactic| walk_at "vdiv") => `(tactic| first | exact ⟨by decide, by decide⟩ | (constructor <;> omega))
local macro_rules | `(tactic| walk_at "vpow") => `(tactic| exact ⟨by decide, by decide, by decide⟩)
local macro_rules | `(tactic| walk_at "vmul") => `(tactic| first | exact mulL ⟨by decide, by decide⟩ | exact mulR ⟨by decide, by decide⟩ | exact mulL (by constructor <;> omega) | exact mulR (by constructor <;> omega))
local macro_rules | `(tactic| walk_at "vlen") => `(tactic| first | exact sz_ok (Nat.le_of_ble_eq_true rfl) | exact sz_lt (Nat.le_of_ble_eq_true rfl) | (refine sz_ok ?_; simp only [List.length_append, List.length_cons, List.length_nil, List.length_map]; omega) | (refine sz_lt ?_; simp only [List.length_append, List.length_cons, List.length_nil, List.length_map]; omega))
local macro_rules | `(tactic| walk_at "vrng") => `(tactic| (refine ⟨?_, ?_⟩ <;> omega))
local macro_rules | `(tactic| walk_at "vix") => `(tactic| rfl)
local macro_rules | `(tactic| walk_at "vixn") => `(tactic| first | rfl | exact ixN_at (by omega) (by omega))
local macro_rules | `(tactic| walk_at "vkb") => `(tactic| decide +kernel)
local macro_rules | `(tactic| walk_at "vty") => `(tactic| first | exact .int | exact .bl | exact .lst | exact .str | exact .tup | exact .non | exact .own .z | exact tyd_as (by assumption))
local macro_rules | `(tactic| walk_at "vkit") => `(tactic| assumption)
local macro_rules | `(tactic| walk_at "vrep") => `(tactic| (refine ⟨by omega, by omega, ?_⟩; first | decide | (refine sz_ok ?_; simp only [List.length_cons, List.length_nil]; omega)))
section
variable {X : Cx} {F0 : Hp}
local macro_rules | `(tactic| walk_at "vfl") => `(tactic| exact Nat.le_of_ble_eq_true rfl)
local macro_rules | `(tactic| walk_at "vfld") => `(tactic| rfl)
/-! LinkEnd.signs_now -/
def S_signs_now (K : PySem.W.Frag) : SpD := fun ds L q _ => ∃ p lp ep s L0, ds = [.ref p] ∧ L = lkW K p lp ep s L0 ∧ LOk s ∧ q (.lst (dI (signsNow s))) L
theorem tp2 {n : Int} (h : 0 ≤ n ∧ n < 9409) : tp 2 n = 0 := (tp_zero 2 n).mpr h
theorem b_signs_now {ds : List D} {L : Lg} {q : D → Lg → Prop} {e : Xc → Lg → Prop} (c : Cf X (["self", "signs", "piece", "number", "count"] : List Str) ([] : List Str) (defScope (mt 45 7)) F0 (fun y _ L' => e y L')) (T : Tx X.K X.mg) (hr : Room 1 X.A)
    (G_number_signs : CalX X 1 "number_signs" (["number", "many"] : List Str) (S_number_signs X.K)) (h : S_signs_now X.K ds L q e) :
    BK X F0 (defBody (mt 45 7)) (ds.map some ++ List.replicate 4 none) L { nx := fun _ L' => q .non L', rt := q } := by
  obtain ⟨p, lp, ep, s, L0, rfl, rfl, hok, h1⟩ := h
  have hu := hr.units
  have hpk := ownP_ok hok
  refine bk_cons (sk_set c.toCn (ek_cat (ek_frz (ek_call c.tk G_number_signs (hr.mono (by first | decide | exact Nat.le_refl _)) (ea_cons (ek_fld T.cl_LinkEnd T.na_LinkEnd_own_birth (ek_n c.toCn .z (⟨_, _, _, _, rfl, (.s (.s .z)), (by walk_at "vfld"), ea_cons (ek_gi T.BIRTH_SIGNS (c.toCn.gl) (ea_nil (⟨_, 2, rfl, by decide, fun htp2 pn2 => ⟨_, _, _, _, rfl, .z, ek_frz (ek_call c.tk G_number_signs (hr.mono (by first | decide | exact Nat.le_refl _)) (ea_cons (ek_fld T.cl_LinkEnd T.na_LinkEnd_other_birth (ek_n c.toCn .z (⟨_, _, _, _, rfl, (.s (.s .z)), (by walk_at "vfld"), ea_cons (ek_gi T.BIRTH_SIGNS (c.toCn.gl) (ea_nil (⟨_, 2, rfl, by decide, fun htp1 pn1 => ⟨_, _, _, _, rfl, .z, ⟨_, _, .lst, .lst, (sz_ok (by rw [dI_len, dI_len, List.length_reverse, List.length_reverse, dg_len, dg_len]; decide)), ⟨_, (.s .z), ?_⟩⟩⟩, fun htp1 => ?_⟩)))⟩)))) (c.toCn.gl))⟩, fun htp2 => ?_⟩)))⟩)))) (c.toCn.gl)))))
  case refine_2 => exact absurd (tp2 hok.oth) htp1
  case refine_3 => exact absurd (tp2 hok.own) htp2
  refine bk_cons (sk_set c.toCn (ek_lst (ea_nil (⟨(by walk_at "vlen"), ⟨_, (.s (.s .z)), ?_⟩⟩))))
  refine bk_cons (sk_set c.toCn (ek_int (⟨_, (.s (.s (.s .z))), ?_⟩)))
  refine bk_cons (sk_set c.toCn (ek_int (⟨_, (.s (.s (.s (.s .z)))), ?_⟩)))
  refine bk_cut (fun Γ L => Γ = [some (.ref p), some (.lst (dI (dg 2 s.own).reverse ++ dI (dg 2 s.oth).reverse)), some (.lst (dII (ownP s))), some (.int (ownN s)), some (.int (ownC s))] ∧ L = lkW X.K p lp ep s L0) (sk_if (et_notN (ek_fld T.cl_LinkEnd T.na_LinkEnd_own_pair (ek_n c.toCn .z (⟨_, _, _, _, rfl, (.s (.s .z)), (by walk_at "vfld"), ⟨fun ht => ?_, fun ht => ?_⟩⟩))))) (fun Γ L hM => ?_)
  · cases hp : s.pair with
    | none => rw [hp] at ht; cases ht
    | some pr =>
      refine bk_cons (sk_set c.toCn (ek_mod (ek_fld T.cl_LinkEnd T.na_LinkEnd_piece_number (ek_n c.toCn .z (⟨_, _, _, _, rfl, (.s (.s .z)), (by walk_at "vfld"), ⟨_, rfl, ek_gi T.ALL_SIGNS (c.toCn.gl) (⟨_, rfl, (by walk_at "vpos"), ⟨_, (.s (.s (.s .z))), ?_⟩⟩)⟩⟩)))))
      refine bk_cons (sk_set c.toCn (ek_mod (ek_fld T.cl_LinkEnd T.na_LinkEnd_piece_count (ek_n c.toCn .z (⟨_, _, _, _, rfl, (.s (.s .z)), (by walk_at "vfld"), ⟨_, rfl, ek_gi T.ALL_SIGNS (c.toCn.gl) (⟨_, rfl, (by walk_at "vpos"), ⟨_, (.s (.s (.s (.s .z)))), ?_⟩⟩)⟩⟩)))))
      refine bk_one (sk_set c.toCn (ek_as (ek_sl (ek_fld T.cl_LinkEnd T.na_LinkEnd_pieces_left (ek_n c.toCn .z (⟨_, _, _, _, rfl, (.s (.s .z)), (by walk_at "vfld"), eo_n (eo_s (ek_int (⟨_, rfl, ⟨_, (.own (.s .z)), D.lst (dII (s.left.take 1)), congrArg D.lst (by rw [cut_to (by decide)]; exact List.map_take.symm), ⟨_, (.s (.s .z)), ?_⟩⟩⟩)))⟩))))))
      unfold ownP ownN ownC
      rw [hp]
      exact ⟨rfl, rfl⟩
  · cases hp : s.pair with
    | some pr => rw [hp] at ht; cases ht
    | none =>
      refine bk_nil ?_
      unfold ownP ownN ownC
      rw [hp]
      exact ⟨rfl, rfl⟩
  · obtain ⟨rfl, rfl⟩ := hM
    refine bk_cut (fun Γ L => Γ = [some (.ref p), some (.lst (dI (dg 2 s.own).reverse ++ dI (dg 2 s.oth).reverse)), some (.lst (dI ((ownP s).headD []))), some (.int (ownN s)), some (.int (ownC s))] ∧ L = lkW X.K p lp ep s L0) (sk_if (et_neD hu (ek_n c.toCn (.s (.s .z)) (ek_lst (ea_nil (⟨(by walk_at "vlen"), ⟨_, _, (by first | exact .lst dpds_dII | exact .lst .nil), (by first | exact .lst dpds_dII | exact .lst .nil), (by first | exact shp_ok (k := 2) shp_dII (by decide) | exact shp_ok (k := 2) (shp_dII (xss := [])) (by decide)), (by first | exact shp_ok (k := 2) shp_dII (by decide) | exact shp_ok (k := 2) (shp_dII (xss := [])) (by decide)), ⟨fun ht => ?_, fun ht => ?_⟩⟩⟩)))))) (fun Γ L hM => ?_)
    · rw [eqv_nilL] at ht
      simp only [Bool.not_eq_true', decide_eq_false_iff_not] at ht
      cases hP : ownP s with
      | nil => exact absurd hP ht
      | cons x xs =>
        refine bk_one (sk_set c.toCn (ek_ix (ek_n c.toCn (.s (.s .z)) (ek_int (⟨_, _, _, .lst, rfl, (at_nat (by decide) (by rfl)), ⟨_, (.s (.s .z)), ?_⟩⟩))) (fun _ _ => rfl)))
        exact ⟨rfl, rfl⟩
    · rw [eqv_nilL] at ht
      simp only [Bool.not_eq_false', decide_eq_true_eq] at ht
      rw [ht]
      exact bk_nil ⟨rfl, rfl⟩
    · obtain ⟨rfl, rfl⟩ := hM
      refine bk_one (sk_ret (ek_cat (ek_cat (ek_cat (ek_n c.toCn (.s .z) (ek_lst (ea_cons (ek_n c.toCn (.s (.s (.s .z))) (ea_cons (ek_n c.toCn (.s (.s (.s (.s .z)))) (ea_cons (ek_len T.no_len (c.toCn.gl) (ek_n c.toCn (.s (.s .z)) (⟨_, Or.inl .lst, ea_nil (⟨(by first | exact sz_ok (Nat.le_of_ble_eq_true rfl) | exact sz_lt (Nat.le_of_ble_eq_true rfl) | (refine sz_ok ?_; simp only [List.flatten_replicate_singleton, List.length_append, dI_len, List.length_reverse, dg_len, List.length_cons, List.length_nil, List.length_replicate]; have := hpk.1; omega)), ⟨_, _, .lst, .lst, (by first | exact sz_ok (Nat.le_of_ble_eq_true rfl) | exact sz_lt (Nat.le_of_ble_eq_true rfl) | (refine sz_ok ?_; simp only [List.flatten_replicate_singleton, List.length_append, dI_len, List.length_reverse, dg_len, List.length_cons, List.length_nil, List.length_replicate]; have := hpk.1; omega)), ek_n c.toCn (.s (.s .z)) (⟨_, _, .lst, .lst, (by first | exact sz_ok (Nat.le_of_ble_eq_true rfl) | exact sz_lt (Nat.le_of_ble_eq_true rfl) | (refine sz_ok ?_; simp only [List.flatten_replicate_singleton, List.length_append, dI_len, List.length_reverse, dg_len, List.length_cons, List.length_nil, List.length_replicate]; have := hpk.1; omega)), ek_repL (ea_cons (ek_int (ea_nil (⟨(by first | exact sz_ok (Nat.le_of_ble_eq_true rfl) | exact sz_lt (Nat.le_of_ble_eq_true rfl) | (refine sz_ok ?_; simp only [List.flatten_replicate_singleton, List.length_append, dI_len, List.length_reverse, dg_len, List.length_cons, List.length_nil, List.length_replicate]; have := hpk.1; omega)), ek_sub (ek_add (ek_gi T.MOST_SIGNS (c.toCn.gl) (⟨_, rfl, ek_int (⟨_, rfl, ⟨_, rfl, ek_len T.no_len (c.toCn.gl) (ek_n c.toCn (.s (.s .z)) (⟨_, Or.inl .lst, ⟨_, rfl, ⟨_, rfl, (⟨by rw [dI_len]; have := hpk.1; omega, by rw [dI_len]; have := hpk.1; omega, by first | decide | (refine sz_ok ?_; simp only [List.length_cons, List.length_nil, dI_len]; omega)⟩), ⟨_, _, .lst, .lst, (by first | exact sz_ok (Nat.le_of_ble_eq_true rfl) | exact sz_lt (Nat.le_of_ble_eq_true rfl) | (refine sz_ok ?_; simp only [List.flatten_replicate_singleton, List.length_append, dI_len, List.length_reverse, dg_len, List.length_cons, List.length_nil, List.length_replicate]; have := hpk.1; omega)), ?_⟩⟩⟩⟩))⟩⟩)⟩)))⟩))))⟩)⟩⟩)⟩))))))))))))))
      have e1 : dI (signsNow s) = dI (dg 2 s.own).reverse ++ dI (dg 2 s.oth).reverse ++ [D.int (ownN s), .int (ownC s), .int (((dI ((ownP s).headD [])).length : Nat) : Int)] ++ dI ((ownP s).headD []) ++ List.replicate (11 - ((ownP s).headD []).length) (D.int 0) := by
        unfold signsNow
        simp only [dI, List.map_append, List.map_cons, List.map_nil, List.map_replicate, List.length_map]
      rw [e1] at h1
      refine cast (congrArg (fun z => q (D.lst z) _) ?_) h1
      rw [List.flatten_replicate_singleton, show (10 + 1 - (((dI ((ownP s).headD [])).length : Nat) : Int)).toNat = 11 - ((ownP s).headD []).length by rw [dI_len]; omega]
/-! LinkEnd.read_births -/
def S_read_births (K : PySem.W.Frag) : SpD := fun ds L q _ => ∃ p lp ep s L0 xs, ds = [.ref p, .lst (dI xs)] ∧ L = lkW K p lp ep s L0 ∧ okc 24 xs ∧ LOk s ∧ s.evs.length < 899990 ∧ s.left.length < 899990 ∧ ∀ lp', q .non (lkW K p lp' ep (readBirths s xs) L0)
theorem b_read_births {ds : List D} {L : Lg} {q : D → Lg → Prop} {e : Xc → Lg → Prop} (c : Cf X (["self", "cell", "birth"] : List Str) ([] : List Str) (defScope (mt 45 2)) F0 (fun y _ L' => e y L')) (T : Tx X.K X.mg) (hr : Room 2 X.A)
    (G_signs_number : CalX X 2 "signs_number" (["signs"] : List Str) (S_signs_number X.K))
    (G_LinkEnd_end_up : MetX X 1 (He.ga X.K "LinkEnd") "end_up" (["self"] : List Str) (S_end_up X.K)) (G_LinkEnd_begin_up : MetX X 1 (He.ga X.K "LinkEnd") "begin_up" (["self"] : List Str) (S_begin_up X.K)) (G_LinkEnd_read_piece : MetX X 2 (He.ga X.K "LinkEnd") "read_piece" (["self", "signs"] : List Str) (S_read_piece X.K)) (h : S_read_births X.K ds L q e) :
    BK X F0 (defBody (mt 45 2)) (ds.map some ++ List.replicate 1 none) L { nx := fun _ L' => q .non L', rt := q } := by
  obtain ⟨p, lp, ep, s, L0, xs, rfl, rfl, hx, hok, hz, hzl, h1⟩ := h
  have hl24 : xs.length = 24 := by have := hx.1; omega
  have hdg : ∀ {ys : List Int}, (∀ v ∈ ys, v ∈ xs) → dgs ys := fun hy v hv => by
    have := hx.2 v (hy v hv)
    omega
  refine bk_cons (sk_set c.toCn (ek_call c.tk G_signs_number (hr.mono (by first | decide | exact Nat.le_refl _)) (ea_cons (ek_as (ek_sl (ek_n c.toCn (.s .z) (eo_n (eo_s (ek_gi T.BIRTH_SIGNS (c.toCn.gl) (⟨_, rfl, ⟨_, .lst, D.lst (dI (xs.take 2)), congrArg D.lst (cut_dI (by decide)), ea_nil (⟨_, rfl, fun hd1 => ⟨_, (.s (.s .z)), ?_⟩, fun hd1 => ?_⟩)⟩⟩)))))))) (c.toCn.gl)))
  case refine_2 => exact absurd (hdg fun v hv => List.mem_of_mem_take hv) hd1
  refine bk_cons (sk_if (et_lt (ek_n c.toCn (.s (.s .z)) (⟨_, rfl, ek_fld T.cl_LinkEnd T.na_LinkEnd_other_birth (ek_n c.toCn .z (⟨_, _, _, _, rfl, (.s (.s .z)), (by walk_at "vfld"), ⟨_, rfl, ⟨fun ht => ?_, fun ht => ?_⟩⟩⟩))⟩))))
  · refine bk_one (sk_retN ?_)
    simp only [decide_eq_true_eq] at ht
    have h2 := h1 lp
    rw [show readBirths s xs = s from if_pos ht] at h2
    exact h2
  · refine bk_nil ?_
    simp only [decide_eq_false_iff_not] at ht
    have e0 : readBirths s xs = _ := if_neg ht
    obtain ⟨b, hb⟩ : ∃ b, b = val (xs.take 2) := ⟨_, rfl⟩
    rw [← hb] at e0 ht ⊢
    have hlt := ht
    clear ht
    refine bk_cut (fun Γ L => ∃ lp1, Γ = [some (.ref p), some (.lst (dI xs)), some (.int b)] ∧ L = lkW X.K p lp1 ep (anewIf s b) L0) (sk_if (et_w (ew_and (et_gt (ek_n c.toCn (.s (.s .z)) (⟨_, rfl, ek_fld T.cl_LinkEnd T.na_LinkEnd_other_birth (ek_n c.toCn .z (⟨_, _, _, _, rfl, (.s (.s .z)), (by walk_at "vfld"), ⟨_, rfl, ⟨rfl, rfl⟩⟩⟩))⟩))) (fun hb => et_and1 (et_notN (ek_fld T.cl_LinkEnd T.na_LinkEnd_own_pair (ek_n c.toCn .z (⟨_, _, _, _, rfl, (.s (.s .z)), (by walk_at "vfld"), ⟨rfl, rfl⟩⟩))))) (⟨fun ht => ?_, fun ht => ?_⟩)))) (fun Γ L hM => ?_)
    · skip
      simp only [Bool.and_eq_true, decide_eq_true_eq] at ht
      cases hp : s.pair with
      | none => rw [hp] at ht; cases ht.2
      | some pr =>
        refine bk_cons (sk_expr (ek_app (ek_fld T.cl_LinkEnd T.na_LinkEnd_events_told (ek_n c.toCn .z (⟨_, _, _, _, rfl, (.s (.s .z)), (by walk_at "vfld"), ⟨_, _, rfl, .own .z, ek_tup (ea_cons (ek_str (ea_cons (ek_fld T.cl_LinkEnd T.na_LinkEnd_own_pair (ek_n c.toCn .z (⟨_, _, _, _, rfl, (.s (.s .z)), (by walk_at "vfld"), ea_nil (⟨(by first | exact sz_ok (Nat.le_of_ble_eq_true rfl) | exact sz_lt (by rw [evL_len]; omega)), ⟨_, _, _, .z, .z, (by first | exact sz_ok (Nat.le_of_ble_eq_true rfl) | exact sz_lt (by rw [evL_len]; omega)), ?_⟩⟩)⟩))))))⟩⟩)))))
        refine lk_bk { s with evs := s.evs ++ [.anew pr] } ?_ rfl rfl ?_
        · show evL (s.evs ++ _) = _
          rw [evL_app, hp]
          rfl
        refine bk_one (sk_expr (ek_meth0 c.tk G_LinkEnd_end_up (hr.mono (by first | decide | exact Nat.le_refl _)) (ek_n c.toCn .z (⟨_, _, _, rfl, (.s (.s .z)), rfl, ⟨p, lp, ep, _, L0, rfl, rfl, fun lp' => ?_⟩⟩))))
        refine ⟨lp', rfl, ?_⟩
        unfold anewIf
        rw [if_pos ht.1]
        unfold toldAnew
        rw [hp]
    · skip
      refine bk_nil ⟨lp, rfl, ?_⟩
      unfold anewIf
      split
      · rename_i h5
        cases hp : s.pair with
        | none => unfold toldAnew; rw [hp]
        | some pr =>
          rw [hp] at ht
          simp [h5, pairD, prD2, isN] at ht
      · rfl
    · obtain ⟨lp1, rfl, rfl⟩ := hM
      obtain ⟨a2, a3⟩ : (anewIf s b).evs.length ≤ s.evs.length + 1 ∧ (anewIf s b).left.length ≤ s.left.length := by
        unfold anewIf
        split
        · exact ⟨own_anew.2.1, own_anew.2.2.1⟩
        · exact ⟨by omega, Nat.le_refl _⟩
      refine bk_cons (sk_fld T.cl_LinkEnd T.na_LinkEnd_other_birth (ek_n c.toCn (.s (.s .z)) (ek_n c.toCn .z (⟨_, _, _, _, rfl, (.s (.s .z)), (by walk_at "vfl"), (.s (.s .z)), ?_⟩))))
      refine lk_bk (withOth (anewIf s b) b) rfl rfl rfl ?_
      refine bk_one (sk_if (et_eqI (ek_call c.tk G_signs_number (hr.mono (by first | decide | exact Nat.le_refl _)) (ea_cons (ek_as (ek_sl (ek_n c.toCn (.s .z) (eo_s (ek_gi T.BIRTH_SIGNS (c.toCn.gl) (⟨_, rfl, eo_s (ek_mul (ek_int (⟨_, rfl, ek_gi T.BIRTH_SIGNS (c.toCn.gl) (⟨_, rfl, (by walk_at "vmul"), ⟨_, rfl, ⟨_, .lst, D.lst (dI ((xs.drop 2).take 2)), congrArg D.lst (cut_dI2 (by decide) (by decide)), ea_nil (⟨_, rfl, fun hd3 => ⟨_, rfl, ek_fld T.cl_LinkEnd T.na_LinkEnd_own_birth (ek_n c.toCn .z (⟨_, _, _, _, rfl, (.s (.s .z)), (by walk_at "vfld"), ⟨_, rfl, ⟨fun ht => ?_, fun ht => ?_⟩⟩⟩))⟩, fun hd3 => ?_⟩)⟩⟩⟩)⟩)))⟩))))))) (c.toCn.gl))))
      case refine_3 => exact absurd (hdg fun v hv => List.mem_of_mem_drop (List.mem_of_mem_take hv)) hd3
      · skip
        simp only [decide_eq_true_eq] at ht
        have hbt := ht
        have hz1 : (withOth (anewIf s b) b).evs.length < 900000 := by show (anewIf s b).evs.length < _; omega
        refine bk_cut (fun Γ L => ∃ lp2, Γ = [some (.ref p), some (.lst (dI xs)), some (.int b)] ∧ L = lkW X.K p lp2 ep (upNow (withOth (anewIf s b) b)) L0) (sk_if (et_isN (ek_fld T.cl_LinkEnd T.na_LinkEnd_own_pair (ek_n c.toCn .z (⟨_, _, _, _, rfl, (.s (.s .z)), (by walk_at "vfld"), ⟨fun ht => ?_, fun ht => ?_⟩⟩))))) (fun Γ L hM => ?_)
        · cases hp : (withOth (anewIf s b) b).pair with
          | some pr =>
            rw [hp] at ht
            cases ht
          | none =>
            refine bk_one (sk_expr (ek_meth0 c.tk G_LinkEnd_begin_up (hr.mono (by first | decide | exact Nat.le_refl _)) (ek_n c.toCn .z (⟨_, _, _, rfl, (.s (.s .z)), rfl, ⟨p, lp1, ep, _, L0, rfl, rfl, hz1, fun lp2 => ?_⟩⟩))))
            refine ⟨lp2, rfl, ?_⟩
            unfold upNow
            rw [hp]
        · refine bk_nil ⟨lp1, rfl, ?_⟩
          cases hp : (withOth (anewIf s b) b).pair with
          | none =>
            rw [hp] at ht
            cases ht
          | some pr =>
            unfold upNow
            rw [hp]
        · obtain ⟨lp2, rfl, rfl⟩ := hM
          obtain ⟨b1, b2, b3, b4, b5⟩ := own_up (s := withOth (anewIf s b) b)
          have hz2 : (upNow (withOth (anewIf s b) b)).evs.length < 900000 := Nat.lt_of_le_of_lt b3 (by show (anewIf s b).evs.length + 1 < _; omega)
          have hz3 : (upNow (withOth (anewIf s b) b)).left.length < 900000 := Nat.lt_of_le_of_lt b4 (by show (anewIf s b).left.length < _; omega)
          refine bk_one (sk_expr (ek_meth c.tk G_LinkEnd_read_piece (hr.mono (by first | decide | exact Nat.le_refl _)) (ek_n c.toCn .z (⟨_, _, _, rfl, (.s (.s .z)), rfl, ea_cons (ek_as (ek_sl (ek_n c.toCn (.s .z) (eo_s (ek_mul (ek_int (⟨_, rfl, ek_gi T.BIRTH_SIGNS (c.toCn.gl) (⟨_, rfl, (by walk_at "vmul"), ⟨_, rfl, eo_n (⟨_, .lst, D.lst (dI (xs.drop 4)), congrArg D.lst (cut_dI' (by decide)), ea_nil (⟨p, lp2, ep, _, L0, xs.drop 4, rfl, rfl, by rw [List.length_drop, hl24]; decide, hz2, hz3, ?_⟩)⟩)⟩⟩)⟩)))))))⟩))))
          have h2 := h1 lp2
          rw [e0, if_pos hbt] at h2
          exact h2
      · skip
        simp only [decide_eq_false_iff_not] at ht
        have h2 := h1 lp1
        rw [e0, if_neg ht] at h2
        exact bk_nil h2
/-! LinkEnd.tick -/
def S_tick (K : PySem.W.Frag) : SpD := fun ds L q _ => ∃ p lp ep s L0 cs, ds = [.ref p, .lst (dII cs)] ∧ L = lkW K p lp ep s L0 ∧ (∀ c ∈ cs, okc 24 c) ∧ LOk s ∧ s.own < 9408 ∧ cs.length ≤ 1000 ∧ s.evs.length < 100000 ∧ s.left.length < 800000 ∧
  ∀ pc lp', q (.ref pc) ((pc, C.lst (dI (celOf (signsNow (tickF s cs))))) :: lkW K p lp' ep (tickF s cs) L0)
theorem b_tick {ds : List D} {L : Lg} {q : D → Lg → Prop} {e : Xc → Lg → Prop} (c : Cf X (["self", "cells", "cell", "found"] : List Str) ([] : List Str) (defScope (mt 45 1)) F0 (fun y _ L' => e y L')) (T : Tx X.K X.mg) (hr : Room 6 X.A)
    (G_mended : CalX X 5 "mended" (["cell"] : List Str) (S_mended X.K)) (G_sealed : CalX X 2 "sealed" (["signs"] : List Str) (S_sealed X.K))
    (G_LinkEnd_read_births : MetX X 3 (He.ga X.K "LinkEnd") "read_births" (["self", "cell"] : List Str) (S_read_births X.K)) (G_LinkEnd_fall_silent : MetX X 2 (He.ga X.K "LinkEnd") "fall_silent" (["self"] : List Str) (S_fall_silent X.K)) (G_LinkEnd_signs_now : MetX X 2 (He.ga X.K "LinkEnd") "signs_now" (["self"] : List Str) (S_signs_now X.K)) (h : S_tick X.K ds L q e) :
    BK X F0 (defBody (mt 45 1)) (ds.map some ++ List.replicate 2 none) L { nx := fun _ L' => q .non L', rt := q } := by
  obtain ⟨p, lp, ep, s, L0, cs, rfl, rfl, hcs, hlok, hown, hcl, hz, hzl, h1⟩ := h
  refine bk_cons (sk_fld T.cl_LinkEnd T.na_LinkEnd_now_tick (ek_add (ek_fld T.cl_LinkEnd T.na_LinkEnd_now_tick (ek_n c.toCn .z (⟨_, _, _, _, rfl, (.s (.s .z)), (by walk_at "vfld"), ⟨_, rfl, ek_int (⟨_, rfl, ek_n c.toCn .z (⟨_, _, _, _, rfl, (.s (.s .z)), (by walk_at "vfl"), (.s (.s .z)), ?_⟩)⟩)⟩⟩)))))
  refine bk_cons (sk_for c (ei_list (ek_n c.toCn (.s .z) (⟨_, rfl, ⟨fun i Γ L' => ∃ lp1 w1 w2, Γ = [some (.ref p), some (.lst (dII cs)), w1, w2] ∧ L' = lkW X.K p lp1 ep ((cs.take i).foldl takeCell { s with now := s.now + 1 }) L0, ?_, fun F1 c i d Γ L hd hP => ?_, fun Γ L hP => ?_⟩⟩))))
  · exact ⟨lp, none, none, rfl, lk_eq rfl rfl rfl⟩
  · obtain ⟨lp1, w1, w2, rfl, rfl⟩ := hP
    obtain ⟨cell, hc, rfl⟩ := map_at' hd
    have hcell := hcs cell (List.mem_of_getElem? hc)
    have hil : i < cs.length := (List.getElem?_eq_some_iff.mp hc).1
    obtain ⟨t, ht0⟩ : ∃ t, t = (cs.take i).foldl takeCell { s with now := s.now + 1 } := ⟨_, rfl⟩
    have et : (cs.take (i + 1)).foldl takeCell { s with now := s.now + 1 } = takeCell t cell := by
      rw [List.take_add_one, hc, List.foldl_append, ← ht0]
      rfl
    have hto : LOk t := by
      rw [ht0]
      exact lok_all ⟨hlok.own, hlok.oth, hlok.left⟩
    have hlen : (cs.take i).length ≤ 1000 := by rw [List.length_take]; omega
    obtain ⟨_, a2, a3, _⟩ := own_all (cs := cs.take i) (s := { s with now := s.now + 1 })
    rw [← ht0] at a2 a3
    dsimp only at a2 a3
    rw [← ht0]
    have hmF := mdF_ok cell
    refine tg_n c.toCn ⟨_, (.s (.s .z)), ?_⟩
    refine bk_cons (sk_set (i := 3) c.toCn (ek_frzO (ek_call c.tk G_mended (hr.mono (by first | decide | exact Nat.le_refl _)) (ea_cons (ek_n c.toCn (.s (.s .z)) (ea_nil (⟨_, cell, rfl, .lst, fun hok => ⟨fun hmd => ?_, fun ys pm hmd => ?_⟩, fun hok => ?_⟩)))) (c.toCn.gl))))
    case refine_1 =>
      refine .inr ⟨_, .s (.s (.s .z)), ?_⟩
      have e1 : mdF cell = none := by
        cases hm : mdF cell with
        | none => rfl
        | some ys =>
          rw [hm] at hmF
          have := hmd ys hmF.1 hmF.2.1
          have := hmF.2.2
          omega
      refine bk_one (sk_if (et_notN (ek_n c.toCn (.s (.s (.s .z))) (⟨fun ht => ?_, fun ht => ?_⟩))))
      · exact absurd ht (by decide)
      · refine bk_nil ⟨lp1, _, _, rfl, ?_⟩
        rw [et, show takeCell t cell = t by unfold takeCell; rw [e1]]
    case refine_2 =>
      refine .inl ⟨pm, dI ys, 0, _, _, rfl, .z, .refl, _, .s (.s (.s .z)), ?_⟩
      have e1 : mdF cell = some ys := by
        cases hm : mdF cell with
        | none =>
          rw [hm] at hmF
          have := hmF ys hmd.1 hmd.2.1
          have := hmd.2.2
          omega
        | some zs =>
          rw [hm] at hmF
          rw [md_same hmd hmF]
      have hys := hmd.1
      refine bk_one (sk_if (et_notN (ek_n c.toCn (.s (.s (.s .z))) (⟨fun ht => ?_, fun ht => ?_⟩))))
      · refine bk_cons (sk_fld T.cl_LinkEnd T.na_LinkEnd_heard_tick (ek_fld T.cl_LinkEnd T.na_LinkEnd_now_tick (ek_n c.toCn .z (⟨_, _, _, _, rfl, (.s (.s .z)), (by walk_at "vfld"), ek_n c.toCn .z (⟨_, _, _, _, rfl, (.s (.s .z)), (by walk_at "vfl"), (.s (.s .z)), ?_⟩)⟩))))
        refine lk_bk { t with heard := t.now } rfl rfl rfl ?_
        have hlo : LOk { t with heard := t.now } := ⟨hto.own, hto.oth, hto.left⟩
        have hz1 : ({ t with heard := t.now } : LS).evs.length < 899990 := by dsimp only; omega
        have hz2 : ({ t with heard := t.now } : LS).left.length < 899990 := by dsimp only; omega
        refine bk_one (sk_expr (ek_meth c.tk G_LinkEnd_read_births (hr.mono (by first | decide | exact Nat.le_refl _)) (ek_n c.toCn .z (⟨_, _, _, rfl, (.s (.s .z)), rfl, ea_cons (ek_n c.toCn (.s (.s (.s .z))) (ea_nil (⟨p, lp1, ep, _, L0, ys, rfl, rfl, hys, hlo, hz1, hz2, fun lp2 => ?_⟩)))⟩))))
        refine ⟨lp2, _, _, rfl, ?_⟩
        rw [et, show takeCell t cell = readBirths { t with heard := t.now } ys by unfold takeCell; rw [e1]]
      · cases ht
    case refine_3 => exact absurd hcell hok
  · obtain ⟨lp1, w1, w2, rfl, rfl⟩ := hP
    rw [dII_len, List.take_length]
    have hlo := lok_all (cs := cs) (s := { s with now := s.now + 1 }) ⟨hlok.own, hlok.oth, hlok.left⟩
    obtain ⟨a1, a2, a3, _⟩ := own_all (cs := cs) (s := { s with now := s.now + 1 })
    have hz1 : (takeAll s cs).evs.length < 900000 := by unfold takeAll; dsimp only at a2; omega
    change BK X F0 _ _ (lkW X.K p lp1 ep (takeAll s cs) L0) _
    refine bk_cut (fun Γ L => ∃ lp1 w1 w2, Γ = [some (.ref p), some (.lst (dII cs)), w1, w2] ∧ L = lkW X.K p lp1 ep (tickF s cs) L0) (sk_if (et_w (ew_and (et_gt (ek_fld T.cl_LinkEnd T.na_LinkEnd_other_birth (ek_n c.toCn .z (⟨_, _, _, _, rfl, (.s (.s .z)), (by walk_at "vfld"), ⟨_, rfl, ek_int (⟨_, rfl, ⟨rfl, rfl⟩⟩)⟩⟩)))) (fun hb => et_and1 (et_ge (ek_sub (ek_fld T.cl_LinkEnd T.na_LinkEnd_now_tick (ek_n c.toCn .z (⟨_, _, _, _, rfl, (.s (.s .z)), (by walk_at "vfld"), ⟨_, rfl, ek_fld T.cl_LinkEnd T.na_LinkEnd_heard_tick (ek_n c.toCn .z (⟨_, _, _, _, rfl, (.s (.s .z)), (by walk_at "vfld"), ⟨_, rfl, ⟨_, rfl, ek_fld T.cl_LinkEnd T.na_LinkEnd_quiet_ticks (ek_n c.toCn .z (⟨_, _, _, _, rfl, (.s (.s .z)), (by walk_at "vfld"), ⟨_, rfl, ⟨rfl, rfl⟩⟩⟩))⟩⟩⟩))⟩⟩)))))) (⟨fun ht => ?_, fun ht => ?_⟩)))) (fun Γ L hM => ?_)
    · refine bk_one (sk_expr (ek_meth0 c.tk G_LinkEnd_fall_silent (hr.mono (by first | decide | exact Nat.le_refl _)) (ek_n c.toCn .z (⟨_, _, _, rfl, (.s (.s .z)), rfl, ⟨p, lp1, ep, _, L0, rfl, rfl, hz1, fun lp2 => ?_⟩⟩))))
      simp only [Bool.and_eq_true, decide_eq_true_eq] at ht
      refine ⟨lp2, _, _, rfl, ?_⟩
      rw [show tickF s cs = fallSilent (takeAll s cs) from if_pos ht]
    · refine bk_nil ⟨lp1, _, _, rfl, ?_⟩
      rw [show tickF s cs = takeAll s cs from if_neg (fun z => by
        simp only [Bool.and_eq_false_iff, decide_eq_false_iff_not] at ht
        rcases ht with ht | ht
        · exact ht z.1
        · exact ht z.2)]
    · obtain ⟨lp1, w1, w2, rfl, rfl⟩ := hM
      have hlo := lok_tick (cs := cs) hlok hown
      refine bk_one (sk_ret (ek_call c.tk G_sealed (hr.mono (by first | decide | exact Nat.le_refl _)) (ea_cons (ek_meth0 c.tk G_LinkEnd_signs_now (hr.mono (by first | decide | exact Nat.le_refl _)) (ek_n c.toCn .z (⟨_, _, _, rfl, (.s (.s .z)), rfl, ⟨p, lp1, ep, _, L0, rfl, rfl, hlo, ea_nil (⟨_, _, rfl, .lst, fun hok => fun ps => ?_, fun hok => ?_⟩)⟩⟩)))) (c.toCn.gl)))
      · exact h1 ps lp1
      · exact absurd (signsNow_ok hlo) hok
/-! LinkEnd.__init__ -/
def S_link (K : PySem.W.Frag) : SpD := fun ds L q e => ∃ p late lost side L0, ds = [.ref p, .tup [.int late, .int lost], .int side] ∧ L = (p, .obj (lkC K) []) :: L0 ∧ (okM late lost → ∀ lp ep, q .non (lkW K p lp ep (fresh (late + lost) side) L0)) ∧ (¬ okM late lost → e (xcOf K "BadMeasure") L)
theorem b_link {ds : List D} {L : Lg} {q : D → Lg → Prop} {e : Xc → Lg → Prop} (c : Cf X (["self", "measure", "side"] : List Str) ([] : List Str) (defScope (mt 45 0)) F0 (fun y _ L' => e y L')) (T : Tx X.K X.mg) (hr : Room 3 X.A)
    (G_quiet_of : CalX X 3 "quiet_of" (["measure"] : List Str) (S_quiet_of X.K)) (h : S_link X.K ds L q e) :
    BK X F0 (defBody (mt 45 0)) (ds.map some ++ List.replicate 0 none) L { nx := fun _ L' => q .non L', rt := q } := by
  obtain ⟨p, late, lost, side, L0, rfl, rfl, h1, h2⟩ := h
  refine bk_cons (sk_fld T.cl_LinkEnd T.na_LinkEnd_quiet_ticks (ek_call c.tk G_quiet_of (hr.mono (by first | decide | exact Nat.le_refl _)) (ea_cons (ek_n c.toCn (.s .z) (ea_nil (⟨_, _, rfl, fun hm => ek_n c.toCn .z (⟨_, _, _, _, rfl, .z, (by walk_at "vfl"), .z, ?_⟩), fun hm => ?_⟩)))) (c.toCn.gl)))
  case refine_2 => exact h2 hm
  refine bk_cons (sk_fld T.cl_LinkEnd T.na_LinkEnd_side_number (ek_n c.toCn (.s (.s .z)) (ek_n c.toCn .z (⟨_, _, _, _, rfl, .z, (by walk_at "vfl"), .z, ?_⟩))))
  refine bk_cons (sk_fld T.cl_LinkEnd T.na_LinkEnd_own_birth (ek_int (ek_n c.toCn .z (⟨_, _, _, _, rfl, .z, (by walk_at "vfl"), .z, ?_⟩))))
  refine bk_cons (sk_fld T.cl_LinkEnd T.na_LinkEnd_other_birth (ek_int (ek_n c.toCn .z (⟨_, _, _, _, rfl, .z, (by walk_at "vfl"), .z, ?_⟩))))
  refine bk_cons (sk_fld T.cl_LinkEnd T.na_LinkEnd_own_pair (ek_non (ek_n c.toCn .z (⟨_, _, _, _, rfl, .z, (by walk_at "vfl"), .z, ?_⟩))))
  refine bk_cons (sk_fld T.cl_LinkEnd T.na_LinkEnd_now_tick (ek_neg (ek_int (⟨_, rfl, ek_n c.toCn .z (⟨_, _, _, _, rfl, .z, (by walk_at "vfl"), .z, ?_⟩)⟩))))
  refine bk_cons (sk_fld T.cl_LinkEnd T.na_LinkEnd_heard_tick (ek_neg (ek_int (⟨_, rfl, ek_n c.toCn .z (⟨_, _, _, _, rfl, .z, (by walk_at "vfl"), .z, ?_⟩)⟩))))
  refine bk_cons (sk_fld T.cl_LinkEnd T.na_LinkEnd_pieces_left (ek_lstO (ea_nil (⟨(by walk_at "vlen"), fun p_pieces_left => ek_n c.toCn .z (⟨_, _, _, _, rfl, (.s .z), (by walk_at "vfl"), (.s .z), ?_⟩)⟩))))
  refine bk_cons (sk_fld T.cl_LinkEnd T.na_LinkEnd_piece_number (ek_int (ek_n c.toCn .z (⟨_, _, _, _, rfl, (.s .z), (by walk_at "vfl"), (.s .z), ?_⟩))))
  refine bk_cons (sk_fld T.cl_LinkEnd T.na_LinkEnd_piece_count (ek_int (ek_n c.toCn .z (⟨_, _, _, _, rfl, (.s .z), (by walk_at "vfl"), (.s .z), ?_⟩))))
  refine bk_one (sk_fld T.cl_LinkEnd T.na_LinkEnd_events_told (ek_lstO (ea_nil (⟨(by walk_at "vlen"), fun p_events_told => ek_n c.toCn .z (⟨_, _, _, _, rfl, (.s (.s .z)), (by walk_at "vfl"), (.s (.s .z)), ?_⟩)⟩))))
  exact lk_goal (q .non) (h1 hm p_pieces_left p_events_told) rfl rfl rfl
end
end K34


set_option Elab.async false
set_option linter.all false
set_option maxRecDepth 100000
set_option maxHeartbeats 4000000
set_option pp.deepTerms.threshold 16
namespace K34
open PySem PySem.Spec PyProof.Rows L2 Vs
local macro_rules | `(tactic| walk_at "vpos") => `(tactic| first | decide | omega)
local macro_rules | `(tactic| walk_at "vdiv") => `(tactic| first | exact ⟨by decide, by decide⟩ | (constructor <;> omega))
local macro_rules | `(tactic| walk_at "vpow") => `(tactic| exact ⟨by decide, by decide, by decide⟩)
local macro_rules | `(tactic| walk_at "vmul") => `(tactic| first | exact mulL ⟨by decide, by decide⟩ | exact mulR ⟨by decide, by decide⟩ | exact mulL (by constructor <;> omega) | exact mulR (by constructor <;> omega))
local macro_rules | `(tactic| walk_at "vlen") => `(tactic| first | exact sz_ok (Nat.le_of_ble_eq_true rfl) | exact sz_lt (Nat.le_of_ble_eq_true rfl) | (refine sz_ok ?_; simp only [List.length_append, List.length_cons, List.length_nil, List.length_map]; omega) | (refine sz_lt ?_; simp only [List.length_append, List.length_cons, List.length_nil, List.length_map]; omega))
local macro_rules | `(tactic| walk_at "vrng") => `(tactic| (refine ⟨?_, ?_⟩ <;> omega))
local macro_rules | `(tactic| walk_at "vix") => `(tactic| rfl)
local macro_rules | `(tactic| walk_at "vixn") => `(tactic| first | rfl | exact ixN_at (by omega) (by omega))
local macro_rules | `(tactic| walk_at "vkb") => `(tactic| decide +kernel)
local macro_rules | `(tactic| walk_at "vty") => `(tactic| first | exact .int | exact .bl | exact .lst | exact .str | exact .tup | exact .non | exact .own .z | exact tyd_as (by assumption))
local macro_rules | `(tactic| walk_at "vkit") => `(tactic| assumption)
local macro_rules | `(tactic| walk_at "vrep") => `(tactic| (refine ⟨by omega, by omega, ?_⟩; first | decide | (refine sz_ok ?_; simp only [List.length_cons, List.length_nil]; omega)))
section
variable {X : Cx} {F0 : Hp}
/-! _law_cell -/
def S_law_cell : SpD := fun ds L q _ => ∃ (ns : List Int) (k : Nat), ds = [.lst (dI ns), .int (k : Int)] ∧ q (.int (ns.getD k 0)) L
theorem b_law_cell {ds : List D} {L : Lg} {q : D → Lg → Prop} {e : Xc → Lg → Prop} (c : Cf X (["script", "k"] : List Str) ([] : List Str) (defScope (top 50)) F0 (fun y _ L' => e y L')) (T : Tx X.K X.mg) (h : S_law_cell ds L q e) :
    BK X F0 (defBody (top 50)) (ds.map some ++ List.replicate 0 none) L { nx := fun _ L' => q .non L', rt := q } := by
  obtain ⟨ns, k, rfl, h1⟩ := h
  refine bk_cons (sk_if (et_lt (ek_n c.toCn (.s .z) (⟨_, rfl, ek_len T.no_len (c.toCn.gl) (ek_n c.toCn .z (⟨_, Or.inl .lst, ⟨_, rfl, ⟨fun ht => ?_, fun ht => ?_⟩⟩⟩))⟩))))
  · rw [dI_len] at ht
    obtain ⟨v, hv⟩ : ∃ v, ns[k]? = some v := ⟨_, List.getElem?_eq_getElem (by simp at ht; omega)⟩
    refine bk_one (sk_ret (ek_ix (ek_n c.toCn .z (ek_n c.toCn (.s .z) (⟨_, _, _, .lst, rfl, (at_dIk hv), ?_⟩))) (fun _ _ => rfl)))
    rw [List.getD_eq_getElem?_getD, hv] at h1
    exact h1
  · rw [dI_len] at ht
    refine bk_nil ?_
    refine bk_one (sk_ret (ek_int (?_)))
    rw [List.getD_eq_getElem?_getD, List.getElem?_eq_none (by simp at ht; omega)] at h1
    exact h1
/-! ### drawn numbers, a wire's weather -/
def S_law_numbers : SpD := fun ds L q _ => ∃ (cell : Int) (many : Nat), ds = [.int cell, .int (many : Int)] ∧ many ≤ 1000 ∧ ∀ ns : List Int, ns.length = many → (∀ v ∈ ns, 0 ≤ v) → q (.lst (dI ns)) L
theorem b_law_numbers {ds : List D} {L : Lg} {q : D → Lg → Prop} {e : Xc → Lg → Prop} (c : Cf X (["cell", "many", "told", "left", "k", "stir"] : List Str) ([] : List Str) (defScope (top 51)) F0 (fun y _ L' => e y L')) (T : Tx X.K X.mg)
    (h : S_law_numbers ds L q e) :
    BK X F0 (defBody (top 51)) (ds.map some ++ List.replicate 4 none) L { nx := fun _ L' => q .non L', rt := q } := by
  obtain ⟨cell, many, rfl, hm, h1⟩ := h
  refine bk_cons (sk_set c.toCn (ek_lstO (ea_nil (⟨(by walk_at "vlen"), fun p_told => ⟨_, (.s (.s .z)), ?_⟩⟩))))
  refine bk_cons (sk_set c.toCn (ek_n c.toCn .z (⟨_, (.s (.s (.s .z))), ?_⟩)))
  refine bk_cons (sk_for c (ei_range1 T.no_range (c.toCn.gl) (ek_n c.toCn (.s .z) (⟨_, rfl, (⟨by omega, by omega⟩), ⟨fun i Γ L' => ∃ ns left w1 w2, Γ = [some (.int cell), some (.int (many : Int)), some (.ref p_told), some (.int left), w1, w2] ∧ L' = (p_told, .lst (dI ns)) :: L ∧ ns.length = i ∧ ∀ v ∈ ns, 0 ≤ v, ?_, fun F1 c i d Γ L hd hP => ?_, fun Γ L hP => ?_⟩⟩))))
  · exact ⟨[], _, _, _, rfl, rfl, rfl, fun v hv => by cases hv⟩
  · obtain ⟨ns, left, w1, w2, rfl, rfl, hl, hb⟩ := hP
    obtain ⟨hi, rfl⟩ := range_nat hd
    have add : ∀ v : Int, 0 ≤ v → (ns ++ [v]).length = i + 1 ∧ ∀ u ∈ ns ++ [v], 0 ≤ u := fun v hv => ⟨by rw [List.length_append, hl]; rfl, fun u hu => by
      rcases List.mem_append.mp hu with hu | hu
      · exact hb u hu
      · rw [List.mem_singleton.mp hu]
        exact hv⟩
    refine tg_n c.toCn ⟨_, (.s (.s (.s (.s .z)))), ?_⟩
    refine bk_one (sk_if (et_ge (ek_n c.toCn (.s (.s (.s .z))) (⟨_, rfl, ek_pow (ek_int (⟨_, rfl, ek_int (⟨_, rfl, (by walk_at "vpow"), ⟨_, rfl, ⟨fun ht => ?_, fun ht => ?_⟩⟩⟩)⟩))⟩))))
    · refine bk_cons (sk_expr (ek_app (ek_n c.toCn (.s (.s .z)) (⟨_, _, rfl, .own .z, ek_mod (ek_n c.toCn (.s (.s (.s .z))) (⟨_, rfl, ek_int (⟨_, rfl, (by walk_at "vpos"), ⟨_, _, _, .z, .z, (sz_lt (by rw [dI_len]; omega)), ?_⟩⟩)⟩))⟩))))
      refine bk_one (sk_set c.toCn (ek_fdiv (ek_n c.toCn (.s (.s (.s .z))) (⟨_, rfl, ek_int (⟨_, rfl, (by walk_at "vdiv"), ⟨_, (.s (.s (.s .z))), ?_⟩⟩)⟩))))
      obtain ⟨a1, a2⟩ := add (left % 1000003) (by omega)
      exact ⟨ns ++ [left % 1000003], _, _, _, rfl, by rw [← dI_app], a1, a2⟩
    · refine bk_cons (sk_set c.toCn (ek_mod (ek_mul (ek_add (ek_add (ek_mod (ek_n c.toCn .z (⟨_, rfl, ek_int (⟨_, rfl, (by walk_at "vpos"), ⟨_, rfl, ek_mul (ek_int (⟨_, rfl, ek_n c.toCn (.s (.s (.s (.s .z)))) (⟨_, rfl, (by first | exact mulL ⟨by decide, by decide⟩ | exact mulR ⟨by decide, by decide⟩), ⟨_, rfl, ⟨_, rfl, ek_int (⟨_, rfl, ⟨_, rfl, ek_int (⟨_, rfl, (by first | exact mulL ⟨by decide, by decide⟩ | exact mulR ⟨by decide, by decide⟩), ⟨_, rfl, ek_int (⟨_, rfl, (by walk_at "vpos"), ⟨_, (.s (.s (.s (.s (.s .z))))), ?_⟩⟩)⟩⟩)⟩⟩)⟩⟩⟩)⟩))⟩⟩)⟩))))))))
      refine bk_one (sk_expr (ek_app (ek_n c.toCn (.s (.s .z)) (⟨_, _, rfl, .own .z, ek_fdiv (ek_mod (ek_mul (ek_n c.toCn (.s (.s (.s (.s (.s .z))))) (⟨_, rfl, ek_n c.toCn (.s (.s (.s (.s (.s .z))))) (⟨_, rfl, (mulL (by constructor <;> omega)), ⟨_, rfl, ek_int (⟨_, rfl, (by walk_at "vpos"), ⟨_, rfl, ek_int (⟨_, rfl, (by walk_at "vdiv"), ⟨_, _, _, .z, .z, (sz_lt (by rw [dI_len]; omega)), ?_⟩⟩)⟩⟩)⟩⟩)⟩))))⟩))))
      generalize hs : (cell % 2147483647 + 7919 * (0 + (i : Int)) + 1) * 69621 % 2147483647 = st
      obtain ⟨a1, a2⟩ := add (st * st % 998244353 / 7) (by
        generalize st * st = z
        omega)
      exact ⟨ns ++ [st * st % 998244353 / 7], _, _, _, rfl, by rw [← dI_app], a1, a2⟩
  · obtain ⟨ns, left, w1, w2, rfl, rfl, hl, hb⟩ := hP
    rw [rangeD_len] at hl
    refine bk_one (sk_ret (ek_frzO (ek_n c.toCn (.s (.s .z)) (?_))))
    exact .inl ⟨_, _, 0, _, _, rfl, .z, .refl, h1 ns (by omega) hb⟩
def S_law_measure : SpD := fun ds L q _ => ∃ number : Int, ds = [.int number] ∧ 0 ≤ number ∧ ∀ late lost, okM late lost → q (.tup [.int late, .int lost]) L
theorem b_law_measure {ds : List D} {L : Lg} {q : D → Lg → Prop} {e : Xc → Lg → Prop} (c : Cf X (["number"] : List Str) ([] : List Str) (defScope (top 52)) F0 (fun y _ L' => e y L')) (T : Tx X.K X.mg)
    (h : S_law_measure ds L q e) :
    BK X F0 (defBody (top 52)) (ds.map some ++ List.replicate 0 none) L { nx := fun _ L' => q .non L', rt := q } := by
  obtain ⟨number, rfl, hn, h1⟩ := h
  refine bk_cons (sk_if (et_eqI (ek_mod (ek_n c.toCn .z (⟨_, rfl, ek_int (⟨_, rfl, (by walk_at "vpos"), ⟨_, rfl, ek_int (⟨_, rfl, ⟨fun ht => ?_, fun ht => ?_⟩⟩)⟩⟩)⟩)))))
  · refine bk_one (sk_ret (ek_tup (ea_cons (ek_add (ek_int (⟨_, rfl, ek_mod (ek_fdiv (ek_n c.toCn .z (⟨_, rfl, ek_int (⟨_, rfl, (by walk_at "vdiv"), ⟨_, rfl, ek_int (⟨_, rfl, (by walk_at "vpos"), ⟨_, rfl, ea_cons (ek_mod (ek_fdiv (ek_n c.toCn .z (⟨_, rfl, ek_int (⟨_, rfl, (by walk_at "vdiv"), ⟨_, rfl, ek_int (⟨_, rfl, (by walk_at "vpos"), ea_nil (⟨(by walk_at "vlen"), ?_⟩)⟩)⟩⟩)⟩))))⟩⟩)⟩⟩)⟩)))⟩))))))
    exact h1 _ _ ⟨by omega, by omega⟩
  · refine bk_nil ?_
    refine bk_one (sk_ret (ek_tup (ea_cons (ek_add (ek_int (⟨_, rfl, ek_mod (ek_fdiv (ek_n c.toCn .z (⟨_, rfl, ek_int (⟨_, rfl, (by walk_at "vdiv"), ⟨_, rfl, ek_int (⟨_, rfl, (by walk_at "vpos"), ⟨_, rfl, ea_cons (ek_mod (ek_fdiv (ek_n c.toCn .z (⟨_, rfl, ek_int (⟨_, rfl, (by walk_at "vdiv"), ⟨_, rfl, ek_int (⟨_, rfl, (by walk_at "vpos"), ea_nil (⟨(by walk_at "vlen"), ?_⟩)⟩)⟩⟩)⟩))))⟩⟩)⟩⟩)⟩)))⟩))))))
    exact h1 _ _ ⟨by omega, by omega⟩
/-! turns -/
def S_law_turns : SpD := fun ds L q _ => ∃ (number : Int) (m : Nat), ds = [.int number, .int (m : Int)] ∧ 0 ≤ number ∧ m ≤ 4 ∧ ∀ ts, ts.length = m → goodT ts = true → q (trD ts) L
theorem goodT_row {b : Int} (hb : 0 ≤ b) {g : Nat → Int} (hg : ∀ k, 1 ≤ g k ∧ g k ≤ 96) : ∀ (m j : Nat) (l : Int), l < b + j → b + j + m ≤ 24 → okT l ((List.range' j m).map fun (k : Nat) => (b + (k : Int), g k)) = true
  | 0, _, _, _, _ => rfl
  | m + 1, j, l, h1, h2 => by
    have ih := goodT_row hb hg m (j + 1) (b + j) (by omega) (by omega)
    rw [List.range'_succ, List.map_cons]
    show (okA l (b + (j : Int), g j) && okT (b + (j : Int)) _) = true
    rw [ih, Bool.and_true]
    unfold okA
    have := hg j
    simp only [Bool.and_eq_true, decide_eq_true_eq]
    omega
theorem b_law_turns {ds : List D} {L : Lg} {q : D → Lg → Prop} {e : Xc → Lg → Prop} (c : Cf X (["number", "many"] : List Str) (["k"] : List Str) (defScope (top 53)) F0 (fun y _ L' => e y L')) (T : Tx X.K X.mg)
    (h : S_law_turns ds L q e) :
    BK X F0 (defBody (top 53)) (ds.map some ++ List.replicate 1 none) L { nx := fun _ L' => q .non L', rt := q } := by
  obtain ⟨number, m, rfl, hn, hm, h1⟩ := h
  refine bk_one (sk_ret (ek_tupOf T.no_tuple (c.toCn.gl) (ek_lcM [("k", 2)] c.toCn c.calm (by decide +kernel) (ei_p (ei_range1 T.no_range (c.toCn.gl) (ek_n c.toCn (.s .z) (⟨_, rfl, (⟨by omega, by omega⟩), ⟨((List.range m).map fun (k : Nat) => prD (number / 7 % 21 + (k : Int), 1 + (number / 11 + 31 * (k : Int)) % 96)), ?_, ⟨_, Or.inl .lst, ?_⟩⟩⟩)))))))
  · refine ⟨by rw [List.length_map, List.length_range, rangeD_len]; omega, by rw [rangeD_len]; omega, fun F1 n d e acc Dp hd he => ?_⟩
    obtain ⟨hn2, rfl⟩ := range_nat hd
    obtain ⟨hn3, rfl⟩ := map_get he
    intro X' cb hX'
    obtain ⟨s0, H0, C0, cl, fp, rfl⟩ := hX'
    refine tb_n cb ⟨_, (.s (.s .z)), rfl, fun X' cb hX' => ?_⟩
    obtain ⟨s0, H0, C0, cl, fp, rfl⟩ := hX'
    refine ek_tup (ea_cons (ek_add (ek_mod (ek_fdiv (ek_b cb .z (⟨_, rfl, ek_int (⟨_, rfl, (by walk_at "vdiv"), ⟨_, rfl, ek_int (⟨_, rfl, (by walk_at "vpos"), ⟨_, rfl, ek_b cb (.s (.s .z)) (⟨_, rfl, ea_cons (ek_add (ek_int (⟨_, rfl, ek_mod (ek_add (ek_fdiv (ek_b cb .z (⟨_, rfl, ek_int (⟨_, rfl, (by walk_at "vdiv"), ⟨_, rfl, ek_mul (ek_int (⟨_, rfl, ek_b cb (.s (.s .z)) (⟨_, rfl, (mulL ⟨by decide, by decide⟩), ⟨_, rfl, ⟨_, rfl, ek_int (⟨_, rfl, (by walk_at "vpos"), ⟨_, rfl, ea_nil (⟨(by walk_at "vlen"), ?_⟩)⟩⟩)⟩⟩⟩)⟩))⟩⟩)⟩))))⟩)))⟩)⟩⟩)⟩⟩)⟩))))))
    refine ⟨rfl, ?_⟩
    rw [show (0 + (n : Int)) = (n : Int) by omega]
    rfl
  · have e1 : ((List.range m).map fun (k : Nat) => prD (number / 7 % 21 + (k : Int), 1 + (number / 11 + 31 * (k : Int)) % 96)) = ((List.range' 0 m).map fun (k : Nat) => (number / 7 % 21 + (k : Int), 1 + (number / 11 + 31 * (k : Int)) % 96)).map prD := by
      rw [List.map_map, List.range_eq_range']
      rfl
    rw [e1]
    refine h1 _ (by rw [List.length_map, List.length_range']) ?_
    unfold goodT
    rw [Bool.and_eq_true, decide_eq_true_eq]
    exact ⟨by rw [List.length_map, List.length_range']; exact hm, goodT_row (g := fun (k : Nat) => 1 + (number / 11 + 31 * (k : Int)) % 96) (by omega) (fun k => by show (1 : Int) ≤ 1 + (number / 11 + 31 * (k : Int)) % 96 ∧ 1 + (number / 11 + 31 * (k : Int)) % 96 ≤ 96; omega) m 0 (-1) (by omega) (by omega)⟩
/-! a fate -/
def S_law_fate : SpD := fun ds L q _ => ∃ number late : Int, ds = [.int number, .int late] ∧ 0 ≤ number ∧ 1 ≤ late ∧ late ≤ 6 ∧ ∀ f, goodF late f = true → q (ftD f) L
theorem goodF_mk {late : Int} {f : FT} (hl : f.length ≤ 3) (h : ∀ x ∈ f, 1 ≤ x.1 ∧ x.1 ≤ late ∧ goodT x.2 = true) : goodF late f = true := by
  unfold goodF
  rw [Bool.and_eq_true, decide_eq_true_eq, List.all_eq_true]
  refine ⟨hl, fun x hx => ?_⟩
  obtain ⟨h1, h2, h3⟩ := h x hx
  unfold goodX
  simp only [Bool.and_eq_true, decide_eq_true_eq]
  exact ⟨⟨h1, h2⟩, h3⟩
theorem b_law_fate {ds : List D} {L : Lg} {q : D → Lg → Prop} {e : Xc → Lg → Prop} (c : Cf X (["number", "late", "delay", "other", "kind"] : List Str) ([] : List Str) (defScope (top 54)) F0 (fun y _ L' => e y L')) (T : Tx X.K X.mg) (hr : Room 1 X.A)
    (G__law_turns : CalX X 1 "_law_turns" (["number", "many"] : List Str) S_law_turns) (h : S_law_fate ds L q e) :
    BK X F0 (defBody (top 54)) (ds.map some ++ List.replicate 3 none) L { nx := fun _ L' => q .non L', rt := q } := by
  obtain ⟨number, late, rfl, hn, hl1, hl6, h1⟩ := h
  have g0 : goodT [] = true := rfl
  have hd1 := Int.emod_nonneg (number / 16) (show late ≠ 0 by omega)
  have hd2 := Int.emod_lt_of_pos (number / 16) (show 0 < late by omega)
  have ho1 := Int.emod_nonneg (number / 100) (show late ≠ 0 by omega)
  have ho2 := Int.emod_lt_of_pos (number / 100) (show 0 < late by omega)
  refine bk_cons (sk_set c.toCn (ek_add (ek_int (⟨_, rfl, ek_mod (ek_fdiv (ek_n c.toCn .z (⟨_, rfl, ek_int (⟨_, rfl, (by walk_at "vdiv"), ⟨_, rfl, ek_n c.toCn (.s .z) (⟨_, rfl, (by walk_at "vpos"), ⟨_, rfl, ⟨_, (.s (.s .z)), ?_⟩⟩⟩)⟩⟩)⟩)))⟩))))
  refine bk_cons (sk_set c.toCn (ek_add (ek_int (⟨_, rfl, ek_mod (ek_fdiv (ek_n c.toCn .z (⟨_, rfl, ek_int (⟨_, rfl, (by walk_at "vdiv"), ⟨_, rfl, ek_n c.toCn (.s .z) (⟨_, rfl, (by walk_at "vpos"), ⟨_, rfl, ⟨_, (.s (.s (.s .z))), ?_⟩⟩⟩)⟩⟩)⟩)))⟩))))
  refine bk_cons (sk_set c.toCn (ek_mod (ek_n c.toCn .z (⟨_, rfl, ek_int (⟨_, rfl, (by walk_at "vpos"), ⟨_, (.s (.s (.s (.s .z)))), ?_⟩⟩)⟩))))
  generalize number / 16 % late = dl at *
  generalize number / 100 % late = ot at *
  refine bk_cons (sk_if (et_lt (ek_n c.toCn (.s (.s (.s (.s .z)))) (⟨_, rfl, ek_int (⟨_, rfl, ⟨fun ht => ?_, fun ht => ?_⟩⟩)⟩))))
  · refine bk_one (sk_ret (ek_tup (ea_cons (ek_tup (ea_cons (ek_int (ea_cons (ek_tup (ea_nil (⟨(by walk_at "vlen"), ea_nil (⟨(by walk_at "vlen"), ea_nil (⟨(by walk_at "vlen"), ?_⟩)⟩)⟩))))))))))
    exact h1 [(1, [])] (goodF_mk (Nat.le_of_ble_eq_true rfl) fun x hx => by
      rw [List.mem_singleton.mp hx]
      exact ⟨by decide, hl1, g0⟩)
  refine bk_nil ?_
  refine bk_cons (sk_if (et_lt (ek_n c.toCn (.s (.s (.s (.s .z)))) (⟨_, rfl, ek_int (⟨_, rfl, ⟨fun ht => ?_, fun ht => ?_⟩⟩)⟩))))
  · refine bk_one (sk_ret (ek_tup (ea_nil (⟨(by walk_at "vlen"), ?_⟩))))
    exact h1 [] rfl
  refine bk_nil ?_
  refine bk_cons (sk_if (et_lt (ek_n c.toCn (.s (.s (.s (.s .z)))) (⟨_, rfl, ek_int (⟨_, rfl, ⟨fun ht => ?_, fun ht => ?_⟩⟩)⟩))))
  · refine bk_one (sk_ret (ek_tup (ea_cons (ek_tup (ea_cons (ek_n c.toCn (.s (.s .z)) (ea_cons (ek_tup (ea_nil (⟨(by walk_at "vlen"), ea_nil (⟨(by walk_at "vlen"), ea_nil (⟨(by walk_at "vlen"), ?_⟩)⟩)⟩))))))))))
    exact h1 [(1 + dl, [])] (goodF_mk (Nat.le_of_ble_eq_true rfl) fun x hx => by
      rw [List.mem_singleton.mp hx]
      exact ⟨by show (1 : Int) ≤ 1 + dl; omega, by show 1 + dl ≤ late; omega, g0⟩)
  refine bk_nil ?_
  refine bk_cons (sk_if (et_lt (ek_n c.toCn (.s (.s (.s (.s .z)))) (⟨_, rfl, ek_int (⟨_, rfl, ⟨fun ht => ?_, fun ht => ?_⟩⟩)⟩))))
  · refine bk_one (sk_ret (ek_tup (ea_cons (ek_tup (ea_cons (ek_n c.toCn (.s (.s .z)) (ea_cons (ek_tup (ea_nil (⟨(by walk_at "vlen"), ea_nil (⟨(by walk_at "vlen"), ea_cons (ek_tup (ea_cons (ek_n c.toCn (.s (.s (.s .z))) (ea_cons (ek_tup (ea_nil (⟨(by walk_at "vlen"), ea_nil (⟨(by walk_at "vlen"), ea_nil (⟨(by walk_at "vlen"), ?_⟩)⟩)⟩)))))))⟩)⟩))))))))))
    exact h1 [(1 + dl, []), (1 + ot, [])] (goodF_mk (Nat.le_of_ble_eq_true rfl) fun x hx => by
      simp only [List.mem_cons, List.not_mem_nil, or_false] at hx
      rcases hx with rfl | rfl
      · exact ⟨by show (1 : Int) ≤ 1 + dl; omega, by show 1 + dl ≤ late; omega, g0⟩
      · exact ⟨by show (1 : Int) ≤ 1 + ot; omega, by show 1 + ot ≤ late; omega, g0⟩)
  refine bk_nil ?_
  refine bk_cons (sk_if (et_eqI (ek_n c.toCn (.s (.s (.s (.s .z)))) (⟨_, rfl, ek_int (⟨_, rfl, ⟨fun ht => ?_, fun ht => ?_⟩⟩)⟩))))
  · have hmm : (3 : Nat) ≤ 4 := by decide
    obtain ⟨mm, emm⟩ : ∃ mm : Nat, mm = 3 := ⟨3, rfl⟩
    subst emm
    refine bk_one (sk_ret (ek_tup (ea_cons (ek_tup (ea_cons (ek_n c.toCn (.s (.s .z)) (ea_cons (ek_call c.tk G__law_turns (hr.mono (by first | decide | exact Nat.le_refl _)) (ea_cons (ek_n c.toCn .z (ea_cons (ek_int (ea_nil (⟨_, 3, rfl, hn, hmm, fun ts1 hl1 hg1 => ea_nil (⟨(by walk_at "vlen"), ea_cons (ek_tup (ea_cons (ek_n c.toCn (.s (.s (.s .z))) (ea_cons (ek_tup (ea_nil (⟨(by walk_at "vlen"), ea_nil (⟨(by walk_at "vlen"), ea_cons (ek_tup (ea_cons (ek_n c.toCn (.s (.s .z)) (ea_cons (ek_tup (ea_nil (⟨(by walk_at "vlen"), ea_nil (⟨(by walk_at "vlen"), ea_nil (⟨(by walk_at "vlen"), ?_⟩)⟩)⟩)))))))⟩)⟩)))))))⟩)⟩)))))) (c.toCn.gl)))))))))
    refine h1 [(1 + dl, _), (1 + ot, []), (1 + dl, [])] (goodF_mk (Nat.le_of_ble_eq_true rfl) fun x hx => ?_)
    simp only [List.mem_cons, List.not_mem_nil, or_false] at hx
    rcases hx with rfl | rfl | rfl
    · exact ⟨by show (1 : Int) ≤ 1 + dl; omega, by show 1 + dl ≤ late; omega, by assumption⟩
    · exact ⟨by show (1 : Int) ≤ 1 + ot; omega, by show 1 + ot ≤ late; omega, g0⟩
    · exact ⟨by show (1 : Int) ≤ 1 + dl; omega, by show 1 + dl ≤ late; omega, g0⟩
  refine bk_nil ?_
  refine bk_cons (sk_if (et_lt (ek_n c.toCn (.s (.s (.s (.s .z)))) (⟨_, rfl, ek_int (⟨_, rfl, ⟨fun ht => ?_, fun ht => ?_⟩⟩)⟩))))
  · obtain ⟨mm, hmm, hmm2⟩ : ∃ mm : Nat, mm ≤ 4 ∧ 1 + number / 16 % 2 = (mm : Int) := ⟨(1 + number / 16 % 2).toNat, by omega, by omega⟩
    refine bk_one (sk_ret (ek_tup (ea_cons (ek_tup (ea_cons (ek_n c.toCn (.s (.s .z)) (ea_cons (ek_call c.tk G__law_turns (hr.mono (by first | decide | exact Nat.le_refl _)) (ea_cons (ek_n c.toCn .z (ea_cons (ek_add (ek_int (⟨_, rfl, ek_mod (ek_fdiv (ek_n c.toCn .z (⟨_, rfl, ek_int (⟨_, rfl, (by walk_at "vdiv"), ⟨_, rfl, ek_int (⟨_, rfl, (by walk_at "vpos"), ⟨_, rfl, ea_nil (⟨_, mm, (by rw [hmm2]), hn, hmm, fun ts2 hl2 hg2 => ea_nil (⟨(by walk_at "vlen"), ea_nil (⟨(by walk_at "vlen"), ?_⟩)⟩)⟩)⟩⟩)⟩⟩)⟩)))⟩)))))) (c.toCn.gl)))))))))
    exact h1 [(1 + dl, _)] (goodF_mk (Nat.le_of_ble_eq_true rfl) fun x hx => by
      rw [List.mem_singleton.mp hx]
      exact ⟨by show (1 : Int) ≤ 1 + dl; omega, by show 1 + dl ≤ late; omega, by assumption⟩)
  refine bk_nil ?_
  obtain ⟨mm, hmm, hmm2⟩ : ∃ mm : Nat, mm ≤ 4 ∧ 3 + number / 16 % 2 = (mm : Int) := ⟨(3 + number / 16 % 2).toNat, by omega, by omega⟩
  refine bk_one (sk_ret (ek_tup (ea_cons (ek_tup (ea_cons (ek_n c.toCn (.s (.s .z)) (ea_cons (ek_call c.tk G__law_turns (hr.mono (by first | decide | exact Nat.le_refl _)) (ea_cons (ek_n c.toCn .z (ea_cons (ek_add (ek_int (⟨_, rfl, ek_mod (ek_fdiv (ek_n c.toCn .z (⟨_, rfl, ek_int (⟨_, rfl, (by walk_at "vdiv"), ⟨_, rfl, ek_int (⟨_, rfl, (by walk_at "vpos"), ⟨_, rfl, ea_nil (⟨_, mm, (by rw [hmm2]), hn, hmm, fun ts3 hl3 hg3 => ea_nil (⟨(by walk_at "vlen"), ea_nil (⟨(by walk_at "vlen"), ?_⟩)⟩)⟩)⟩⟩)⟩⟩)⟩)))⟩)))))) (c.toCn.gl)))))))))
  exact h1 [(1 + dl, _)] (goodF_mk (Nat.le_of_ble_eq_true rfl) fun x hx => by
    rw [List.mem_singleton.mp hx]
    exact ⟨by show (1 : Int) ≤ 1 + dl; omega, by show 1 + dl ≤ late; omega, by assumption⟩)
end
end K34


set_option Elab.async false
set_option linter.all false
set_option maxRecDepth 100000
set_option maxHeartbeats 4000000
set_option pp.deepTerms.threshold 16
namespace K34
open PySem PySem.Spec PyProof.Rows L2 Vs
/-! ### what is on the way: rows of each tick -/
abbrev Rw := List Int × Bool × Option (Int × Int)
abbrev CmM := List (Addr × List Rw)
def tcell (xs : List Int) (ts : List (Int × Int)) : List Int := (ts.map fun t => (t.1.toNat, t.2)).foldl add1 xs
def addAt (M : CmM) (n : Nat) (r : Rw) : CmM := match M[n]? with
  | some m => M.set n (m.1, m.2 ++ [r])
  | none => M
def rowOf (xs : List Int) (b : Option (Int × Int)) (x : Int × List (Int × Int)) : Rw := (tcell xs x.2, decide (x.2.length < 3), b)
def giveM (M : CmM) (xs : List Int) (tick : Nat) (f : FT) (b : Option (Int × Int)) : CmM := f.foldl (fun M x => addAt M (tick + x.1.toNat) (rowOf xs b x)) M
theorem addAt_len {M : CmM} {n : Nat} {r : Rw} : (addAt M n r).length = M.length := by
  unfold addAt
  split
  · exact List.length_set
  · rfl
theorem addAt_fst {M : CmM} {n : Nat} {r : Rw} : (addAt M n r).map (·.1) = M.map (·.1) := by
  unfold addAt
  split
  · rename_i m hm
    rw [List.map_set]
    refine List.ext_getElem? fun j => ?_
    rw [List.getElem?_set]
    split
    · rename_i h
      subst h
      obtain ⟨hl, e⟩ := List.getElem?_eq_some_iff.mp hm
      rw [if_pos (by rw [List.length_map]; exact hl), List.getElem?_map, hm]
      rfl
    · rfl
  · rfl
/-- the rows of a tick -/
def rowsAt (M : CmM) (k : Nat) : List Rw := (M[k]?.map (·.2)).getD []
theorem addAt_rows {M : CmM} {n k : Nat} {r : Rw} (h : n < M.length) : rowsAt (addAt M n r) k = if n = k then rowsAt M k ++ [r] else rowsAt M k := by
  unfold addAt
  obtain ⟨m, hm⟩ : ∃ m, M[n]? = some m := ⟨_, List.getElem?_eq_getElem h⟩
  rw [hm]
  unfold rowsAt
  dsimp only
  rw [List.getElem?_set]
  by_cases z : n = k
  · subst z
    rw [if_pos rfl, if_pos rfl, if_pos h, hm]
    rfl
  · rw [if_neg z, if_neg z]
theorem giveM_len {xs : List Int} {tick : Nat} {b : Option (Int × Int)} : ∀ {f : FT} {M : CmM}, (giveM M xs tick f b).length = M.length
  | [], _ => rfl
  | x :: f, M => (giveM_len (f := f) (M := addAt M (tick + x.1.toNat) (rowOf xs b x))).trans addAt_len
theorem giveM_fst {xs : List Int} {tick : Nat} {b : Option (Int × Int)} : ∀ {f : FT} {M : CmM}, (giveM M xs tick f b).map (·.1) = M.map (·.1)
  | [], _ => rfl
  | x :: f, M => (giveM_fst (f := f) (M := addAt M (tick + x.1.toNat) (rowOf xs b x))).trans addAt_fst
theorem giveM_rows {xs : List Int} {tick : Nat} {b : Option (Int × Int)} : ∀ {f : FT} {M : CmM} {k : Nat}, (∀ x ∈ f, tick + x.1.toNat < M.length) → rowsAt (giveM M xs tick f b) k = rowsAt M k ++ (f.filter fun x => decide (tick + x.1.toNat = k)).map (rowOf xs b)
  | [], M, k, _ => (List.append_nil _).symm
  | x :: f, M, k, h => by
    have h1 := h x List.mem_cons_self
    have ih := giveM_rows (xs := xs) (tick := tick) (b := b) (f := f) (M := addAt M (tick + x.1.toNat) (rowOf xs b x)) (k := k) fun y hy => by
      rw [addAt_len]
      exact h y (List.mem_cons_of_mem _ hy)
    rw [show giveM M xs tick (x :: f) b = giveM (addAt M (tick + x.1.toNat) (rowOf xs b x)) xs tick f b from rfl, ih, addAt_rows h1, List.filter_cons]
    by_cases z : tick + x.1.toNat = k
    · rw [if_pos z, if_pos (by simpa using z), List.map_cons, List.append_assoc]
      rfl
    · rw [if_neg z, if_neg (by simpa using z)]
theorem tcell_okc {xs : List Int} {ts : List (Int × Int)} (h : okc 24 xs) : okc 24 (tcell xs ts) := add_okc h
/-- a turned cell is mended where two signs at most are turned, and else not -/
theorem tcell_md {xs : List Int} {ts : List (Int × Int)} (hx : okc 24 xs) (hs : sld xs) (hg : goodT ts = true) : mdF (tcell xs ts) = if ts.length < 3 then some xs else none := by
  obtain ⟨h1, h4⟩ := goodT_tns hg
  have hm := mdF_ok (tcell xs ts)
  by_cases z : ts.length < 3
  · rw [if_pos z]
    obtain ⟨f1, f2⟩ := md_few (ts := ts.map fun t => (t.1.toNat, t.2)) hx hs (by rw [List.length_map]; omega)
    cases e : mdF (tcell xs ts) with
    | none =>
      rw [e] at hm
      exact absurd hm f1
    | some ys =>
      rw [e] at hm
      rw [f2 ys hm]
  · rw [if_neg z]
    cases e : mdF (tcell xs ts) with
    | none => rfl
    | some ys =>
      rw [e] at hm
      exact absurd hm (md_many hx hs h1 (by rw [List.length_map]; omega) (by rw [List.length_map]; omega))
theorem sld_celOf {xs : List Int} (h : okc 18 xs) : sld (celOf xs) := fun m h1 h2 => by
  have hl : xs.length = 18 := by have := h.1; omega
  have := celOf_sums hl ⟨m - 1, by omega⟩
  rw [show (m - 1) + 1 = m by omega] at this
  exact this
/-! the cell of an end -/
theorem dg2_val {n : Int} (h : 0 ≤ n ∧ n < 9409) : val (dg 2 n).reverse = n := by
  show lv (dg 2 n).reverse.reverse = n
  rw [List.reverse_reverse]
  show ((0 : Int) * 97 + n / 97 % 97) * 97 + n % 97 = n
  omega
theorem sn_split (s : LS) : ∃ t, celOf (signsNow s) = (dg 2 s.own).reverse ++ ((dg 2 s.oth).reverse ++ (ownN s :: ownC s :: (((ownP s).headD []).length : Int) :: ((ownP s).headD [] ++ t))) := by
  refine ⟨List.replicate (11 - ((ownP s).headD []).length) 0 ++ (List.range 6).map fun k => (ckv (signsNow s) k).sum % 97, ?_⟩
  show signsNow s ++ _ = _
  generalize (List.range 6).map (fun k => (ckv (signsNow s) k).sum % 97) = t
  unfold signsNow
  simp only [List.append_assoc, List.cons_append, List.nil_append]
theorem parts22 {A B C : List Int} (ha : A.length = 2) (hb : B.length = 2) : (A ++ (B ++ C)).take 2 = A ∧ ((A ++ (B ++ C)).drop 2).take 2 = B ∧ (A ++ (B ++ C)).drop 4 = C := by
  match A, B, ha, hb with
  | [_, _], [_, _], _, _ => exact ⟨rfl, rfl, rfl⟩
theorem rdg2 {n : Int} : (dg 2 n).reverse.length = 2 := by rw [List.length_reverse, dg_len]
theorem sn_births {s : LS} (h : LOk s) : val ((celOf (signsNow s)).take 2) = s.own ∧ val (((celOf (signsNow s)).drop 2).take 2) = s.oth := by
  obtain ⟨t, ht⟩ := sn_split s
  obtain ⟨h1, h2, _⟩ := parts22 (A := (dg 2 s.own).reverse) (B := (dg 2 s.oth).reverse) (C := ownN s :: ownC s :: (((ownP s).headD []).length : Int) :: ((ownP s).headD [] ++ t)) rdg2 rdg2
  rw [ht, h1, h2]
  exact ⟨dg2_val h.own, dg2_val h.oth⟩
theorem sn_rest (s : LS) : ∃ t, (celOf (signsNow s)).drop 4 = ownN s :: ownC s :: (((ownP s).headD []).length : Int) :: ((ownP s).headD [] ++ t) := by
  obtain ⟨t, ht⟩ := sn_split s
  refine ⟨t, ?_⟩
  rw [ht]
  exact (parts22 rdg2 rdg2).2.2
/-! ### what an end hears: the states in which the other one gave -/
def hearU (s u : LS) : LS := readBirths { s with heard := s.now } (celOf (signsNow u))
abbrev Gv := List (LS × FT)
def atT (f : FT) (t k : Nat) : FT := f.filter fun x => decide (t + x.1.toNat = k)
def arrR (G : Gv) (k : Nat) : List Rw := (List.range G.length).flatMap fun t => match G[t]? with
  | some g => (atT g.2 t k).map (rowOf (celOf (signsNow g.1)) none)
  | none => []
/-- the states in which the fit cells of a tick were given -/
def arrU (G : Gv) (k : Nat) : List LS := (List.range G.length).flatMap fun t => match G[t]? with
  | some g => ((atT g.2 t k).filter fun x => decide (x.2.length < 3)).map fun _ => g.1
  | none => []
theorem arrR_snoc {G : Gv} {g : LS × FT} {k : Nat} : arrR (G ++ [g]) k = arrR G k ++ (atT g.2 G.length k).map (rowOf (celOf (signsNow g.1)) none) := by
  unfold arrR
  rw [List.length_append, List.length_singleton, List.range_succ, List.flatMap_append, List.flatMap_singleton, List.getElem?_append_right (Nat.le_refl _), Nat.sub_self]
  congr 1
  refine congrArg List.flatten (List.map_congr_left fun t ht => ?_)
  rw [List.getElem?_append_left (List.mem_range.mp ht)]
theorem arrU_snoc {G : Gv} {g : LS × FT} {k : Nat} : arrU (G ++ [g]) k = arrU G k ++ ((atT g.2 G.length k).filter fun x => decide (x.2.length < 3)).map fun _ => g.1 := by
  unfold arrU
  rw [List.length_append, List.length_singleton, List.range_succ, List.flatMap_append, List.flatMap_singleton, List.getElem?_append_right (Nat.le_refl _), Nat.sub_self]
  congr 1
  refine congrArg List.flatten (List.map_congr_left fun t ht => ?_)
  rw [List.getElem?_append_left (List.mem_range.mp ht)]
theorem mem_arrU {G : Gv} {k : Nat} {u : LS} (h : u ∈ arrU G k) : ∃ t f x, G[t]? = some (u, f) ∧ x ∈ f ∧ t + x.1.toNat = k ∧ x.2.length < 3 := by
  unfold arrU at h
  obtain ⟨t, _, h2⟩ := List.mem_flatMap.mp h
  cases hg : G[t]? with
  | none => rw [hg] at h2; cases h2
  | some g =>
    rw [hg] at h2
    obtain ⟨x, hx, rfl⟩ := List.mem_map.mp h2
    obtain ⟨h3, h4⟩ := List.mem_filter.mp hx
    obtain ⟨h5, h6⟩ := List.mem_filter.mp h3
    exact ⟨t, g.2, x, hg, h5, of_decide_eq_true h6, of_decide_eq_true h4⟩
theorem arrU_mem {G : Gv} {k t : Nat} {u : LS} {f : FT} {x : Int × List (Int × Int)} (h : G[t]? = some (u, f)) (hx : x ∈ f) (hk : t + x.1.toNat = k) (hl : x.2.length < 3) : u ∈ arrU G k := by
  unfold arrU
  refine List.mem_flatMap.mpr ⟨t, List.mem_range.mpr (List.getElem?_eq_some_iff.mp h).1, ?_⟩
  rw [h]
  exact List.mem_map.mpr ⟨x, List.mem_filter.mpr ⟨List.mem_filter.mpr ⟨hx, decide_eq_true hk⟩, decide_eq_true hl⟩, rfl⟩
/-- good gives -/
def GvOk (G : Gv) : Prop := ∀ g ∈ G, LOk g.1 ∧ goodF 6 g.2 = true
theorem goodF_x {late : Int} {f : FT} (h : goodF late f = true) {x : Int × List (Int × Int)} (hx : x ∈ f) : 1 ≤ x.1 ∧ x.1 ≤ late ∧ goodT x.2 = true := by
  unfold goodF at h
  simp only [Bool.and_eq_true, decide_eq_true_eq, List.all_eq_true] at h
  have := h.2 x hx
  unfold goodX at this
  simp only [Bool.and_eq_true, decide_eq_true_eq] at this
  exact ⟨this.1.1, this.1.2, this.2⟩
theorem goodF_len {late : Int} {f : FT} (h : goodF late f = true) : f.length ≤ 3 := by
  unfold goodF at h
  simp only [Bool.and_eq_true, decide_eq_true_eq] at h
  exact h.1
theorem goodF_up {late late' : Int} {f : FT} (h : goodF late f = true) (hl : late ≤ late') : goodF late' f = true := by
  unfold goodF at h ⊢
  rw [Bool.and_eq_true, List.all_eq_true] at h ⊢
  refine ⟨h.1, fun x hx => ?_⟩
  have h5 := h.2 x hx
  unfold goodX at h5 ⊢
  simp only [Bool.and_eq_true, decide_eq_true_eq] at h5 ⊢
  exact ⟨⟨h5.1.1, by omega⟩, h5.2⟩
theorem take_row {s u : LS} {x : Int × List (Int × Int)} (hu : LOk u) (hg : goodT x.2 = true) : takeCell s (rowOf (celOf (signsNow u)) none x).1 = if x.2.length < 3 then hearU s u else s := by
  have h18 := signsNow_ok hu
  have hm := tcell_md (ts := x.2) (okc_celOf h18) (sld_celOf h18) hg
  show takeCell s (tcell (celOf (signsNow u)) x.2) = _
  unfold takeCell
  rw [hm]
  by_cases z : x.2.length < 3
  · rw [if_pos z, if_pos z]
    rfl
  · rw [if_neg z, if_neg z]
theorem fold_part {u : LS} (hu : LOk u) : ∀ {f : FT} {s : LS}, (∀ x ∈ f, goodT x.2 = true) → ((f.map (rowOf (celOf (signsNow u)) none)).map (·.1)).foldl takeCell s = ((f.filter fun x => decide (x.2.length < 3)).map fun _ => u).foldl hearU s
  | [], _, _ => rfl
  | x :: f, s, h => by
    have h1 := take_row (s := s) hu (h x List.mem_cons_self)
    have ih := fun s' => fold_part hu (f := f) (s := s') fun y hy => h y (List.mem_cons_of_mem _ hy)
    rw [List.map_cons, List.map_cons, List.foldl_cons, h1, ih, List.filter_cons]
    by_cases z : x.2.length < 3
    · rw [if_pos z, if_pos (decide_eq_true z)]
      rfl
    · rw [if_neg z, if_neg (by simpa using z)]
theorem fold_arr : ∀ (n : Nat) {G : Gv} {s : LS} {k : Nat}, G.length = n → GvOk G → ((arrR G k).map (·.1)).foldl takeCell s = (arrU G k).foldl hearU s
  | 0, G, s, k, hn, h => by
    have : G = [] := List.eq_nil_of_length_eq_zero hn
    subst this
    rfl
  | n + 1, G, s, k, hn, h => by
    obtain ⟨G', g, rfl⟩ : ∃ G' g, G = G' ++ [g] := by
      refine ⟨G.dropLast, G.getLast (fun z => by rw [z] at hn; cases hn), (List.dropLast_concat_getLast _).symm⟩
    rw [List.length_append, List.length_singleton] at hn
    have hg := h g (List.mem_append_right _ List.mem_cons_self)
    rw [arrR_snoc, arrU_snoc, List.map_append, List.foldl_append, List.foldl_append, fold_arr n (by omega) (fun x hx => h x (List.mem_append_left _ hx))]
    exact fold_part hg.1 fun x hx => (goodF_x hg.2 (List.mem_filter.mp hx).1).2.2
def tickU (s : LS) (us : List LS) : LS := silenced (us.foldl hearU { s with now := s.now + 1 })
theorem tick_arr {G : Gv} {s : LS} {k : Nat} (h : GvOk G) : tickF s ((arrR G k).map (·.1)) = tickU s (arrU G k) := by
  unfold tickF tickU takeAll
  rw [fold_arr _ rfl h]
/-! one thing heard -/
def tookU (s : LS) (n : Int) (p : List Int) : LS := if 0 < p.length ∧ n = s.cnt % 97 then { s with cnt := s.cnt + 1, evs := s.evs ++ [.took p] } else s
def pcU (u : LS) : List Int := (ownP u).headD []
def readU (s u : LS) : LS := readKnown (tookU s (ownN u) (pcU u)) (ownC u)
def atU (s u : LS) : LS := withOth (anewIf { s with heard := s.now } u.own) u.own
theorem atU_own {s u : LS} : (atU s u).own = s.own := by
  show (anewIf { s with heard := s.now } u.own).own = s.own
  unfold anewIf
  split
  · exact own_anew.1
  · rfl
theorem hearU_eq {s u : LS} (hu : LOk u) : hearU s u = if u.own < s.oth then { s with heard := s.now } else if u.oth = s.own then readU (upNow (atU s u)) u else atU s u := by
  obtain ⟨b1, b2⟩ := sn_births hu
  obtain ⟨z, hz⟩ := sn_rest u
  unfold hearU readBirths
  rw [b1, b2, hz]
  by_cases h : u.own < s.oth
  · rw [if_pos (show u.own < ({ s with heard := s.now } : LS).oth from h), if_pos h]
  · rw [if_neg (show ¬ u.own < ({ s with heard := s.now } : LS).oth from h), if_neg h]
    have e1 : (withOth (anewIf { s with heard := s.now } u.own) u.own).own = s.own := atU_own
    rw [e1]
    split
    · show readKnown (readTook _ _ _ _) _ = readKnown (tookU _ _ _) _
      congr 1
      unfold readTook tookU pcU
      have e2 : ((ownP u).headD [] ++ z).take (((ownP u).headD []).length : Int).toNat = (ownP u).headD [] := by
        rw [Int.toNat_natCast, List.take_left']
        rfl
      rw [e2]
      congr 1
      simp only [eq_iff_iff, Int.natCast_pos]
      rfl
    · rfl
/-! events that fit -/
inductive Vld : Option (Int × Int) → List Ev → Option (Int × Int) → Prop
  | nil {p : Option (Int × Int)} : Vld p [] p
  | up {q : Int × Int} {es : List Ev} {r : Option (Int × Int)} : Vld (some q) es r → Vld none (.up q :: es) r
  | took {q : Int × Int} {xs : List Int} {es : List Ev} {r : Option (Int × Int)} : Vld (some q) es r → Vld (some q) (.took xs :: es) r
  | anew {q : Int × Int} {es : List Ev} {r : Option (Int × Int)} : Vld none es r → Vld (some q) (.anew q :: es) r
  | silent {q : Int × Int} {a b : Int} {es : List Ev} {r : Option (Int × Int)} : Vld none es r → Vld (some q) (.silent q a b :: es) r
theorem Vld.app {p q r : Option (Int × Int)} {es fs : List Ev} (h : Vld p es q) (h2 : Vld q fs r) : Vld p (es ++ fs) r := by
  induction h with
  | nil => exact h2
  | up _ ih => exact .up (ih h2)
  | took _ ih => exact .took (ih h2)
  | anew _ ih => exact .anew (ih h2)
  | silent _ ih => exact .silent (ih h2)
def isSil : Ev → Bool
  | .silent _ _ _ => true
  | _ => false
def isUp : Ev → Bool
  | .up _ => true
  | _ => false
def isTook : Ev → Bool
  | .took _ => true
  | _ => false
/-- what hearing one cell does -/
structure Hr (s u s' : LS) (new : List Ev) : Prop where
  own : s'.own = s.own
  now : s'.now = s.now
  quiet : s'.quiet = s.quiet
  side : s'.side = s.side
  heard : s'.heard = s.now
  oth : s'.oth = if u.own < s.oth then s.oth else u.own
  evs : s'.evs = s.evs ++ new
  vld : Vld s.pair new s'.pair
  nosil : ∀ e ∈ new, isSil e = false
  noup : u.oth ≠ s.own → ∀ e ∈ new, isUp e = false
  pair : (s'.pair = s.pair ∧ (s.pair = none ∨ u.own ≤ s.oth)) ∨ (s'.pair = none ∧ s.oth < u.own) ∨ (s'.pair = some (prS s') ∧ u.oth = s.own ∧ s.oth ≤ u.own ∧ s'.oth = u.own)
  left : s.left = [] → s'.left = []
  len : new.length ≤ 3
theorem known_same {s : LS} {c : Int} : (readKnown s c).own = s.own ∧ (readKnown s c).now = s.now ∧ (readKnown s c).quiet = s.quiet ∧ (readKnown s c).side = s.side ∧ (readKnown s c).heard = s.heard ∧ (readKnown s c).oth = s.oth ∧ (readKnown s c).evs = s.evs ∧ (readKnown s c).pair = s.pair ∧ (s.left = [] → (readKnown s c).left = []) := by
  unfold readKnown
  split
  · refine ⟨rfl, rfl, rfl, rfl, rfl, rfl, rfl, rfl, fun h => ?_⟩
    show s.left.tail = []
    rw [h]
    rfl
  · exact ⟨rfl, rfl, rfl, rfl, rfl, rfl, rfl, rfl, id⟩
theorem took_same {s : LS} {n : Int} {p : List Int} (hp : s.pair ≠ none) : ∃ new, (tookU s n p).own = s.own ∧ (tookU s n p).now = s.now ∧ (tookU s n p).quiet = s.quiet ∧ (tookU s n p).side = s.side ∧ (tookU s n p).heard = s.heard ∧ (tookU s n p).oth = s.oth ∧ (tookU s n p).evs = s.evs ++ new ∧ (tookU s n p).pair = s.pair ∧ (tookU s n p).left = s.left ∧ Vld s.pair new s.pair ∧ (∀ e ∈ new, isSil e = false ∧ isUp e = false) ∧ new.length ≤ 1 := by
  unfold tookU
  split
  · refine ⟨[.took p], rfl, rfl, rfl, rfl, rfl, rfl, rfl, rfl, rfl, ?_, fun e he => ?_, Nat.le_refl _⟩
    · cases hs : s.pair with
      | none => exact absurd hs hp
      | some q => exact .took .nil
    · rw [List.mem_singleton.mp he]
      exact ⟨rfl, rfl⟩
  · exact ⟨[], rfl, rfl, rfl, rfl, rfl, rfl, (List.append_nil _).symm, rfl, rfl, .nil, fun e he => (by cases he), Nat.zero_le _⟩
theorem hr_of {s u : LS} (hu : LOk u) : ∃ new, Hr s u (hearU s u) new := by
  rw [hearU_eq hu]
  by_cases h : u.own < s.oth
  · rw [if_pos h]
    exact ⟨[], rfl, rfl, rfl, rfl, rfl, (if_pos h).symm, (List.append_nil _).symm, .nil, fun e he => (by cases he), fun _ e he => (by cases he), .inl ⟨rfl, .inr (by omega)⟩, id, Nat.zero_le _⟩
  · rw [if_neg h]
    have eo : (if u.own < s.oth then s.oth else u.own) = u.own := if_neg h
    -- the state at the birth told
    obtain ⟨n0, a1, a2, a3, a4, a5, a6, a7, a8, a9, a10, a11, a12⟩ : ∃ new, (atU s u).own = s.own ∧ (atU s u).now = s.now ∧ (atU s u).quiet = s.quiet ∧ (atU s u).side = s.side ∧ (atU s u).heard = s.now ∧ (atU s u).oth = u.own ∧ (atU s u).evs = s.evs ++ new ∧ Vld s.pair new (atU s u).pair ∧ (∀ e ∈ new, isSil e = false ∧ isUp e = false) ∧ (((atU s u).pair = s.pair ∧ (s.pair = none ∨ u.own ≤ s.oth)) ∨ ((atU s u).pair = none ∧ s.oth < u.own)) ∧ (s.left = [] → (atU s u).left = []) ∧ new.length ≤ 1 := by
      unfold atU anewIf
      by_cases h2 : s.oth < u.own
      · rw [if_pos (show ({ s with heard := s.now } : LS).oth < u.own from h2)]
        unfold toldAnew
        cases hp : s.pair with
        | none =>
          dsimp only
          exact ⟨[], rfl, rfl, rfl, rfl, rfl, rfl, (List.append_nil _).symm, .nil, fun e he => (by cases he), .inr ⟨rfl, h2⟩, id, Nat.zero_le _⟩
        | some q =>
          dsimp only
          refine ⟨[.anew q], rfl, rfl, rfl, rfl, rfl, rfl, rfl, .anew .nil, fun e he => ?_, .inr ⟨rfl, h2⟩, fun _ => rfl, Nat.le_refl _⟩
          rw [List.mem_singleton.mp he]
          exact ⟨rfl, rfl⟩
      · rw [if_neg (show ¬ ({ s with heard := s.now } : LS).oth < u.own from h2)]
        exact ⟨[], rfl, rfl, rfl, rfl, rfl, rfl, (List.append_nil _).symm, .nil, fun e he => (by cases he), .inl ⟨rfl, .inr (by omega)⟩, id, Nat.zero_le _⟩
    by_cases h3 : u.oth = s.own
    · rw [if_pos h3]
      obtain ⟨n1, b1, b2, b3, b4, b5, b6, b7, b8, b9, b10, b11, b12⟩ : ∃ new, (upNow (atU s u)).own = s.own ∧ (upNow (atU s u)).now = s.now ∧ (upNow (atU s u)).quiet = s.quiet ∧ (upNow (atU s u)).side = s.side ∧ (upNow (atU s u)).heard = s.now ∧ (upNow (atU s u)).oth = u.own ∧ (upNow (atU s u)).evs = (atU s u).evs ++ new ∧ Vld (atU s u).pair new (upNow (atU s u)).pair ∧ (∀ e ∈ new, isSil e = false) ∧ ((atU s u).pair = none → (upNow (atU s u)).pair = some (prS (atU s u))) ∧ ((atU s u).pair ≠ none → upNow (atU s u) = atU s u) ∧ new.length ≤ 1 := by
        unfold upNow
        cases hp : (atU s u).pair with
        | some q => exact ⟨[], a1, a2, a3, a4, a5, a6, (List.append_nil _).symm, by rw [hp]; exact .nil, fun e he => (by cases he), fun z => (by cases z), fun _ => rfl, Nat.zero_le _⟩
        | none =>
          refine ⟨[.up (prS (atU s u))], a1, a2, a3, a4, a5, a6, rfl, .up .nil, fun e he => ?_, fun _ => rfl, fun z => absurd rfl z, Nat.le_refl _⟩
          rw [List.mem_singleton.mp he]
          rfl
      have hup : (upNow (atU s u)).pair ≠ none := by
        unfold upNow
        cases hp : (atU s u).pair with
        | some q => dsimp only; rw [hp]; exact fun z => (by cases z)
        | none => exact fun z => by cases z
      obtain ⟨n2, c1, c2, c3, c4, c5, c6, c7, c8, c9, c10, c11, c12⟩ := took_same (n := ownN u) (p := pcU u) hup
      obtain ⟨d1, d2, d3, d4, d5, d6, d7, d8, d9⟩ := known_same (s := tookU (upNow (atU s u)) (ownN u) (pcU u)) (c := ownC u)
      have hl : s.left = [] → (upNow (atU s u)).left = [] := fun z => by
        unfold upNow
        split
        · exact a11 z
        · rfl
      have epr : ∀ t : LS, t.own = s.own → t.oth = u.own → t.side = s.side → prS t = prS (atU s u) := fun t h1 h2 h3 => by
        unfold prS
        rw [h1, h2, h3, a1, a4, a6]
      refine ⟨n0 ++ (n1 ++ n2), d1.trans (c1.trans b1), d2.trans (c2.trans b2), d3.trans (c3.trans b3), d4.trans (c4.trans b4), d5.trans (c5.trans b5), ?_, ?_, ?_, ?_, fun z => absurd h3 z, ?_, fun z => d9 (c9.trans (hl z)), ?_⟩
      · rw [eo]
        exact d6.trans (c6.trans b6)
      · unfold readU
        rw [d7, c7, b7, a7, List.append_assoc, List.append_assoc]
      · unfold readU
        rw [d8, c8]
        exact a8.app (b8.app c10)
      · intro e he
        rcases List.mem_append.mp he with he | he
        · exact (a9 e he).1
        · rcases List.mem_append.mp he with he | he
          · exact b9 e he
          · exact (c11 e he).1
      · have e1 : (readU (upNow (atU s u)) u).pair = (upNow (atU s u)).pair := d8.trans c8
        rw [e1]
        cases hp : (atU s u).pair with
        | none =>
          refine .inr (.inr ⟨?_, h3, by omega, d6.trans (c6.trans b6)⟩)
          rw [b10 hp, epr (readU (upNow (atU s u)) u) (d1.trans (c1.trans b1)) (d6.trans (c6.trans b6)) (d4.trans (c4.trans b4))]
        | some q =>
          have e2 := b11 (by rw [hp]; exact fun z => (by cases z))
          rw [e2, hp]
          rcases a10 with a | a
          · rw [hp] at a
            exact .inl a
          · rw [hp] at a
            cases a.1
      · rw [List.length_append, List.length_append]
        omega
    · rw [if_neg h3]
      refine ⟨n0, a1, a2, a3, a4, a5, by rw [eo]; exact a6, a7, a8, fun e he => (a9 e he).1, fun _ e he => (a9 e he).2, ?_, a11, by omega⟩
      rcases a10 with a | a
      · exact .inl a
      · exact .inr (.inl a)
end K34


set_option Elab.async false
set_option linter.all false
set_option maxRecDepth 100000
set_option maxHeartbeats 4000000
set_option pp.deepTerms.threshold 16
namespace K34
open PySem PySem.Spec PyProof.Rows L2 Vs
local macro_rules | `(tactic| walk_at "vpos") => `(tactic| first | decide | omega)
local macro_rules | `(tactic| walk_at "vdiv") => `(tactic| first | exact ⟨by decide, by decide⟩ | (constructor <;> omega))
local macro_rules | `(tactic| walk_at "vpow") => `(tactic| exact ⟨by decide, by decide, by decide⟩)
local macro_rules | `(tactic| walk_at "vmul") => `(tactic| first | exact mulL ⟨by decide, by decide⟩ | exact mulR ⟨by decide, by decide⟩ | exact mulL (by constructor <;> omega) | exact mulR (by constructor <;> omega))
local macro_rules | `(tactic| walk_at "vlen") => `(tactic| first | exact sz_ok (Nat.le_of_ble_eq_true rfl) | exact sz_lt (Nat.le_of_ble_eq_true rfl) | (refine sz_ok ?_; simp only [List.length_append, List.length_cons, List.length_nil, List.length_map]; omega) | (refine sz_lt ?_; simp only [List.length_append, List.length_cons, List.length_nil, List.length_map]; omega))
local macro_rules | `(tactic| walk_at "vrng") => `(tactic| (refine ⟨?_, ?_⟩ <;> omega))
local macro_rules | `(tactic| walk_at "vix") => `(tactic| rfl)
local macro_rules | `(tactic| walk_at "vixn") => `(tactic| first | rfl | exact ixN_at (by omega) (by omega))
local macro_rules | `(tactic| walk_at "vkb") => `(tactic| decide +kernel)
local macro_rules | `(tactic| walk_at "vty") => `(tactic| first | exact .int | exact .bl | exact .lst | exact .str | exact .tup | exact .non | exact .own .z | exact tyd_as (by assumption))
local macro_rules | `(tactic| walk_at "vkit") => `(tactic| assumption)
local macro_rules | `(tactic| walk_at "vrep") => `(tactic| (refine ⟨by omega, by omega, ?_⟩; first | decide | (refine sz_ok ?_; simp only [List.length_cons, List.length_nil]; omega)))
section
variable {X : Cx} {F0 : Hp}
/-! ### rows on the way: the walk -/
def rwD (r : Rw) : D := .tup [.lst (dI r.1), .bl r.2.1, pairD r.2.2]
def rwL (rs : List Rw) : List D := rs.map rwD
def cmL (M : CmM) : Lg := M.map fun m => (m.1, C.lst (rwL m.2))
def rf (M : CmM) : List D := M.map fun m => D.ref m.1
theorem rwL_len {rs : List Rw} : (rwL rs).length = rs.length := List.length_map ..
theorem rf_len {M : CmM} : (rf M).length = M.length := List.length_map ..
theorem rf_fst {M : CmM} : rf M = (M.map (·.1)).map D.ref := by
  unfold rf
  rw [List.map_map]
  rfl
theorem rf_give {M : CmM} {xs : List Int} {tick : Nat} {f : FT} {b : Option (Int × Int)} : rf (giveM M xs tick f b) = rf M := by rw [rf_fst, rf_fst, giveM_fst]
theorem rf_addAt {M : CmM} {n : Nat} {r : Rw} : rf (addAt M n r) = rf M := by rw [rf_fst, rf_fst, addAt_fst]
theorem get_of {α : Type} {x : α} : ∀ {xs : List α} {n : Nat}, xs[n]? = some x → Get xs n x
  | [], _, h => by simp at h
  | y :: _, 0, h => by
    have : y = x := by simpa using h
    subst this
    exact .z
  | _ :: _, n + 1, h => .s (get_of (by simpa using h))
theorem get_pre {α : Type} {x : α} {B : List α} {j : Nat} (h : Get B j x) : ∀ {A : List α}, Get (A ++ B) (A.length + j) x
  | [] => by rw [List.length_nil, Nat.zero_add]; exact h
  | _ :: A => by rw [List.length_cons, Nat.succ_add]; exact .s (get_pre h (A := A))
theorem set_pre {α : Type} {y : α} {B : List α} {j : Nat} : ∀ {A : List α}, (A ++ B).set (A.length + j) y = A ++ B.set j y
  | [] => by rw [List.length_nil, Nat.zero_add]; rfl
  | a :: A => by
    rw [List.length_cons, Nat.succ_add]
    exact congrArg (a :: ·) (set_pre (A := A))
theorem cm_get {M : CmM} {n : Nat} {m : Addr × List Rw} (h : M[n]? = some m) : Get (cmL M) n (m.1, C.lst (rwL m.2)) := get_of (by
  unfold cmL
  rw [List.getElem?_map, h]
  rfl)
theorem cm_add {M : CmM} {n : Nat} {m : Addr × List Rw} {r : Rw} (h : M[n]? = some m) : cmL (addAt M n r) = (cmL M).set n (m.1, C.lst (rwL m.2 ++ [rwD r])) := by
  unfold addAt cmL
  rw [h]
  dsimp only
  rw [List.map_set]
  congr 2
  unfold rwL
  rw [List.map_append]
  rfl
theorem rf_at {M : CmM} {n : Nat} {m : Addr × List Rw} (h : M[n]? = some m) : atI (rf M) (n : Int) = some (.ref m.1) := at_nat (by omega) (by
  unfold rf
  rw [Int.toNat_natCast, List.getElem?_map, h]
  rfl)
theorem okT_pos : ∀ {ts : List (Int × Int)} {l : Int}, -1 ≤ l → okT l ts = true → ∀ t ∈ ts, 0 ≤ t.1 ∧ t.1 < 24
  | [], _, _, _, t, ht => by cases ht
  | s :: ts, l, hl, h, t, ht => by
    unfold okT okA at h
    simp only [Bool.and_eq_true, decide_eq_true_eq] at h
    rcases List.mem_cons.mp ht with rfl | ht
    · omega
    · exact okT_pos (by omega) h.2 t ht
def S_law_turned : SpD := fun ds L q _ => ∃ (x : D) (xs : List Int) (ts : List (Int × Int)), ds = [x, trD ts] ∧ AsL L x (dI xs) ∧ okc 24 xs ∧ goodT ts = true ∧ q (.lst (dI (tcell xs ts))) L
theorem b_law_turned {ds : List D} {L : Lg} {q : D → Lg → Prop} {e : Xc → Lg → Prop} (c : Cf X (["cell", "turns", "made", "place", "add"] : List Str) ([] : List Str) (defScope (top 55)) F0 (fun y _ L' => e y L')) (T : Tx X.K X.mg)
    (h : S_law_turned ds L q e) :
    BK X F0 (defBody (top 55)) (ds.map some ++ List.replicate 3 none) L { nx := fun _ L' => q .non L', rt := q } := by
  obtain ⟨x, xs, ts, rfl, hx, hok, hgt, h1⟩ := h
  have hpos : ∀ t ∈ ts, 0 ≤ t.1 ∧ t.1 < 24 := by
    unfold goodT at hgt
    rw [Bool.and_eq_true] at hgt
    exact okT_pos (by decide) hgt.2
  refine bk_cons (sk_set c.toCn (ek_listO T.no_list (c.toCn.gl) (ek_n c.toCn .z (⟨_, Or.inl hx, fun p_made => ⟨_, (.s (.s .z)), ?_⟩⟩))))
  refine bk_cons (sk_for c (ei_tup (ek_n c.toCn (.s .z) (⟨_, rfl, ⟨fun i Γ L' => ∃ w1 w2, Γ = [some x, some (trD ts), some (.ref p_made), w1, w2] ∧ L' = (p_made, .lst (dI (tcell xs (ts.take i)))) :: L, ?_, fun F1 c i d Γ L hd hP => ?_, fun Γ L hP => ?_⟩⟩))))
  · exact ⟨_, _, rfl, rfl⟩
  · obtain ⟨w1, w2, rfl, rfl⟩ := hP
    obtain ⟨⟨p, v⟩, hnv, rfl⟩ := pr_get hd
    obtain ⟨hp0, hp24⟩ := hpos _ (List.mem_of_getElem? hnv)
    dsimp only at hp0 hp24
    obtain ⟨p, rfl⟩ : ∃ n : Nat, p = n := ⟨p.toNat, by omega⟩
    have hokz := tcell_okc (ts := ts.take i) hok
    have hts : tcell xs (ts.take (i + 1)) = add1 (tcell xs (ts.take i)) (p, v) := by
      unfold tcell
      rw [List.take_succ, List.map_append, List.foldl_append, hnv]
      rfl
    generalize tcell xs (ts.take i) = zs at *
    have hzl : p < zs.length := by have := hokz.1; omega
    have gz : zs[p]? = some (zs.getD p 0) := by
      rw [List.getD_eq_getElem?_getD, List.getElem?_eq_getElem hzl]
      rfl
    refine tg_tup c.calm ⟨_, rfl, rfl, tn_c c.toCn ⟨_, (.s (.s (.s .z))), tn_c c.toCn ⟨_, (.s (.s (.s (.s .z)))), tn_z (?_)⟩⟩⟩
    refine bk_one (sk_seti (ek_mod (ek_add (ek_ix (ek_n c.toCn (.s (.s .z)) (ek_n c.toCn (.s (.s (.s .z))) (⟨_, _, _, (.own .z), rfl, (at_dIk gz), ⟨_, rfl, ek_n c.toCn (.s (.s (.s (.s .z)))) (⟨_, rfl, ⟨_, rfl, ek_int (⟨_, rfl, (by walk_at "vpos"), ek_n c.toCn (.s (.s .z)) (ek_n c.toCn (.s (.s (.s .z))) (⟨_, _, _, _, _, _, rfl, rfl, .z, (ixN_at (by omega) (by rw [dI_len]; omega)), .z, ?_⟩))⟩)⟩⟩)⟩⟩))) (fun _ _ => rfl)))))
    refine ⟨_, _, rfl, ?_⟩
    rw [hts]
    show (p_made, C.lst ((dI zs).set p (D.int ((zs.getD p 0 + v) % 97)))) :: L = _
    rw [dI_set]
    rfl
  · obtain ⟨w1, w2, rfl, rfl⟩ := hP
    rw [List.length_map, List.take_length]
    refine bk_one (sk_ret (ek_frzO (ek_n c.toCn (.s (.s .z)) (?_))))
    exact .inl ⟨_, _, 0, _, _, rfl, .z, .refl, h1⟩
def S_law_give : SpD := fun ds L q _ => ∃ (M : CmM) (A B : Lg) (x : D) (xs : List Int) (f : FT) (tick : Nat) (b : Option (Int × Int)), ds = [.lst (rf M), x, ftD f, .int (tick : Int), pairD b] ∧ L = A ++ (cmL M ++ B) ∧ (∀ M', AsL (A ++ (cmL M' ++ B)) x (dI xs)) ∧ okc 24 xs ∧ goodF 6 f = true ∧ tick + 6 < M.length ∧ (∀ k, (rowsAt M k).length < 900000) ∧ q .non (A ++ (cmL (giveM M xs tick f b) ++ B))
theorem b_law_give {ds : List D} {L : Lg} {q : D → Lg → Prop} {e : Xc → Lg → Prop} (c : Cf X (["coming", "cell", "fate", "tick", "births", "delay", "turns"] : List Str) ([] : List Str) (defScope (top 56)) F0 (fun y _ L' => e y L')) (T : Tx X.K X.mg) (hr : Room 1 X.A)
    (G__law_turned : CalX X 1 "_law_turned" (["cell", "turns"] : List Str) S_law_turned)
    (h : S_law_give ds L q e) :
    BK X F0 (defBody (top 56)) (ds.map some ++ List.replicate 2 none) L { nx := fun _ L' => q .non L', rt := q } := by
  obtain ⟨M, A, B, x, xs, f, tick, b, rfl, rfl, hx, hok, hgf, hM, hz, h1⟩ := h
  unfold goodF at hgf
  simp only [Bool.and_eq_true, decide_eq_true_eq, List.all_eq_true] at hgf
  obtain ⟨hf3, hgx⟩ := hgf
  have hgood : ∀ y ∈ f, 1 ≤ y.1 ∧ y.1 ≤ 6 ∧ goodT y.2 = true := fun y hy => by
    have := hgx y hy
    unfold goodX at this
    simp only [Bool.and_eq_true, decide_eq_true_eq] at this
    exact ⟨this.1.1, this.1.2, this.2⟩
  refine bk_one (sk_for c (ei_tup (ek_n c.toCn (.s (.s .z)) (⟨_, rfl, ⟨fun i Γ L' => ∃ w1 w2, Γ = [some (.lst (rf M)), some x, some (ftD f), some (.int (tick : Int)), some (pairD b), w1, w2] ∧ L' = A ++ (cmL (giveM M xs tick (f.take i) b) ++ B), ?_, fun F1 c i d Γ L hd hP => ?_, fun Γ L hP => ?_⟩⟩))))
  · exact ⟨_, _, rfl, rfl⟩
  · obtain ⟨w1, w2, rfl, rfl⟩ := hP
    obtain ⟨y, hy, rfl⟩ := ft_get hd
    obtain ⟨g1, g2, hgt⟩ := hgood y (List.mem_of_getElem? hy)
    have hil : i < f.length := (List.getElem?_eq_some_iff.mp hy).1
    have e1 : giveM M xs tick (f.take (i + 1)) b = addAt (giveM M xs tick (f.take i) b) (tick + y.1.toNat) (rowOf xs b y) := by
      unfold giveM
      rw [List.take_succ, List.foldl_append, hy]
      rfl
    have e2 : (tick : Int) + y.1 = ((tick + y.1.toNat : Nat) : Int) := by omega
    have e3 : rf M = rf (giveM M xs tick (f.take i) b) := rf_give.symm
    have hrow : (rowsAt (giveM M xs tick (f.take i) b) (tick + y.1.toNat)).length < 900003 := by
      rw [giveM_rows fun z hzm => by
        have := hgood z (List.mem_of_mem_take hzm)
        omega, List.length_append, List.length_map]
      have h5 := hz (tick + y.1.toNat)
      have h6 := List.length_filter_le (fun x => decide (tick + x.1.toNat = tick + y.1.toNat)) (f.take i)
      rw [List.length_take] at h6
      omega
    have hlen : (giveM M xs tick (f.take i) b).length = M.length := giveM_len
    rw [e3]
    generalize giveM M xs tick (f.take i) b = M1 at *
    obtain ⟨m, hm⟩ : ∃ m, M1[tick + y.1.toNat]? = some m := ⟨_, List.getElem?_eq_getElem (by omega)⟩
    have hml : m.2.length < 900003 := by
      unfold rowsAt at hrow
      rw [hm] at hrow
      exact hrow
    have hgl : Get (A ++ (cmL M1 ++ B)) (A.length + (tick + y.1.toNat)) (m.1, C.lst (rwL m.2)) := get_pre (cm_get hm).app
    refine tg_tup c.calm ⟨_, rfl, rfl, tn_c c.toCn ⟨_, (.s (.s (.s (.s (.s .z))))), tn_c c.toCn ⟨_, (.s (.s (.s (.s (.s (.s .z)))))), tn_z (?_)⟩⟩⟩
    refine bk_one (sk_expr (ek_app (ek_ix (ek_n c.toCn .z (ek_add (ek_n c.toCn (.s (.s (.s .z))) (⟨_, rfl, ek_n c.toCn (.s (.s (.s (.s (.s .z))))) (⟨_, rfl, ⟨_, _, _, .lst, rfl, (by rw [e2]; exact rf_at hm), ⟨_, _, rfl, .own hgl, ek_tup (ea_cons (ek_call c.tk G__law_turned (hr.mono (by first | decide | exact Nat.le_refl _)) (ea_cons (ek_n c.toCn (.s .z) (ea_cons (ek_n c.toCn (.s (.s (.s (.s (.s (.s .z)))))) (ea_nil (⟨_, xs, y.2, rfl, hx _, hok, hgt, ea_cons (ek_lt (ek_len T.no_len (c.toCn.gl) (ek_n c.toCn (.s (.s (.s (.s (.s (.s .z)))))) (⟨_, Or.inr rfl, ⟨_, rfl, ek_int (⟨_, rfl, ea_cons (ek_n c.toCn (.s (.s (.s (.s .z)))) (ea_nil (⟨(by first | exact sz_ok (Nat.le_of_ble_eq_true rfl) | exact sz_lt (by rw [rwL_len]; omega)), ⟨_, _, _, hgl, hgl.put, (by first | exact sz_ok (Nat.le_of_ble_eq_true rfl) | exact sz_lt (by rw [rwL_len]; omega)), ?_⟩⟩)))⟩)⟩⟩))))⟩)))))) (c.toCn.gl)))⟩⟩⟩)⟩)))) (fun _ _ => rfl))))
    refine ⟨_, _, rfl, ?_⟩
    rw [e1, cm_add hm, set_pre, set_app (cm_get hm)]
    have e4 : rwD (rowOf xs b y) = D.tup [.lst (dI (tcell xs y.2)), .bl (decide (((y.2.map prD).length : Int) < 3)), pairD b] := by
      unfold rowOf rwD
      rw [List.length_map]
      dsimp only
      rw [show decide (y.2.length < 3) = decide (((y.2.length : Nat) : Int) < 3) from decide_eq_decide.mpr (by omega)]
    rw [e4]
  · obtain ⟨w1, w2, rfl, rfl⟩ := hP
    rw [List.length_map, List.take_length]
    exact h1
end
end K34


set_option Elab.async false
set_option linter.all false
set_option maxRecDepth 100000
set_option maxHeartbeats 4000000
set_option pp.deepTerms.threshold 16
namespace K34
open PySem PySem.Spec PyProof.Rows L2 Vs
/-! ### a tick, by what is heard -/
def quietS (s : LS) : LS := { s with evs := [] }
/-- what hearing cells does -/
structure HrF (s : LS) (us : List LS) (s' : LS) (new : List Ev) : Prop where
  own : s'.own = s.own
  now : s'.now = s.now
  quiet : s'.quiet = s.quiet
  side : s'.side = s.side
  heard : s'.heard = if us.isEmpty then s.heard else s.now
  othge : s.oth ≤ s'.oth
  oth : s'.oth = s.oth ∨ ∃ u ∈ us, s'.oth = u.own
  othus : ∀ u ∈ us, u.own ≤ s'.oth
  evs : s'.evs = s.evs ++ new
  vld : Vld s.pair new s'.pair
  nosil : ∀ e ∈ new, isSil e = false
  noup : (∀ u ∈ us, u.oth ≠ s.own) → ∀ e ∈ new, isUp e = false
  pair : s'.pair = none ∨ (s'.pair = s.pair ∧ s'.oth = s.oth) ∨ (s'.pair = some (prS s') ∧ ∃ u ∈ us, u.own = s'.oth ∧ u.oth = s.own)
  left : s.left = [] → s'.left = []
  len : new.length ≤ 3 * us.length
theorem hrf_of : ∀ {us : List LS} {s : LS}, (∀ u ∈ us, LOk u) → ∃ new, HrF s us (us.foldl hearU s) new
  | [], s, _ => ⟨[], rfl, rfl, rfl, rfl, rfl, Int.le_refl _, .inl rfl, fun u hu => (by cases hu), (List.append_nil _).symm, .nil, fun e he => (by cases he), fun _ e he => (by cases he), .inr (.inl ⟨rfl, rfl⟩), id, Nat.zero_le _⟩
  | u :: us, s, h => by
    obtain ⟨n1, a⟩ := hr_of (s := s) (h u List.mem_cons_self)
    obtain ⟨n2, b⟩ := hrf_of (us := us) (s := hearU s u) fun v hv => h v (List.mem_cons_of_mem _ hv)
    have o1 : s.oth ≤ (hearU s u).oth ∧ u.own ≤ (hearU s u).oth ∧ ((hearU s u).oth = s.oth ∨ (hearU s u).oth = u.own) := by
      have := a.oth
      split at this <;> omega
    have o2 := b.othge
    rw [List.foldl_cons]
    refine ⟨n1 ++ n2, b.own.trans a.own, b.now.trans a.now, b.quiet.trans a.quiet, b.side.trans a.side, ?_, by omega, ?_, ?_, ?_, a.vld.app b.vld, ?_, ?_, ?_, fun z => b.left (a.left z), ?_⟩
    · rw [b.heard, a.heard, a.now]
      cases us <;> rfl
    · rcases b.oth with z | ⟨v, hv, z⟩
      · rcases o1.2.2 with y | y
        · exact .inl (z.trans y)
        · exact .inr ⟨u, List.mem_cons_self, z.trans y⟩
      · exact .inr ⟨v, List.mem_cons_of_mem _ hv, z⟩
    · intro v hv
      rcases List.mem_cons.mp hv with rfl | hv
      · omega
      · exact b.othus v hv
    · rw [b.evs, a.evs, List.append_assoc]
    · intro e he
      rcases List.mem_append.mp he with he | he
      · exact a.nosil e he
      · exact b.nosil e he
    · intro hn e he
      rcases List.mem_append.mp he with he | he
      · exact a.noup (hn u List.mem_cons_self) e he
      · exact b.noup (fun v hv => by rw [a.own]; exact hn v (List.mem_cons_of_mem _ hv)) e he
    · rcases b.pair with z | ⟨z, y⟩ | ⟨z, v, hv, y⟩
      · exact .inl z
      · have epr : prS (us.foldl hearU (hearU s u)) = prS (hearU s u) := by
          unfold prS
          rw [b.own, b.side, y]
        rcases a.pair with ⟨w, x⟩ | ⟨w, x⟩ | ⟨w, x1, x2, x3⟩
        · rcases x with x | x
          · exact .inl (by rw [z, w, x])
          · refine .inr (.inl ⟨z.trans w, y.trans ?_⟩)
            have := a.oth
            split at this <;> omega
        · exact .inl (z.trans w)
        · exact .inr (.inr ⟨by rw [z, w, epr], u, List.mem_cons_self, by rw [y, x3], x1⟩)
      · exact .inr (.inr ⟨z, v, List.mem_cons_of_mem _ hv, y.1, by rw [← a.own]; exact y.2⟩)
    · rw [List.length_append, List.length_cons]
      have := a.len
      have := b.len
      omega
/-- an end behind T ticks -/
structure End (qt sd : Int) (T : Nat) (s : LS) : Prop where
  lok : LOk s
  own : 1 ≤ s.own ∧ s.own ≤ T + 1
  now : s.now = T - 1
  quiet : s.quiet = qt
  side : s.side = sd
  heard : -1 ≤ s.heard ∧ s.heard ≤ T - 1
  evs : s.evs = []
  live : s.oth ≠ 0 → s.now - s.heard < qt ∧ 0 ≤ s.heard
  pair : s.pair = none ∨ (s.pair = some (prS s) ∧ 1 ≤ s.oth)
theorem end_fresh {quiet side : Int} : End quiet side 0 (fresh quiet side) :=
  ⟨⟨⟨by show (0 : Int) ≤ 1; decide, by show (1 : Int) < 9409; decide⟩, ⟨by show (0 : Int) ≤ 0; decide, by show (0 : Int) < 9409; decide⟩, fun y hy => by cases hy⟩,
   ⟨by show (1 : Int) ≤ 1; decide, by show (1 : Int) ≤ ((0 : Nat) : Int) + 1; decide⟩, by show (-1 : Int) = ((0 : Nat) : Int) - 1; decide, rfl, rfl, ⟨by show (-1 : Int) ≤ -1; decide, by show (-1 : Int) ≤ ((0 : Nat) : Int) - 1; decide⟩, rfl, fun z => absurd rfl z, .inl rfl⟩
/-- the two ways of a tick -/
theorem tick_cases {quiet side : Int} {T : Nat} {s : LS} {us : List LS} (h : End quiet side T s) (hq : 1 ≤ quiet) (hT : T ≤ 1000) (hu : ∀ u ∈ us, LOk u ∧ 1 ≤ u.own) :
    (us = [] ∧ 0 < s.oth ∧ s.now + 1 - s.heard = quiet ∧ tickU s us = fallSilent { s with now := s.now + 1 }) ∨
    (∃ A, HrF { s with now := s.now + 1 } us (tickU s us) A ∧ (tickU s us).evs = A ∧ (us ≠ [] ∨ s.oth ≤ 0 ∨ s.now + 1 - s.heard < quiet)) := by
  obtain ⟨A, a⟩ := hrf_of (us := us) (s := { s with now := s.now + 1 }) fun u h => (hu u h).1
  have h1 := a.heard
  have h2 := a.now
  have h3 := a.quiet
  have h4 := a.othge
  have h5 := h.quiet
  have h6 := h.lok.oth
  dsimp only at h1 h2 h3 h4
  unfold tickU silenced
  by_cases hc : 0 < (us.foldl hearU { s with now := s.now + 1 }).oth ∧ (us.foldl hearU { s with now := s.now + 1 }).quiet ≤ (us.foldl hearU { s with now := s.now + 1 }).now - (us.foldl hearU { s with now := s.now + 1 }).heard
  · rw [if_pos hc]
    obtain ⟨c1, c2⟩ := hc
    cases us with
    | nil =>
      refine .inl ⟨rfl, c1, ?_, rfl⟩
      have c1' : 0 < s.oth := c1
      have := (h.live (by omega)).1
      have c2' : s.quiet ≤ s.now + 1 - s.heard := c2
      omega
    | cons u us =>
      rw [h1, h2, h3] at c2
      simp only [List.isEmpty_cons, Bool.false_eq_true, if_false] at c2
      omega
  · rw [if_neg hc]
    refine .inr ⟨A, a, ?_, ?_⟩
    · rw [a.evs]
      show s.evs ++ A = A
      rw [h.evs]
      rfl
    · rw [h1, h2, h3] at hc
      cases us with
      | nil =>
        simp only [List.isEmpty_nil, if_true, List.foldl_nil] at hc
        refine .inr ?_
        omega
      | cons u us => exact .inl (by simp)
theorem end_tick {quiet side : Int} {T : Nat} {s : LS} {us : List LS} (h : End quiet side T s) (hq : 1 ≤ quiet) (hT : T ≤ 1000) (hu : ∀ u ∈ us, LOk u ∧ 1 ≤ u.own) (hlok : LOk (tickU s us)) : End quiet side (T + 1) (quietS (tickU s us)) := by
  have e1 := h.own
  have e2 := h.now
  have e3 := h.heard
  have e4 := h.quiet
  have e5 := h.side
  have e6 := h.lok.oth
  rcases tick_cases h hq hT hu with ⟨c1, c2, c3, c4⟩ | ⟨A, a, ha, hb⟩
  · have f1 : (fallSilent { s with now := s.now + 1 }).own = s.own + 1 ∧ (fallSilent { s with now := s.now + 1 }).now = s.now + 1 ∧ (fallSilent { s with now := s.now + 1 }).quiet = s.quiet ∧ (fallSilent { s with now := s.now + 1 }).side = s.side ∧ (fallSilent { s with now := s.now + 1 }).heard = s.heard ∧ (fallSilent { s with now := s.now + 1 }).pair = none := by
      unfold fallSilent toldSilent
      dsimp only
      cases hp : s.pair with
      | none => exact ⟨rfl, rfl, rfl, rfl, rfl, rfl⟩
      | some q => exact ⟨rfl, rfl, rfl, rfl, rfl, rfl⟩
    obtain ⟨g1, g2, g3, g4, g5, g6⟩ := f1
    rw [c4] at hlok ⊢
    exact ⟨⟨hlok.own, hlok.oth, hlok.left⟩, by show 1 ≤ (fallSilent _).own ∧ (fallSilent _).own ≤ _; rw [g1]; omega, by show (fallSilent _).now = _; rw [g2]; omega, g3.trans e4, g4.trans e5, by show -1 ≤ (fallSilent _).heard ∧ (fallSilent _).heard ≤ _; rw [g5]; omega, rfl, fun z => absurd rfl z, .inl g6⟩
  · have a1 := a.own
    have a2 := a.now
    have a3 := a.quiet
    have a4 := a.side
    have a5 := a.heard
    have a6 := a.oth
    have a7 := a.othus
    dsimp only at a1 a2 a3 a4 a5 a6
    refine ⟨⟨hlok.own, hlok.oth, hlok.left⟩, by show 1 ≤ (tickU s us).own ∧ (tickU s us).own ≤ _; rw [a1]; omega, by show (tickU s us).now = _; rw [a2]; omega, a3.trans e4, a4.trans e5, ?_, rfl, ?_, ?_⟩
    · show -1 ≤ (tickU s us).heard ∧ (tickU s us).heard ≤ _
      rw [a5]
      split <;> omega
    · intro z
      show (tickU s us).now - (tickU s us).heard < quiet ∧ 0 ≤ (tickU s us).heard
      rw [a2, a5]
      cases us with
      | nil =>
        simp only [List.isEmpty_nil, if_true]
        have hoth : (tickU s []).oth = s.oth := by
          rcases a6 with y | ⟨u, hu, _⟩
          · exact y
          · cases hu
        have z' : (tickU s []).oth ≠ 0 := z
        have h7 := h.live (by omega)
        rcases hb with b | b | b
        · exact absurd rfl b
        · omega
        · omega
      | cons u us =>
        simp only [List.isEmpty_cons, Bool.false_eq_true, if_false]
        omega
    · have epr : prS (quietS (tickU s us)) = prS (tickU s us) := rfl
      rw [epr]
      show (tickU s us).pair = none ∨ ((tickU s us).pair = some (prS (tickU s us)) ∧ 1 ≤ (tickU s us).oth)
      rcases a.pair with z | ⟨z, y⟩ | ⟨z, v, hv, y⟩
      · exact .inl z
      · dsimp only at z y
        rcases h.pair with x | ⟨x, w⟩
        · exact .inl (z.trans x)
        · refine .inr ⟨?_, by omega⟩
          rw [z, x]
          unfold prS
          rw [a1, a4, y]
      · have := (hu v hv).2
        exact .inr ⟨z, by omega⟩
/-- the rows that are on the way are those of the gives -/
structure WayOk (late : Int) (len T : Nat) (M : CmM) (G : Gv) : Prop where
  mlen : M.length = len
  glen : G.length = T
  rows : ∀ k, rowsAt M k = arrR G k
  good : ∀ g ∈ G, LOk g.1 ∧ 1 ≤ g.1.own ∧ goodF late g.2 = true
theorem WayOk.gv {late : Int} {len T : Nat} {M : CmM} {G : Gv} (h : WayOk late len T M G) (hl : late ≤ 6) : GvOk G := fun g hg => ⟨(h.good g hg).1, goodF_up (h.good g hg).2.2 hl⟩
theorem way_give {late : Int} {len T : Nat} {M : CmM} {G : Gv} {u : LS} {f : FT} (h : WayOk late len T M G) (hl : late ≤ 6) (hu : LOk u) (h1 : 1 ≤ u.own) (hf : goodF late f = true) (hT : T + 6 < len) :
    WayOk late len (T + 1) (giveM M (celOf (signsNow u)) T f none) (G ++ [(u, f)]) := by
  refine ⟨giveM_len.trans h.mlen, by rw [List.length_append, h.glen]; rfl, fun k => ?_, fun g hg => ?_⟩
  · rw [giveM_rows (fun x hx => by
      have := goodF_x hf hx
      have := h.mlen
      omega), h.rows k, arrR_snoc, h.glen]
    rfl
  · rcases List.mem_append.mp hg with hg | hg
    · exact h.good g hg
    · rw [List.mem_singleton.mp hg]
      exact ⟨hu, h1, hf⟩
theorem arrR_len {G : Gv} {k : Nat} (h : GvOk G) : (arrR G k).length ≤ 3 * G.length := by
  unfold arrR
  rw [List.length_flatMap]
  have key : ∀ (l : List Nat), (l.map fun t => (match G[t]? with | some g => (atT g.2 t k).map (rowOf (celOf (signsNow g.1)) none) | none => []).length).sum ≤ 3 * l.length := by
    intro l
    induction l with
    | nil => exact Nat.zero_le _
    | cons t l ih =>
      rw [List.map_cons, List.sum_cons, List.length_cons]
      have : (match G[t]? with | some g => (atT g.2 t k).map (rowOf (celOf (signsNow g.1)) none) | none => []).length ≤ 3 := by
        cases hg : G[t]? with
        | none => exact Nat.zero_le _
        | some g =>
          dsimp only
          rw [List.length_map]
          have := goodF_len (h g (List.mem_of_getElem? hg)).2
          have := List.length_filter_le (fun x : Int × List (Int × Int) => decide (t + x.1.toNat = k)) g.2
          unfold atT
          omega
      omega
  have := key (List.range G.length)
  rw [List.length_range] at this
  exact this
theorem arr_okc {G : Gv} {k : Nat} (h : GvOk G) : ∀ r ∈ arrR G k, okc 24 r.1 := fun r hr => by
  unfold arrR at hr
  obtain ⟨t, _, h2⟩ := List.mem_flatMap.mp hr
  cases hg : G[t]? with
  | none => rw [hg] at h2; cases h2
  | some g =>
    rw [hg] at h2
    obtain ⟨x, hx, rfl⟩ := List.mem_map.mp h2
    exact tcell_okc (okc_celOf (signsNow_ok (h g (List.mem_of_getElem? hg)).1))
def sideI (b : Bool) : Int := if b then 1 else 0
structure Sd where
  p : Addr
  lp : Addr
  ep : Addr
  s : LS
  M : CmM
end K34


set_option Elab.async false
set_option linter.all false
set_option maxRecDepth 100000
set_option maxHeartbeats 4000000
set_option pp.deepTerms.threshold 16
namespace K34
open PySem PySem.Spec PyProof.Rows L2 Vs
/-! ### a side changed -/
def put2 {α : Type} (f : Bool → α) (b : Bool) (x : α) : Bool → α := fun y => if y = b then x else f y
theorem put2_at {α : Type} {f : Bool → α} {b : Bool} {x : α} : put2 f b x b = x := if_pos rfl
theorem put2_ne {α : Type} {f : Bool → α} {b c : Bool} {x : α} (h : c ≠ b) : put2 f b x c = f c := if_neg h
theorem put2_not {α : Type} {f : Bool → α} {b : Bool} {x : α} : put2 f b x (!b) = f (!b) := if_neg (by cases b <;> decide)
theorem bool_ne {b c : Bool} (h : c ≠ b) : c = !b := by cases b <;> cases c <;> simp at h ⊢
theorem snoc_get {α : Type} {xs : List α} {x y : α} {t : Nat} (h : (xs ++ [x])[t]? = some y) : (t < xs.length ∧ xs[t]? = some y) ∨ (t = xs.length ∧ y = x) := by
  by_cases ht : t < xs.length
  · rw [List.getElem?_append_left ht] at h
    exact .inl ⟨ht, h⟩
  · rw [List.getElem?_append_right (by omega)] at h
    have : t - xs.length = 0 := by
      have := (List.getElem?_eq_some_iff.mp h).1
      rw [List.length_singleton] at this
      omega
    rw [this] at h
    exact .inr ⟨by omega, (Option.some.inj h).symm⟩
theorem get_snoc {α : Type} {xs : List α} {x y : α} {t : Nat} (h : xs[t]? = some y) : (xs ++ [x])[t]? = some y := by
  rw [List.getElem?_append_left (List.getElem?_eq_some_iff.mp h).1]
  exact h
theorem sil_evs {s : LS} (h : s.evs = []) : (∀ e ∈ (fallSilent s).evs, isUp e = false) ∧ (fallSilent s).own = s.own + 1 ∧ (fallSilent s).oth = 0 ∧ (fallSilent s).pair = none ∧ (fallSilent s).heard = s.heard ∧ (s.left = [] → (fallSilent s).left = []) ∧ (fallSilent s).evs = (match s.pair with | some q => [.silent q (s.heard + 1) s.now] | none => []) := by
  unfold fallSilent toldSilent
  cases hp : s.pair with
  | none =>
    dsimp only
    rw [h, hp]
    exact ⟨fun e he => (by cases he), rfl, rfl, rfl, rfl, id, rfl⟩
  | some q =>
    dsimp only [dropUp]
    rw [h]
    refine ⟨fun e he => ?_, rfl, rfl, rfl, rfl, fun _ => rfl, rfl⟩
    rw [List.mem_singleton.mp he]
    rfl
/-! ### silences, in plain Lean -/
noncomputable def shB (R : List (List (List Int))) (qu f l : Int) : Bool := decide (l - f + 1 = qu ∧ 0 ≤ f ∧ l < (R.length : Int)) && ((R.drop f.toNat).take qu.toNat).all fun cs => cs.all fun c => (mdF c).isNone
def brk (fs : List FT) (late lost first last : Int) : Bool := decide (last - late - (first - 1) = lost ∧ 0 ≤ first - 1 ∧ last - late < (fs.length : Int)) && ((fs.drop (first - 1).toNat).take (lost + 1).toNat).all fun f => !fit f
theorem atT_late {late : Int} {f : FT} {t k : Nat} (h : goodF late f = true) (hk : k ≤ t) : atT f t k = [] := by
  unfold atT
  rw [List.filter_eq_nil_iff]
  intro x hx
  have := goodF_x h hx
  simp only [decide_eq_true_eq]
  omega
theorem arrR_keep {late : Int} {G : Gv} {g : LS × FT} {k : Nat} (h : goodF late g.2 = true) (hk : k ≤ G.length) : arrR (G ++ [g]) k = arrR G k := by
  rw [arrR_snoc, atT_late h hk]
  exact List.append_nil _
theorem arrU_keep {late : Int} {G : Gv} {g : LS × FT} {k : Nat} (h : goodF late g.2 = true) (hk : k ≤ G.length) : arrU (G ++ [g]) k = arrU G k := by
  rw [arrU_snoc, atT_late h hk]
  exact List.append_nil _
/-- nothing readable comes just where nothing fit does -/
theorem arr_dumb {G : Gv} {k : Nat} (h : GvOk G) (he : arrU G k = []) : ∀ c ∈ (arrR G k).map (·.1), mdF c = none := fun c hc => by
  obtain ⟨r, hr, rfl⟩ := List.mem_map.mp hc
  unfold arrR at hr
  obtain ⟨t, _, h2⟩ := List.mem_flatMap.mp hr
  cases hg : G[t]? with
  | none => rw [hg] at h2; cases h2
  | some g =>
    rw [hg] at h2
    obtain ⟨x, hx, rfl⟩ := List.mem_map.mp h2
    have hgo := h g (List.mem_of_getElem? hg)
    have hxf := List.mem_filter.mp hx
    have h18 := signsNow_ok hgo.1
    have hm := tcell_md (ts := x.2) (okc_celOf h18) (sld_celOf h18) (goodF_x hgo.2 hxf.1).2.2
    show mdF (tcell _ x.2) = none
    rw [hm]
    by_cases z : x.2.length < 3
    · exfalso
      have := arrU_mem (u := g.1) (f := g.2) hg hxf.1 (of_decide_eq_true hxf.2) z
      rw [he] at this
      cases this
    · rw [if_neg z]
theorem arr_told {G : Gv} {k : Nat} (h : GvOk G) (he : arrU G k ≠ []) : ∃ c ∈ (arrR G k).map (·.1), mdF c ≠ none := by
  obtain ⟨u, hu⟩ : ∃ u, u ∈ arrU G k := by
    cases hz : arrU G k with
    | nil => exact absurd hz he
    | cons u us => exact ⟨u, List.mem_cons_self⟩
  obtain ⟨t, f, x, h1, h2, h3, h4⟩ := mem_arrU hu
  have hgo := h _ (List.mem_of_getElem? h1)
  have h18 := signsNow_ok hgo.1
  have hm := tcell_md (ts := x.2) (okc_celOf h18) (sld_celOf h18) (goodF_x hgo.2 h2).2.2
  refine ⟨(rowOf (celOf (signsNow u)) none x).1, List.mem_map_of_mem ?_, ?_⟩
  · unfold arrR
    refine List.mem_flatMap.mpr ⟨t, List.mem_range.mpr (List.getElem?_eq_some_iff.mp h1).1, ?_⟩
    rw [h1]
    exact List.mem_map_of_mem (List.mem_filter.mpr ⟨h2, decide_eq_true h3⟩)
  · show mdF (tcell _ x.2) ≠ none
    rw [hm, if_pos h4]
    exact fun y => by cases y
structure Wq (late lost : Int) (T : Bool → Nat) (s : Bool → LS) (G : Bool → Gv) : Prop where
  en : ∀ b, End (late + lost) (sideI b) (T b) (s b)
  left : ∀ b, (s b).left = []
  good : ∀ b, ∀ g ∈ G b, LOk g.1 ∧ 1 ≤ g.1.own ∧ goodF late g.2 = true
  glen : ∀ b, (G b).length = T b
  hr1 : ∀ b, 0 ≤ (s b).heard → arrU (G !b) (s b).heard.toNat ≠ []
  hr2 : ∀ (b : Bool) (k : Nat), (s b).heard < k → k < T b → arrU (G !b) k = []
def cameOf (G : Gv) (n : Nat) : List (List (List Int)) := (List.range n).map fun k => (arrR G k).map (·.1)
theorem cameOf_len {G : Gv} {n : Nat} : (cameOf G n).length = n := by unfold cameOf; rw [List.length_map, List.length_range]
theorem cameOf_succ {G : Gv} {n : Nat} : cameOf G (n + 1) = cameOf G n ++ [(arrR G n).map (·.1)] := by
  unfold cameOf
  rw [List.range_succ, List.map_append]
  rfl
theorem cameOf_keep {late : Int} {G : Gv} {g : LS × FT} {n : Nat} (h : goodF late g.2 = true) (hn : n ≤ G.length + 1) : cameOf (G ++ [g]) n = cameOf G n := by
  unfold cameOf
  refine List.map_congr_left fun k hk => ?_
  have := List.mem_range.mp hk
  rw [arrR_keep h (by omega)]
theorem put2_of {α : Type} {P : Bool → α → Prop} {f : Bool → α} {b : Bool} {x : α} (h : ∀ c, P c (f c)) (hx : P b x) : ∀ c, P c (put2 f b x c) := fun c => by
  by_cases hc : c = b
  · subst hc
    rw [put2_at]
    exact hx
  · rw [put2_ne hc]
    exact h c
structure WqStep (late lost : Int) (i : Nat) (b : Bool) (s : Bool → LS) (G : Bool → Gv) (s1 : LS) : Prop where
  vld : Vld (s b).pair s1.evs s1.pair
  nt : s1.evs.length ≤ 10000
  sil : ∀ q x y, Ev.silent q x y ∈ s1.evs → arrU (G !b) i = [] ∧ x = (s b).heard + 1 ∧ y = i ∧ 0 ≤ (s b).heard ∧ (i : Int) - (s b).heard = late + lost
  up : s1.pair ≠ none → (i : Int) - s1.heard < late + lost ∧ 0 ≤ s1.heard ∧ s1.heard ≤ i ∧ arrU (G !b) s1.heard.toNat ≠ []
theorem wq_step {late lost : Int} {i : Nat} {T : Bool → Nat} {s : Bool → LS} {G : Bool → Gv} (w : Wq late lost T s G) (b : Bool) (hi : T b = i) (hi2 : i ≤ T !b ∧ T (!b) ≤ i + 1) (hm : (1 ≤ late ∧ late ≤ 6) ∧ 0 ≤ lost ∧ lost ≤ 4) (hT : i ≤ 1000) {s1 : LS} (hs1 : s1 = tickU (s b) (arrU (G !b) i)) (hlok : LOk s1) :
    WqStep late lost i b s G s1 ∧ ∀ f, goodF late f = true → Wq late lost (put2 T b (i + 1)) (put2 s b (quietS s1)) (put2 G b (G b ++ [(quietS s1, f)])) := by
  have hq : 1 ≤ late + lost := by have := hm.1.1; have := hm.2.1; omega
  obtain ⟨us, hus⟩ : ∃ us, us = arrU (G !b) i := ⟨_, rfl⟩
  rw [← hus] at hs1
  have hug : ∀ u ∈ us, LOk u ∧ 1 ≤ u.own := fun u hu => by
    rw [hus] at hu
    obtain ⟨t, f, x, h1, h2, h3, h4⟩ := mem_arrU hu
    have := w.good _ _ (List.mem_of_getElem? h1)
    exact ⟨this.1, this.2.1⟩
  have hgvo : GvOk (G !b) := fun g hg => ⟨(w.good _ g hg).1, goodF_up (w.good _ g hg).2.2 hm.1.2⟩
  have hen := w.en b
  rw [hi] at hen
  have hen' := end_tick hen hq (by omega) hug (by rw [← hs1]; exact hlok)
  rw [← hs1] at hen'
  have hcase := tick_cases hen hq (by omega) hug
  rw [← hs1] at hcase
  have hnow := hen.now
  have hnow' := hen'.now
  have hhd := hen.heard
  -- what was heard
  have hh : (us = [] ∧ s1.heard = (s b).heard) ∨ (us ≠ [] ∧ s1.heard = i) := by
    rcases hcase with ⟨c1, _, _, c4⟩ | ⟨A, a, _⟩
    · refine .inl ⟨c1, ?_⟩
      rw [c4]
      exact (sil_evs (s := { s b with now := (s b).now + 1 }) hen.evs).2.2.2.2.1
    · have h5 := a.heard
      cases hu : us with
      | nil =>
        rw [hu] at h5
        exact .inl ⟨rfl, h5⟩
      | cons u us' =>
        rw [hu] at h5
        refine .inr ⟨by simp, ?_⟩
        have h6 : s1.heard = (s b).now + 1 := h5
        omega
  have hleft : s1.left = [] := by
    rcases hcase with ⟨_, _, _, c4⟩ | ⟨A, a, _⟩
    · rw [c4]
      exact (sil_evs (s := { s b with now := (s b).now + 1 }) hen.evs).2.2.2.2.2.1 (w.left b)
    · exact a.left (w.left b)
  have hr1' : 0 ≤ s1.heard → arrU (G !b) s1.heard.toNat ≠ [] := fun z => by
    rcases hh with ⟨_, h2⟩ | ⟨h1, h2⟩
    · rw [h2] at z ⊢
      exact w.hr1 b z
    · rw [h2, Int.toNat_natCast, ← hus]
      exact h1
  refine ⟨⟨?_, ?_, ?_, ?_⟩, fun f hf => ⟨?_, ?_, ?_, ?_, ?_, ?_⟩⟩
  · rcases hcase with ⟨_, _, _, c4⟩ | ⟨A, a, ha, _⟩
    · obtain ⟨_, _, _, e4, _, _, e7⟩ := sil_evs (s := { s b with now := (s b).now + 1 }) hen.evs
      rw [c4, e4, e7]
      cases hp : (s b).pair with
      | none => exact .nil
      | some q => exact .silent .nil
    · rw [ha]
      exact a.vld
  · rcases hcase with ⟨_, _, _, c4⟩ | ⟨A, a, ha, _⟩
    · obtain ⟨_, _, _, e4, _, _, e7⟩ := sil_evs (s := { s b with now := (s b).now + 1 }) hen.evs
      rw [c4, e7]
      cases hp : (s b).pair with
      | none => exact Nat.zero_le _
      | some q => exact Nat.le_of_ble_eq_true rfl
    · rw [ha]
      have h1 := a.len
      have h2 : us.length ≤ 3 * (i + 1) := by
        have h3 : us.length ≤ (arrR (G !b) i).length := by
          rw [hus]
          unfold arrU arrR
          rw [List.length_flatMap, List.length_flatMap]
          have key : ∀ (l : List Nat), (l.map fun t => (match (G !b)[t]? with | some g => ((atT g.2 t i).filter fun x : Int × List (Int × Int) => decide (x.2.length < 3)).map fun _ => g.1 | none => []).length).sum ≤ (l.map fun t => (match (G !b)[t]? with | some g => (atT g.2 t i).map (rowOf (celOf (signsNow g.1)) none) | none => []).length).sum := by
            intro l
            induction l with
            | nil => exact Nat.le_refl _
            | cons t l ih =>
              rw [List.map_cons, List.map_cons, List.sum_cons, List.sum_cons]
              refine Nat.add_le_add ?_ ih
              cases (G !b)[t]? with
              | none => exact Nat.le_refl _
              | some g =>
                dsimp only
                rw [List.length_map, List.length_map]
                exact List.length_filter_le _ _
          exact key _
        have h4 := arrR_len (k := i) hgvo
        have h5 := w.glen !b
        omega
      omega
  · intro q x y hx
    rcases hcase with ⟨c1, c2, c3, c4⟩ | ⟨A, a, ha, _⟩
    · obtain ⟨_, _, _, e4, _, _, e7⟩ := sil_evs (s := { s b with now := (s b).now + 1 }) hen.evs
      rw [c4, e7] at hx
      have hl := hen.live (by omega)
      cases hp : (s b).pair with
      | none => rw [show ({ s b with now := (s b).now + 1 } : LS).pair = none from hp] at hx; cases hx
      | some q' =>
        rw [show ({ s b with now := (s b).now + 1 } : LS).pair = some q' from hp] at hx
        have hx' := List.mem_singleton.mp hx
        cases hx'
        exact ⟨hus ▸ c1, rfl, by show (s b).now + 1 = _; omega, hl.2, by omega⟩
    · rw [ha] at hx
      have := a.nosil _ hx
      cases this
  · intro hp
    have hp2 := hen'.pair
    have hl := hen'.live
    have hh2 := hen'.heard
    have e1 : (quietS s1).heard = s1.heard := rfl
    rw [e1] at hl hh2
    rcases hp2 with z | ⟨_, z⟩
    · exact absurd z hp
    · have := hl (by omega)
      exact ⟨by omega, this.2, by omega, hr1' this.2⟩
  · refine fun c => ?_
    by_cases hc : c = b
    · subst hc
      rw [put2_at, put2_at]
      exact hen'
    · rw [put2_ne hc, put2_ne hc]
      exact w.en c
  · exact put2_of (P := fun _ (x : LS) => x.left = []) w.left hleft
  · refine put2_of (P := fun _ (G : Gv) => ∀ g ∈ G, LOk g.1 ∧ 1 ≤ g.1.own ∧ goodF late g.2 = true) w.good fun g hg => ?_
    rcases List.mem_append.mp hg with hg | hg
    · exact w.good b g hg
    · rw [List.mem_singleton.mp hg]
      exact ⟨hen'.lok, hen'.own.1, hf⟩
  · intro c
    by_cases hc : c = b
    · subst hc
      rw [put2_at, put2_at, List.length_append, w.glen, hi]
      rfl
    · rw [put2_ne hc, put2_ne hc]
      exact w.glen c
  · intro c
    by_cases hc : c = b
    · subst hc
      rw [put2_at, put2_not]
      exact hr1'
    · have hc2 := bool_ne hc
      subst hc2
      rw [put2_not, Bool.not_not, put2_at]
      intro z
      have h3 := (w.en !b).heard
      rw [arrU_keep hf (by rw [w.glen]; omega)]
      have := w.hr1 (!b) z
      rw [Bool.not_not] at this
      exact this
  · intro c k h1 h2
    by_cases hc : c = b
    · subst hc
      rw [put2_at] at h1 h2
      rw [put2_not]
      have e1 : (quietS s1).heard = s1.heard := rfl
      rw [e1] at h1
      rcases hh with ⟨h3, h4⟩ | ⟨_, h4⟩
      · by_cases hk : k = i
        · rw [hk, ← hus]
          exact h3
        · exact w.hr2 c k (by omega) (by omega)
      · omega
    · have hc2 := bool_ne hc
      subst hc2
      rw [put2_not] at h1 h2
      rw [Bool.not_not, put2_at]
      rw [arrU_keep hf (by rw [w.glen]; omega)]
      have := w.hr2 (!b) k h1 h2
      rw [Bool.not_not] at this
      exact this
/-- a silence is shown, and broke the measure -/
theorem sil_right {late lost : Int} {i : Nat} {T : Bool → Nat} {s : Bool → LS} {G : Bool → Gv} (w : Wq late lost T s G) (b : Bool) (hi : T b = i) (hi2 : i ≤ T !b ∧ T (!b) ≤ i + 1) (hm : (1 ≤ late ∧ late ≤ 6) ∧ 0 ≤ lost ∧ lost ≤ 4)
    (h1 : arrU (G !b) i = []) (h2 : 0 ≤ (s b).heard) (h3 : (i : Int) - (s b).heard = late + lost) :
    shB (cameOf (G !b) (i + 1)) (late + lost) ((s b).heard + 1) i = true ∧ brk ((G !b).map (·.2)) late lost ((s b).heard + 1) i = true ∧ ∃ p, ∀ j, j < lost.toNat + 1 → ∃ f, ((G !b).map (·.2))[p + j]? = some f ∧ fit f = false := by
  have hgvo : GvOk (G !b) := fun g hg => ⟨(w.good _ g hg).1, goodF_up (w.good _ g hg).2.2 hm.1.2⟩
  have hl1 := hm.1.1
  have hl0 := hm.2.1
  have hgl := w.glen !b
  obtain ⟨hd, hhd⟩ : ∃ hd : Nat, (s b).heard = hd := ⟨(s b).heard.toNat, by omega⟩
  have hdumb : ∀ k, hd < k → k ≤ i → arrU (G !b) k = [] := fun k z1 z2 => by
    by_cases hk : k = i
    · rw [hk]
      exact h1
    · exact w.hr2 b k (by omega) (by omega)
  have hunf : ∀ t f, ((G !b).map (·.2))[t]? = some f → hd ≤ t → (t : Int) + late ≤ i → fit f = false := fun t f hf z1 z2 => by
    cases hfit : fit f with
    | false => rfl
    | true =>
      exfalso
      unfold fit at hfit
      obtain ⟨x, hx, hx2⟩ := List.any_eq_true.mp hfit
      rw [List.getElem?_map] at hf
      cases hg : (G !b)[t]? with
      | none => rw [hg] at hf; cases hf
      | some g =>
        rw [hg] at hf
        have hf' : g.2 = f := Option.some.inj hf
        subst hf'
        have h5 := goodF_x (w.good _ g (List.mem_of_getElem? hg)).2.2 hx
        unfold fitA at hx2
        have h6 : x.2.length ≤ 2 := of_decide_eq_true hx2
        have := arrU_mem (u := g.1) (f := g.2) (k := t + x.1.toNat) hg hx rfl (by omega)
        rw [hdumb _ (by omega) (by omega)] at this
        cases this
  refine ⟨?_, ?_, hd, ?_⟩
  · unfold shB
    rw [cameOf_len, decide_eq_true (by omega), Bool.true_and, List.all_eq_true]
    intro cs hcs
    rw [List.all_eq_true]
    intro c hc
    obtain ⟨k, hk, hck⟩ := List.getElem_of_mem hcs
    rw [List.length_take, List.length_drop, cameOf_len] at hk
    rw [List.getElem_take, List.getElem_drop] at hck
    unfold cameOf at hck
    rw [List.getElem_map, List.getElem_range] at hck
    rw [← hck] at hc
    rw [arr_dumb hgvo (hdumb _ (by omega) (by omega)) c hc]
    rfl
  · unfold brk
    rw [List.length_map, decide_eq_true (by omega), Bool.true_and, List.all_eq_true]
    intro f hf
    obtain ⟨k, hk, hfk⟩ := List.getElem_of_mem hf
    rw [List.length_take, List.length_drop, List.length_map] at hk
    rw [List.getElem_take, List.getElem_drop] at hfk
    rw [hunf (((s b).heard + 1 - 1).toNat + k) f (by rw [← hfk]; exact List.getElem?_eq_getElem _) (by omega) (by omega)]
    rfl
  · intro j hj
    obtain ⟨f, hf⟩ : ∃ f, ((G !b).map (·.2))[hd + j]? = some f := ⟨_, List.getElem?_eq_getElem (by rw [List.length_map]; omega)⟩
    exact ⟨f, hf, hunf _ f hf (by omega) (by omega)⟩
/-- while up, quiet ticks are not silent -/
theorem up_right {late lost : Int} {i : Nat} {b : Bool} {G : Bool → Gv} {h : Int} (hgvo : GvOk (G !b)) (h1 : (i : Int) - h < late + lost) (h2 : 0 ≤ h) (h3 : h ≤ i) (h4 : arrU (G !b) h.toNat ≠ []) :
    shB (cameOf (G !b) (i + 1)) (late + lost) ((i : Int) - (late + lost) + 1) i = false := by
  unfold shB
  by_cases hc : (i : Int) - ((i : Int) - (late + lost) + 1) + 1 = late + lost ∧ 0 ≤ (i : Int) - (late + lost) + 1 ∧ (i : Int) < (cameOf (G !b) (i + 1)).length
  · rw [decide_eq_true hc, Bool.true_and]
    refine Bool.eq_false_iff.mpr fun z => ?_
    rw [List.all_eq_true] at z
    obtain ⟨c, hc1, hc2⟩ := arr_told hgvo h4
    have hmem : (arrR (G !b) h.toNat).map (·.1) ∈ ((cameOf (G !b) (i + 1)).drop ((i : Int) - (late + lost) + 1).toNat).take (late + lost).toNat := by
      refine List.mem_of_getElem? (i := h.toNat - ((i : Int) - (late + lost) + 1).toNat) ?_
      rw [List.getElem?_take, if_pos (by omega), List.getElem?_drop]
      unfold cameOf
      rw [List.getElem?_map, show ((i : Int) - (late + lost) + 1).toNat + (h.toNat - ((i : Int) - (late + lost) + 1).toNat) = h.toNat by omega, List.getElem?_range (by omega)]
      rfl
    have := z _ hmem
    rw [List.all_eq_true] at this
    have := this c hc1
    rw [Option.isNone_iff_eq_none] at this
    exact hc2 this
  · rw [decide_eq_false hc, Bool.false_and]
end K34


set_option Elab.async false
set_option linter.all false
set_option maxRecDepth 100000
set_option maxHeartbeats 4000000
set_option pp.deepTerms.threshold 16
namespace K34
open PySem PySem.Spec PyProof.Rows L2 Vs
local macro_rules | `(tactic| walk_at "vpos") => `(tactic| first | decide | omega)
local macro_rules | `(tactic| walk_at "vdiv") => `(tactic| first | exact ⟨by decide, by decide⟩ | (constructor <;> omega))
local macro_rules | `(tactic| walk_at "vpow") => `(tactic| exact ⟨by decide, by decide, by decide⟩)
local macro_rules | `(tactic| walk_at "vmul") => `(tactic| first | exact mulL ⟨by decide, by decide⟩ | exact mulR ⟨by decide, by decide⟩ | exact mulL (by constructor <;> omega) | exact mulR (by constructor <;> omega))
local macro_rules | `(tactic| walk_at "vlen") => `(tactic| first | exact sz_ok (Nat.le_of_ble_eq_true rfl) | exact sz_lt (Nat.le_of_ble_eq_true rfl) | (refine sz_ok ?_; simp only [List.length_append, List.length_cons, List.length_nil, List.length_map]; omega) | (refine sz_lt ?_; simp only [List.length_append, List.length_cons, List.length_nil, List.length_map]; omega))
local macro_rules | `(tactic| walk_at "vrng") => `(tactic| (refine ⟨?_, ?_⟩ <;> omega))
local macro_rules | `(tactic| walk_at "vix") => `(tactic| rfl)
local macro_rules | `(tactic| walk_at "vixn") => `(tactic| first | rfl | exact ixN_at (by omega) (by omega))
local macro_rules | `(tactic| walk_at "vkb") => `(tactic| decide +kernel)
local macro_rules | `(tactic| walk_at "vty") => `(tactic| first | exact .int | exact .bl | exact .lst | exact .str | exact .tup | exact .non | exact .own .z | exact tyd_as (by assumption))
local macro_rules | `(tactic| walk_at "vkit") => `(tactic| assumption)
local macro_rules | `(tactic| walk_at "vrep") => `(tactic| (refine ⟨by omega, by omega, ?_⟩; first | decide | (refine sz_ok ?_; simp only [List.length_cons, List.length_nil]; omega)))
section
variable {X : Cx} {F0 : Hp}
/-! ### the plain law of breaches -/
/-- n fates from p on, none fit -/
def unf (fs : List FT) (p n : Nat) : Prop := ∀ j, j < n → ∃ f, fs[p + j]? = some f ∧ fit f = false
/-- the first place from which lost + 1 fates are not fit -/
def Br (fs : List FT) (lost : Nat) : Option Nat → Prop
  | some p => unf fs p (lost + 1) ∧ ∀ p', p' < p → ¬ unf fs p' (lost + 1)
  | none => ∀ p, ¬ unf fs p (lost + 1)
theorem Br.one {fs : List FT} {lost : Nat} {a b : Option Nat} (ha : Br fs lost a) (hb : Br fs lost b) : a = b := by
  cases a with
  | none =>
    cases b with
    | none => rfl
    | some q => exact absurd hb.1 (ha q)
  | some p =>
    cases b with
    | none => exact absurd ha.1 (hb p)
    | some q =>
      rcases Nat.lt_trichotomy p q with h | h | h
      · exact absurd ha.1 (hb.2 p h)
      · rw [h]
      · exact absurd hb.1 (ha.2 q h)
/-- the walk at place i: no breach ends ahead of i, the run r is what is silent just ahead of i -/
structure Run (fs : List FT) (lost i r : Nat) : Prop where
  small : r ≤ lost
  le : r ≤ i
  tail : unf fs (i - r) r
  head : r = i ∨ ∃ f, fs[i - r - 1]? = some f ∧ fit f = true
  none : ∀ p, p + lost < i → ¬ unf fs p (lost + 1)
theorem Run.zero {fs : List FT} {lost : Nat} : Run fs lost 0 0 := ⟨Nat.zero_le _, Nat.le_refl _, fun j h => absurd h (Nat.not_lt_zero _), .inl rfl, fun p h => absurd h (Nat.not_lt_zero _)⟩
theorem Run.fits {fs : List FT} {lost i r : Nat} {f : FT} (h : Run fs lost i r) (hf : fs[i]? = some f) (ht : fit f = true) : Run fs lost (i + 1) 0 := by
  refine ⟨Nat.zero_le _, Nat.zero_le _, fun j h => absurd h (Nat.not_lt_zero _), .inr ⟨f, hf, ht⟩, fun p hp hu => ?_⟩
  by_cases hp2 : p + lost < i
  · exact h.none p hp2 hu
  · obtain ⟨g, hg, hgf⟩ := hu lost (Nat.lt_succ_self _)
    rw [show p + lost = i by omega, hf] at hg
    cases hg
    rw [ht] at hgf
    cases hgf
theorem Run.more {fs : List FT} {lost i r : Nat} {f : FT} (h : Run fs lost i r) (hf : fs[i]? = some f) (ht : fit f = false) (hr : r + 1 ≤ lost) : Run fs lost (i + 1) (r + 1) := by
  have hle := h.le
  refine ⟨hr, by omega, fun j hj => ?_, ?_, fun p hp hu => ?_⟩
  · rw [show i + 1 - (r + 1) + j = i - r + j by omega]
    by_cases hj2 : j < r
    · exact h.tail j hj2
    · rw [show i - r + j = i by omega]
      exact ⟨f, hf, ht⟩
  · rcases h.head with e | ⟨g, hg, hgt⟩
    · exact .inl (by omega)
    · exact .inr ⟨g, by rw [show i + 1 - (r + 1) - 1 = i - r - 1 by omega]; exact hg, hgt⟩
  · by_cases hp2 : p + lost < i
    · exact h.none p hp2 hu
    · rcases h.head with e | ⟨g, hg, hgt⟩
      · omega
      · by_cases hri : r = i
        · omega
        · obtain ⟨g2, hg2, hgf⟩ := hu (i - r - 1 - p) (by omega)
          rw [show p + (i - r - 1 - p) = i - r - 1 by omega, hg] at hg2
          cases hg2
          rw [hgt] at hgf
          cases hgf
theorem Run.breach {fs : List FT} {lost i : Nat} {f : FT} (h : Run fs lost i lost) (hf : fs[i]? = some f) (ht : fit f = false) : Br fs lost (some (i - lost)) := by
  have hle := h.le
  refine ⟨fun j hj => ?_, fun p' hp' => h.none p' (by omega)⟩
  by_cases hj2 : j < lost
  · exact h.tail j hj2
  · rw [show i - lost + j = i by omega]
    exact ⟨f, hf, ht⟩
theorem Run.done {fs : List FT} {lost r : Nat} (h : Run fs lost fs.length r) : Br fs lost Option.none := fun p hu => by
  obtain ⟨g, hg, _⟩ := hu lost (Nat.lt_succ_self _)
  have := (List.getElem?_eq_some_iff.mp hg).1
  exact h.none p this hu
/-! is_fit -/
def S_is_fit : SpD := fun ds L q _ => ∃ f : FT, ds = [ftD f] ∧ f.length ≤ 1000 ∧ q (.bl (fit f)) L
theorem b_is_fit {ds : List D} {L : Lg} {q : D → Lg → Prop} {e : Xc → Lg → Prop} (c : Cf X (["fate"] : List Str) (["delay", "turns"] : List Str) (defScope (top 22)) F0 (fun y _ L' => e y L')) (T : Tx X.K X.mg) (h : S_is_fit ds L q e) :
    BK X F0 (defBody (top 22)) (ds.map some ++ List.replicate 2 none) L { nx := fun _ L' => q .non L', rt := q } := by
  obtain ⟨f, rfl, hl, h1⟩ := h
  refine bk_one (sk_ret (ek_any c.calm T.no_any (c.toCn.gl) (ek_lcM [("delay", 1), ("turns", 2)] c.toCn c.calm (by decide +kernel) (ei_p (ei_tup (ek_n c.toCn .z (⟨_, rfl, ⟨(f.map fitA).map D.bl, ?_, ⟨_, (.lst), ?_⟩⟩⟩)))))))
  · refine ⟨by rw [List.length_map, List.length_map, List.length_map], by rw [List.length_map]; omega, fun F1 n d e acc Dp hd he => ?_⟩
    obtain ⟨x, hx, rfl⟩ := ft_get hd
    have he' := map_at (by rw [List.getElem?_map, hx]; rfl) he
    subst he'
    intro X' cb hX'
    obtain ⟨s0, H0, C0, cl, fp, rfl⟩ := hX'
    refine tb_tup cb ⟨_, rfl, rfl, tnb_c cb ⟨_, (.s .z), tnb_c cb ⟨_, (.s (.s .z)), tnb_z ⟨rfl, fun X' cb hX' => ?_⟩⟩⟩⟩
    obtain ⟨s0, H0, C0, cl, fp, rfl⟩ := hX'
    refine ek_le (ek_len T.no_len cb.gl (ek_b cb (.s (.s .z)) (⟨_, Or.inr rfl, ⟨_, rfl, ek_gi T.MENDED_TURNS cb.gl (⟨_, rfl, ?_⟩)⟩⟩)))
    refine ⟨rfl, ?_⟩
    unfold fitA
    rw [List.length_map]
    exact congrArg D.bl (decide_eq_decide.mpr (by omega))
  · have e1 : (f.map fitA).any id = fit f := by
      unfold fit
      rw [List.any_map]
      rfl
    rw [e1]
    exact h1
theorem fsD_len {fs : List FT} : (fsD fs).length = fs.length := List.length_map _
/-! breach -/
def S_breach (K : PySem.W.Frag) : SpD := fun ds L q e => ∃ (x : D) (fs : List FT) (late lost : Int), ds = [x, .tup [.int late, .int lost]] ∧ AsL L x (fsD fs) ∧ fs.length ≤ 1000 ∧ (∀ f ∈ fs, f.length ≤ 1000) ∧ (okM late lost → ∀ o, Br fs lost.toNat o → q (optD o) L) ∧ (¬ okM late lost → e (xcOf K "BadMeasure") L)
theorem b_breach {ds : List D} {L : Lg} {q : D → Lg → Prop} {e : Xc → Lg → Prop} (c : Cf X (["fates", "measure", "run", "place", "fate"] : List Str) ([] : List Str) (defScope (top 24)) F0 (fun y _ L' => e y L')) (T : Tx X.K X.mg) (hr : Room 2 X.A)
    (G_look_measure : CalX X 2 "look_measure" (["measure"] : List Str) (S_look_measure X.K)) (G_is_fit : CalX X 1 "is_fit" (["fate"] : List Str) S_is_fit) (h : S_breach X.K ds L q e) :
    BK X F0 (defBody (top 24)) (ds.map some ++ List.replicate 3 none) L { nx := fun _ L' => q .non L', rt := q } := by
  obtain ⟨x, fs, late, lostI, rfl, hx, hl, hf, h1, h2⟩ := h
  refine bk_cons (sk_expr (ek_call c.tk G_look_measure (hr.mono (by first | decide | exact Nat.le_refl _)) (ea_cons (ek_n c.toCn (.s .z) (ea_nil (⟨_, _, rfl, fun hm => ?_, fun hm => ?_⟩)))) (c.toCn.gl)))
  case refine_2 => exact h2 hm
  have h1 := h1 hm
  obtain ⟨lost, rfl, hlo⟩ : ∃ lost : Nat, lostI = (lost : Int) ∧ lost ≤ 4 := ⟨lostI.toNat, by have := hm.2.1; omega, by have := hm.2.2; omega⟩
  rw [Int.toNat_natCast] at h1
  refine bk_cons (sk_set c.toCn (ek_int (⟨_, (.s (.s .z)), ?_⟩)))
  refine bk_cons (sk_forNE T.no_enumerate (c.toCn.gl) c (fun kk h => ek_n c.toCn .z (h)) hx (fun i Γ L' => ∃ (r : Nat) (w1 w2 : Option D), Γ = [some x, some (.tup [.int late, .int (lost : Int)]), some (.int (r : Int)), w1, w2] ∧ L' = L ∧ Run fs lost i r) ?_ ?_ (fun F1 c i d Γ L hd hP => ?_) (fun Γ L hP => ?_))
  · exact ⟨0, _, _, rfl, rfl, .zero⟩
  · rintro i Γ L' ⟨r, w1, w2, rfl, rfl, _⟩
    exact hx
  · obtain ⟨r, w1, w2, rfl, rfl, hR⟩ := hP
    obtain ⟨y, hy, rfl⟩ := enumD_at hd
    obtain ⟨f, hfi, rfl⟩ := fs_get hy
    have hf1 := hf f (List.mem_of_getElem? hfi)
    have hm1' : atI [D.int late, D.int (lost : Int)] 1 = some (.int (lost : Int)) := rfl
    have hsm := hR.small
    have hle := hR.le
    refine tg_tup c.calm ⟨_, rfl, rfl, tn_c c.toCn ⟨_, (.s (.s (.s .z))), tn_c c.toCn ⟨_, (.s (.s (.s (.s .z)))), tn_z (?_)⟩⟩⟩
    refine bk_cons (sk_set c.toCn (ek_add (ek_n c.toCn (.s (.s .z)) (⟨_, rfl, ek_int (⟨_, rfl, ⟨_, (.s (.s .z)), ?_⟩⟩)⟩))))
    refine bk_cons (sk_if (et_v (ek_call c.tk G_is_fit (hr.mono (by first | decide | exact Nat.le_refl _)) (ea_cons (ek_n c.toCn (.s (.s (.s (.s .z)))) (ea_nil (⟨_, rfl, hf1, ⟨_, rfl, ⟨fun ht => ?_, fun ht => ?_⟩⟩⟩)))) (c.toCn.gl))))
    · refine bk_one (sk_set c.toCn (ek_int (⟨_, (.s (.s .z)), ?_⟩)))
      refine bk_one (sk_if (et_gt (ek_n c.toCn (.s (.s .z)) (⟨_, rfl, ek_ixT (ek_n c.toCn (.s .z) (ek_int (⟨_, _, _, rfl, rfl, (hm1'), ⟨_, rfl, ⟨fun ht => ?_, fun ht => ?_⟩⟩⟩))) (fun _ _ => rfl)⟩))))
      · exfalso
        simp at ht
        omega
      · exact bk_nil ⟨0, _, _, rfl, rfl, hR.fits hfi (by assumption)⟩
    · refine bk_nil ?_
      have hnf : fit f = false := by assumption
      refine bk_one (sk_if (et_gt (ek_n c.toCn (.s (.s .z)) (⟨_, rfl, ek_ixT (ek_n c.toCn (.s .z) (ek_int (⟨_, _, _, rfl, rfl, (hm1'), ⟨_, rfl, ⟨fun ht => ?_, fun ht => ?_⟩⟩⟩))) (fun _ _ => rfl)⟩))))
      · refine bk_one (sk_ret (ek_sub (ek_n c.toCn (.s (.s (.s .z))) (⟨_, rfl, ek_ixT (ek_n c.toCn (.s .z) (ek_int (⟨_, _, _, rfl, rfl, (hm1'), ⟨_, rfl, ?_⟩⟩))) (fun _ _ => rfl)⟩))))
        have e1 : r = lost := by
          simp at ht
          omega
        subst e1
        have h2 := h1 _ (hR.breach hfi hnf)
        have e2 : optD (some (i - r)) = .int ((i : Int) - (r : Int)) := by
          show D.int (((i - r : Nat) : Int)) = _
          congr 1
          omega
        rw [e2] at h2
        exact h2
      · exact bk_nil ⟨r + 1, _, _, rfl, rfl, hR.more hfi hnf (by simp at ht; omega)⟩
  · obtain ⟨r, w1, w2, rfl, rfl, hR⟩ := hP
    rw [enumD_len, fsD_len] at hR
    refine bk_one (sk_ret (ek_non (?_)))
    exact h1 _ hR.done
/-- the caller tells the place -/
def S_breach1 : SpD := fun ds L q e => ∃ (x : D) (fs : List FT) (late lost : Int) (o : Option Nat), ds = [x, .tup [.int late, .int lost]] ∧ AsL L x (fsD fs) ∧ fs.length ≤ 1000 ∧ (∀ f ∈ fs, f.length ≤ 1000) ∧ okM late lost ∧ Br fs lost.toNat o ∧ q (optD o) L
theorem breach1_imp {K : PySem.W.Frag} {ds : List D} {L : Lg} {q : D → Lg → Prop} {e : Xc → Lg → Prop} (h : S_breach1 ds L q e) : S_breach K ds L q e := by
  obtain ⟨x, fs, late, lost, o, h1, h2, h3, h4, h5, h6, h7⟩ := h
  exact ⟨x, fs, late, lost, h1, h2, h3, h4, fun _ o2 h8 => by rw [Br.one h8 h6]; exact h7, fun z => absurd h5 z⟩
/-! is_readable -/
def S_is_readable (K : PySem.W.Frag) : SpD := fun ds L q e => ∃ cell xs b, ds = [cell] ∧ AsL L cell (dI xs) ∧ (okc 24 xs → (Md xs none → b = false) ∧ (∀ ys, Md xs (some ys) → b = true) ∧ q (.bl b) L) ∧ (¬ okc 24 xs → e (xcOf K "BadCell") L)
theorem b_is_readable {ds : List D} {L : Lg} {q : D → Lg → Prop} {e : Xc → Lg → Prop} (c : Cf X (["cell"] : List Str) ([] : List Str) (defScope (top 37)) F0 (fun y _ L' => e y L')) (T : Tx X.K X.mg) (hr : Room 5 X.A)
    (G_mended : CalX X 5 "mended" (["cell"] : List Str) (S_mended X.K))
    (h : S_is_readable X.K ds L q e) :
    BK X F0 (defBody (top 37)) (ds.map some ++ List.replicate 0 none) L { nx := fun _ L' => q .non L', rt := q } := by
  obtain ⟨cell, xs, b, rfl, hx, h1, h2⟩ := h
  refine bk_one (sk_retS (ek_notN (ek_call c.tk G_mended (hr.mono (by first | decide | exact Nat.le_refl _)) (ea_cons (ek_n c.toCn .z (ea_nil (⟨_, xs, rfl, hx, fun hok => ⟨fun hm => ⟨_, (by first | exact List.sublist_cons_self _ _ | exact List.Sublist.refl _), ?_⟩, fun ys p hm => ⟨_, (by first | exact List.sublist_cons_self _ _ | exact List.Sublist.refl _), ?_⟩⟩, fun hok => ?_⟩)))) (c.toCn.gl))))
  · have h3 := h1 hok
    rw [h3.1 hm] at h3
    exact h3.2.2
  · have h3 := h1 hok
    rw [h3.2.1 ys hm] at h3
    exact h3.2.2
  · exact h2 hok
/-! is_shown -/
def rcL (R : List (List (List Int))) : List D := R.map fun cs => D.lst (dII cs)
theorem rcL_len {R : List (List (List Int))} : (rcL R).length = R.length := List.length_map ..
def S_is_shown : SpD := fun ds L q _ => ∃ (x : D) (R : List (List (List Int))) (qu f l : Int), ds = [x, .int qu, .int f, .int l] ∧ AsL L x (rcL R) ∧ 1 ≤ qu ∧ (∀ cs ∈ R, ∀ c ∈ cs, okc 24 c) ∧ q (.bl (shB R qu f l)) L
theorem b_is_shown {ds : List D} {L : Lg} {q : D → Lg → Prop} {e : Xc → Lg → Prop} (c : Cf X (["came", "quiet", "first", "last", "cells", "cell"] : List Str) ([] : List Str) (defScope (top 47)) F0 (fun y _ L' => e y L')) (T : Tx X.K X.mg) (hr : Room 6 X.A)
    (G_is_readable : CalX X 6 "is_readable" (["cell"] : List Str) (S_is_readable X.K))
    (h : S_is_shown ds L q e) :
    BK X F0 (defBody (top 47)) (ds.map some ++ List.replicate 2 none) L { nx := fun _ L' => q .non L', rt := q } := by
  obtain ⟨x, R, qu, f, l, rfl, hx, hqu1, hG, h1⟩ := h
  refine bk_cons (sk_if (et_w (ew_or (et_neI (ek_add (ek_sub (ek_n c.toCn (.s (.s (.s .z))) (⟨_, rfl, ek_n c.toCn (.s (.s .z)) (⟨_, rfl, ⟨_, rfl, ek_int (⟨_, rfl, ⟨_, rfl, ek_n c.toCn (.s .z) (⟨_, rfl, ⟨rfl, rfl⟩⟩)⟩⟩)⟩⟩)⟩))))) (fun hb => ew_or (et_lt (ek_n c.toCn (.s (.s .z)) (⟨_, rfl, ek_int (⟨_, rfl, ⟨rfl, rfl⟩⟩)⟩))) (fun hb => et_or1 (et_ge (ek_n c.toCn (.s (.s (.s .z))) (⟨_, rfl, ek_len T.no_len (c.toCn.gl) (ek_n c.toCn .z (⟨_, Or.inl hx, ⟨_, rfl, ⟨rfl, rfl⟩⟩⟩))⟩)))) (⟨rfl, rfl⟩)) (⟨fun ht => ?_, fun ht => ?_⟩))))
  · refine bk_one (sk_ret (ek_bl (?_)))
    rw [rcL_len] at ht
    have hb : shB R qu f l = false := by
      unfold shB
      rw [decide_eq_false, Bool.false_and]
      rintro ⟨a, b, c⟩
      simp at ht
      omega
    rw [hb] at h1
    exact h1
  refine bk_nil ?_
  rw [rcL_len] at ht
  have hcon : l - f + 1 = qu ∧ 0 ≤ f ∧ l < R.length := by
    simp at ht
    omega
  obtain ⟨hqu, hf0, hlR⟩ := hcon
  have hcut : Vs.cutD (rcL R) (some f) (some (l + 1)) = rcL (cutL R (some f) (some (l + 1))) := cut_map
  have hcl : cutL R (some f) (some (l + 1)) = (R.drop f.toNat).take qu.toNat := by
    unfold cutL
    obtain ⟨n0, rfl⟩ : ∃ n : Nat, f = (n : Int) := ⟨f.toNat, by omega⟩
    rw [HT.sIx_nat, Int.toNat_natCast]
    obtain ⟨n1, hn1⟩ : ∃ n : Nat, l + 1 = (n : Int) := ⟨(l + 1).toNat, by omega⟩
    rw [hn1, HT.sIx_nat, Nat.min_eq_left (show n0 ≤ R.length by omega), Nat.min_eq_left (by omega)]
    congr 1
    omega
  have hsh : shB R qu f l = (cutL R (some f) (some (l + 1))).all fun cs => cs.all fun c => (mdF c).isNone := by
    unfold shB
    rw [decide_eq_true ⟨hqu, hf0, hlR⟩, Bool.true_and, hcl]
  rw [hsh] at h1
  have hGc : ∀ cs ∈ cutL R (some f) (some (l + 1)), ∀ c ∈ cs, okc 24 c := fun cs hcs => hG cs (by rw [hcl] at hcs; exact List.mem_of_mem_drop (List.mem_of_mem_take hcs))
  generalize cutL R (some f) (some (l + 1)) = R1 at *
  refine bk_cons (sk_for c (ei_list (ek_sl (ek_n c.toCn .z (eo_s (ek_n c.toCn (.s (.s .z)) (⟨_, rfl, eo_s (ek_add (ek_n c.toCn (.s (.s (.s .z))) (⟨_, rfl, ek_int (⟨_, rfl, ⟨_, rfl, ⟨_, hx, ⟨_, rfl, ⟨fun i Γ L' => ∃ w1 w2, Γ = [some x, some (.int qu), some (.int f), some (.int l), w1, w2] ∧ L' = L ∧ ∀ cs ∈ R1.take i, (cs.all fun c => (mdF c).isNone) = true, ?_, fun F1 c i d Γ L hd hP => ?_, fun Γ L hP => ?_⟩⟩⟩⟩⟩)⟩)))⟩)))))))
  · exact ⟨_, _, rfl, rfl, fun cs hcs => by simp at hcs⟩
  · obtain ⟨w1, w2, rfl, rfl, hP⟩ := hP
    rw [hcut] at hd
    obtain ⟨cs, hcs, rfl⟩ := map_at' hd
    have hcm := List.mem_of_getElem? hcs
    refine tg_n c.toCn ⟨_, (.s (.s (.s (.s .z)))), ?_⟩
    refine bk_one (sk_for c (ei_list (ek_n c.toCn (.s (.s (.s (.s .z)))) (⟨_, rfl, ⟨fun j Γ L' => ∃ w2, Γ = [some x, some (.int qu), some (.int f), some (.int l), some (.lst (dII cs)), w2] ∧ L' = L ∧ ∀ c ∈ cs.take j, (mdF c).isNone = true, ?_, fun F1 c j d Γ L hd hP => ?_, fun Γ L hP => ?_⟩⟩))))
    · exact ⟨_, rfl, rfl, fun c hc => by simp at hc⟩
    · obtain ⟨w2, rfl, rfl, hP2⟩ := hP
      obtain ⟨cell, hc0, rfl⟩ := map_at' hd
      have hok := hGc cs hcm cell (List.mem_of_getElem? hc0)
      have hmF := mdF_ok cell
      have hb1 : Md cell none → (mdF cell).isSome = false := fun hm => by
        cases hz : mdF cell with
        | none => rfl
        | some ys =>
          rw [hz] at hmF
          have := hm ys hmF.1 hmF.2.1
          have := hmF.2.2
          omega
      have hb2 : ∀ ys, Md cell (some ys) → (mdF cell).isSome = true := fun ys hm => by
        cases hz : mdF cell with
        | some _ => rfl
        | none =>
          rw [hz] at hmF
          have := hmF ys hm.1 hm.2.1
          have := hm.2.2
          omega
      refine tg_n c.toCn ⟨_, (.s (.s (.s (.s (.s .z))))), ?_⟩
      refine bk_one (sk_if (et_v (ek_call c.tk G_is_readable (hr.mono (by first | decide | exact Nat.le_refl _)) (ea_cons (ek_n c.toCn (.s (.s (.s (.s (.s .z))))) (ea_nil (⟨_, cell, (mdF cell).isSome, rfl, .lst, fun _ => ⟨hb1, hb2, ⟨_, rfl, ⟨fun ht => ?_, fun ht => ?_⟩⟩⟩, fun z => absurd hok z⟩)))) (c.toCn.gl))))
      · refine bk_one (sk_ret (ek_bl (?_)))
        have hb : (R1.all fun cs => cs.all fun c => (mdF c).isNone) = false := by
          refine Bool.eq_false_iff.mpr fun z => ?_
          rw [List.all_eq_true] at z
          have z2 := z cs hcm
          rw [List.all_eq_true] at z2
          have z3 := z2 cell (List.mem_of_getElem? hc0)
          cases hz : mdF cell with
          | none => rw [hz] at ht; cases ht
          | some ys => rw [hz] at z3; cases z3
        rw [hb] at h1
        exact h1
      · refine bk_nil ⟨_, rfl, rfl, fun c hc => ?_⟩
        rw [List.take_add_one, hc0] at hc
        rcases List.mem_append.mp hc with hc | hc
        · exact hP2 c hc
        · have : c = cell := by simpa using hc
          subst this
          cases hz : mdF c with
          | none => rfl
          | some ys => rw [hz] at ht; cases ht
    · obtain ⟨w2, rfl, rfl, hP2⟩ := hP
      rw [dII_len, List.take_length] at hP2
      refine ⟨_, _, rfl, rfl, fun c hc => ?_⟩
      rw [List.take_add_one, hcs] at hc
      rcases List.mem_append.mp hc with hc | hc
      · exact hP c hc
      · have : c = cs := by simpa using hc
        subst this
        rw [List.all_eq_true]
        exact hP2
  · obtain ⟨w1, w2, rfl, rfl, hP⟩ := hP
    rw [hcut, rcL_len, List.take_length] at hP
    refine bk_one (sk_ret (ek_bl (?_)))
    rw [show (R1.all fun cs => cs.all fun c => (mdF c).isNone) = true from List.all_eq_true.mpr hP] at h1
    exact h1
theorem at_fs {fs : List FT} {i : Int} {f : FT} (h0 : 0 ≤ i) (h : fs[i.toNat]? = some f) : atI (fsD fs) i = some (ftD f) := at_nat h0 (by unfold fsD; rw [List.getElem?_map, h]; rfl)
theorem cut_mid {xs : List D} {i j : Int} (h0 : 0 ≤ i) (h1 : i ≤ j) (h2 : j ≤ xs.length) : cutD xs (some i) (some j) = (xs.drop i.toNat).take (j - i).toNat := by
  obtain ⟨a, rfl⟩ : ∃ m : Nat, i = m := ⟨i.toNat, by omega⟩
  obtain ⟨b, rfl⟩ : ∃ m : Nat, j = m := ⟨j.toNat, by omega⟩
  unfold Vs.cutD
  rw [HT.sIx_nat, HT.sIx_nat, Nat.min_eq_left (by omega), Nat.min_eq_left (by omega)]
  congr 1
  omega
/-! broken_by -/
def S_broken_by : SpD := fun ds L q _ => ∃ (x : D) (fs : List FT) (late lost first last : Int), ds = [x, .tup [.int late, .int lost], .int first, .int last] ∧ AsL L x (fsD fs) ∧ fs.length ≤ 1000 ∧ (∀ f ∈ fs, f.length ≤ 1000) ∧ 0 ≤ lost ∧ q (.bl (brk fs late lost first last)) L
theorem b_broken_by {ds : List D} {L : Lg} {q : D → Lg → Prop} {e : Xc → Lg → Prop} (c : Cf X (["fates", "measure", "first", "last", "late", "lost", "begin", "end"] : List Str) (["fate"] : List Str) (defScope (top 48)) F0 (fun y _ L' => e y L')) (T : Tx X.K X.mg) (hr : Room 1 X.A)
    (G_is_fit : CalX X 1 "is_fit" (["fate"] : List Str) S_is_fit) (h : S_broken_by ds L q e) :
    BK X F0 (defBody (top 48)) (ds.map some ++ List.replicate 5 none) L { nx := fun _ L' => q .non L', rt := q } := by
  obtain ⟨x, fs, late, lost, first, last, rfl, hx, hl, hf, hlo, h1⟩ := h
  refine bk_cons (sk_asg (ek_n c.toCn (.s .z) (tg_tup c.calm ⟨_, rfl, rfl, tn_c c.toCn ⟨_, (.s (.s (.s (.s .z)))), tn_c c.toCn ⟨_, (.s (.s (.s (.s (.s .z))))), tn_z (?_)⟩⟩⟩)))
  refine bk_cons (sk_set c.toCn (ek_sub (ek_n c.toCn (.s (.s .z)) (⟨_, rfl, ek_int (⟨_, rfl, ⟨_, (.s (.s (.s (.s (.s (.s .z)))))), ?_⟩⟩)⟩))))
  refine bk_cons (sk_set c.toCn (ek_sub (ek_n c.toCn (.s (.s (.s .z))) (⟨_, rfl, ek_n c.toCn (.s (.s (.s (.s .z)))) (⟨_, rfl, ⟨_, (.s (.s (.s (.s (.s (.s (.s .z))))))), ?_⟩⟩)⟩))))
  refine bk_cons (sk_if (et_w (ew_or (et_neI (ek_sub (ek_n c.toCn (.s (.s (.s (.s (.s (.s (.s .z))))))) (⟨_, rfl, ek_n c.toCn (.s (.s (.s (.s (.s (.s .z)))))) (⟨_, rfl, ⟨_, rfl, ek_n c.toCn (.s (.s (.s (.s (.s .z))))) (⟨_, rfl, ⟨rfl, rfl⟩⟩)⟩⟩)⟩)))) (fun hb => ew_or (et_lt (ek_n c.toCn (.s (.s (.s (.s (.s (.s .z)))))) (⟨_, rfl, ek_int (⟨_, rfl, ⟨rfl, rfl⟩⟩)⟩))) (fun hb => et_or1 (et_ge (ek_n c.toCn (.s (.s (.s (.s (.s (.s (.s .z))))))) (⟨_, rfl, ek_len T.no_len (c.toCn.gl) (ek_n c.toCn .z (⟨_, Or.inl hx, ⟨_, rfl, ⟨rfl, rfl⟩⟩⟩))⟩)))) (⟨rfl, rfl⟩)) (⟨fun ht => ?_, fun ht => ?_⟩))))
  · refine bk_one (sk_ret (ek_bl (?_)))
    have e1 : brk fs late lost first last = false := by
      rw [fsD_len] at ht
      unfold brk
      rw [decide_eq_false, Bool.false_and]
      rintro ⟨a, b, c⟩
      simp at ht
      omega
    rw [e1] at h1
    exact h1
  · refine bk_nil ?_
    rw [fsD_len] at ht
    have hh : last - late - (first - 1) = lost ∧ 0 ≤ first - 1 ∧ last - late < (fs.length : Int) := by
      simp at ht
      omega
    obtain ⟨g1, g2, g3⟩ := hh
    have hcut : cutD (fsD fs) (some (first - 1)) (some (last - late + 1)) = fsD ((fs.drop (first - 1).toNat).take (lost + 1).toNat) := by
      rw [cut_mid g2 (by omega) (by rw [fsD_len]; omega), show last - late + 1 - (first - 1) = lost + 1 by omega]
      unfold fsD
      rw [List.map_take, List.map_drop]
    have hsub : ∀ f ∈ (fs.drop (first - 1).toNat).take (lost + 1).toNat, f.length ≤ 1000 := fun f hf1 => hf f (List.mem_of_mem_drop (List.mem_of_mem_take hf1))
    have hcl : ((fs.drop (first - 1).toNat).take (lost + 1).toNat).length ≤ fs.length := by rw [List.length_take, List.length_drop]; omega
    have e1 : brk fs late lost first last = ((fs.drop (first - 1).toNat).take (lost + 1).toNat).all fun f => !fit f := by
      unfold brk
      rw [decide_eq_true ⟨g1, g2, g3⟩, Bool.true_and]
    rw [e1] at h1
    generalize (fs.drop (first - 1).toNat).take (lost + 1).toNat = cs at *
    refine bk_one (sk_ret (ek_eqI (ek_len T.no_len (c.toCn.gl) (ek_lc [("fate", 8)] c.toCn c.calm (by decide +kernel) (ei_p (ei_list (ek_sl (ek_n c.toCn .z (eo_s (ek_n c.toCn (.s (.s (.s (.s (.s (.s .z)))))) (⟨_, rfl, eo_s (ek_add (ek_n c.toCn (.s (.s (.s (.s (.s (.s (.s .z))))))) (⟨_, rfl, ek_int (⟨_, rfl, ⟨_, rfl, ⟨_, hx, ⟨_, rfl, ⟨cs.map fun f => if fit f then some (ftD f) else none, ?_, ?_, ?_, ⟨_, Or.inl .lst, ⟨_, rfl, ek_int (⟨_, rfl, ?_⟩)⟩⟩⟩⟩⟩⟩⟩)⟩)))⟩)))))))))))
    · rw [hcut, List.length_map, fsD_len]
    · rw [hcut, fsD_len]
      omega
    · intro F1 n d e acc Dp hd he
      rw [hcut] at hd
      obtain ⟨f, hf1, rfl⟩ := fs_get hd
      have he' := map_at hf1 he
      subst he'
      have hfl := hsub f (List.mem_of_getElem? hf1)
      intro X' cb hX'
      obtain ⟨s0, H0, C0, cl, fp, rfl⟩ := hX'
      refine tb_n cb ⟨_, (.s (.s (.s (.s (.s (.s (.s (.s .z)))))))), rfl, fun X' cb hX' => ?_⟩
      obtain ⟨s0, H0, C0, cl, fp, rfl⟩ := hX'
      refine es_one (et_v (ek_call takesZ0 G_is_fit (hr.mono (by first | decide | exact Nat.le_refl _)) (ea_cons (ek_b cb (.s (.s (.s (.s (.s (.s (.s (.s .z)))))))) (ea_nil (⟨_, rfl, hfl, ⟨_, rfl, ⟨rfl, fun ht X' cb hX' => ?_, fun ht => ?_⟩⟩⟩)))) cb.gl))
      · obtain ⟨s0, H0, C0, cl, fp, rfl⟩ := hX'
        refine ek_b cb (.s (.s (.s (.s (.s (.s (.s (.s .z)))))))) (?_)
        exact ⟨rfl, by rw [if_pos ht]⟩
      · rw [if_neg (by rw [ht]; decide)]
    · rw [fm_len, filt_none]
      exact h1
end
end K34


set_option Elab.async false
set_option linter.all false
set_option maxRecDepth 100000
set_option maxHeartbeats 4000000
set_option pp.deepTerms.threshold 16
namespace K34
open PySem PySem.Spec PyProof.Rows L2 Vs
local macro_rules | `(tactic| walk_at "vpos") => `(tactic| first | decide | omega)
local macro_rules | `(tactic| walk_at "vdiv") => `(tactic| first | exact ⟨by decide, by decide⟩ | (constructor <;> omega))
local macro_rules | `(tactic| walk_at "vpow") => `(tactic| exact ⟨by decide, by decide, by decide⟩)
local macro_rules | `(tactic| walk_at "vmul") => `(tactic| first | exact mulL ⟨by decide, by decide⟩ | exact mulR ⟨by decide, by decide⟩ | exact mulL (by constructor <;> omega) | exact mulR (by constructor <;> omega))
local macro_rules | `(tactic| walk_at "vlen") => `(tactic| first | exact sz_ok (Nat.le_of_ble_eq_true rfl) | exact sz_lt (Nat.le_of_ble_eq_true rfl) | (refine sz_ok ?_; simp only [List.length_append, List.length_cons, List.length_nil, List.length_map]; omega) | (refine sz_lt ?_; simp only [List.length_append, List.length_cons, List.length_nil, List.length_map]; omega))
local macro_rules | `(tactic| walk_at "vrng") => `(tactic| (refine ⟨?_, ?_⟩ <;> omega))
local macro_rules | `(tactic| walk_at "vix") => `(tactic| rfl)
local macro_rules | `(tactic| walk_at "vixn") => `(tactic| first | rfl | exact ixN_at (by omega) (by omega))
local macro_rules | `(tactic| walk_at "vkb") => `(tactic| decide +kernel)
local macro_rules | `(tactic| walk_at "vty") => `(tactic| first | exact .int | exact .bl | exact .lst | exact .str | exact .tup | exact .non | exact .own .z | exact tyd_as (by assumption))
local macro_rules | `(tactic| walk_at "vkit") => `(tactic| assumption)
local macro_rules | `(tactic| walk_at "vrep") => `(tactic| (refine ⟨by omega, by omega, ?_⟩; first | decide | (refine sz_ok ?_; simp only [List.length_cons, List.length_nil]; omega)))
section
variable {X : Cx} {F0 : Hp}
/-! events, pairs as data that are compared -/
theorem shp_str {k : Nat} {x : Str} (h : PyData.canLay0 (.str x) = true) : Shp k (.str x) := ⟨h, by simp only [PyData.depth]; exact Nat.zero_le _⟩
def prP2 (p : Int × Int) : PyData := .tuple [.int p.1, .int p.2]
def pairP : Option (Int × Int) → PyData
  | some p => prP2 p
  | none => .none
def evP : Ev → PyData
  | .anew p => .tuple [.str "anew", prP2 p]
  | .up p => .tuple [.str "up", prP2 p]
  | .took xs => .tuple [.str "took", .list (xs.map PyData.int)]
  | .silent p a b => .tuple [.str "silent", prP2 p, .int a, .int b]
theorem dpd_pr2 {L : Lg} (p : Int × Int) : Dpd L (prD2 p) (prP2 p) := .tup (.cons .int (.cons .int .nil))
theorem dpd_pair {L : Lg} : ∀ o : Option (Int × Int), Dpd L (pairD o) (pairP o)
  | some p => dpd_pr2 p
  | none => .non
theorem dpd_ev {L : Lg} : ∀ e : Ev, Dpd L (evD e) (evP e)
  | .anew p => .tup (.cons .str (.cons (dpd_pr2 p) .nil))
  | .up p => .tup (.cons .str (.cons (dpd_pr2 p) .nil))
  | .took xs => .tup (.cons .str (.cons (.lst dpds_dI) .nil))
  | .silent p a b => .tup (.cons .str (.cons (dpd_pr2 p) (.cons .int (.cons .int .nil))))
theorem dpds_ev {L : Lg} : ∀ {es : List Ev}, Dpds L (evL es) (es.map evP)
  | [] => .nil
  | e :: _ => .cons (dpd_ev e) dpds_ev
theorem shp_pr2 {k : Nat} (p : Int × Int) : Shp (k + 1) (prP2 p) := shp_tup fun d hd => by
  simp only [List.mem_cons, List.not_mem_nil, or_false] at hd
  rcases hd with rfl | rfl <;> exact shp_int
theorem shp_pair {k : Nat} : ∀ o : Option (Int × Int), Shp (k + 1) (pairP o)
  | some p => shp_pr2 p
  | none => shp_non
theorem shp_ev : ∀ e : Ev, Shp 2 (evP e)
  | .anew p => shp_tup fun d hd => by
    simp only [List.mem_cons, List.not_mem_nil, or_false] at hd
    rcases hd with rfl | rfl
    · exact shp_str (by decide +kernel)
    · exact shp_pr2 _
  | .up p => shp_tup fun d hd => by
    simp only [List.mem_cons, List.not_mem_nil, or_false] at hd
    rcases hd with rfl | rfl
    · exact shp_str (by decide +kernel)
    · exact shp_pr2 _
  | .took xs => shp_tup fun d hd => by
    simp only [List.mem_cons, List.not_mem_nil, or_false] at hd
    rcases hd with rfl | rfl
    · exact shp_str (by decide +kernel)
    · exact shp_dI
  | .silent p a b => shp_tup fun d hd => by
    simp only [List.mem_cons, List.not_mem_nil, or_false] at hd
    rcases hd with rfl | rfl | rfl | rfl
    · exact shp_str (by decide +kernel)
    · exact shp_pr2 _
    · exact shp_int
    · exact shp_int
theorem shp_evs {es : List Ev} : Shp 3 (.list (es.map evP)) := shp_lst fun d hd => by
  obtain ⟨e, _, rfl⟩ := List.mem_map.mp hd
  exact shp_ev e
theorem fm_some {ds : List D} : (ds.map some).filterMap id = ds := by
  induction ds with
  | nil => rfl
  | cons d ds ih => simp only [List.map_cons, List.filterMap_cons, id]; rw [ih]
/-! keeps -/
theorem br_ex (fs : List FT) (lost : Nat) : ∃ o, Br fs lost o := by
  have key : ∀ n, (∃ p, unf fs p (lost + 1) ∧ ∀ p', p' < p → ¬ unf fs p' (lost + 1)) ∨ ∀ p, p < n → ¬ unf fs p (lost + 1) := by
    intro n
    induction n with
    | zero => exact .inr fun p hp => absurd hp (Nat.not_lt_zero _)
    | succ n ih =>
      rcases ih with h | h
      · exact .inl h
      · by_cases hn : unf fs n (lost + 1)
        · exact .inl ⟨n, hn, h⟩
        · refine .inr fun p hp => ?_
          by_cases e : p = n
          · rw [e]
            exact hn
          · exact h p (by omega)
  by_cases hx : ∃ p, unf fs p (lost + 1) ∧ ∀ p', p' < p → ¬ unf fs p' (lost + 1)
  · obtain ⟨p, hp⟩ := hx
    exact ⟨some p, hp⟩
  · refine ⟨none, fun p => ?_⟩
    rcases key (p + 1) with h | h
    · exact absurd h hx
    · exact h p (Nat.lt_succ_self p)
def S_keeps : SpD := fun ds L q _ => ∃ (x : D) (fs : List FT) (late lost : Int), ds = [x, .tup [.int late, .int lost]] ∧ AsL L x (fsD fs) ∧ fs.length ≤ 1000 ∧ (∀ f ∈ fs, f.length ≤ 1000) ∧ okM late lost ∧ ∃ o, Br fs lost.toNat o ∧ q (.bl o.isNone) L
theorem b_keeps {ds : List D} {L : Lg} {q : D → Lg → Prop} {e : Xc → Lg → Prop} (c : Cf X (["fates", "measure"] : List Str) ([] : List Str) (defScope (top 25)) F0 (fun y _ L' => e y L')) (T : Tx X.K X.mg) (hr : Room 3 X.A)
    (G_breach : CalX X 3 "breach" (["fates", "measure"] : List Str) (S_breach X.K)) (h : S_keeps ds L q e) :
    BK X F0 (defBody (top 25)) (ds.map some ++ List.replicate 0 none) L { nx := fun _ L' => q .non L', rt := q } := by
  obtain ⟨x, fs, late, lost, rfl, hx, hl, hf, hm, o1, ho1, h2⟩ := h
  refine bk_one (sk_ret (ek_isN (ek_call c.tk G_breach (hr.mono (by first | decide | exact Nat.le_refl _)) (ea_cons (ek_n c.toCn .z (ea_cons (ek_n c.toCn (.s .z) (ea_nil (⟨_, _, _, _, rfl, hx, hl, hf, fun _ o ho => ?_, fun z => absurd hm z⟩)))))) (c.toCn.gl))))
  rw [Br.one ho1 ho] at h2
  cases o with
  | none => exact h2
  | some p => exact h2
/-! _law_dead -/
def S_law_dead : SpD := fun ds L q _ => ∃ (n0 n1 n2 n3 : Int) (r : List Int) (side tick : Int), ds = [.lst (dI (n0 :: n1 :: n2 :: n3 :: r)), .int side, .int tick] ∧ ∀ b, q (.bl b) L
theorem b_law_dead {ds : List D} {L : Lg} {q : D → Lg → Prop} {e : Xc → Lg → Prop} (c : Cf X (["numbers", "side", "tick", "begin"] : List Str) ([] : List Str) (defScope (top 57)) F0 (fun y _ L' => e y L')) (T : Tx X.K X.mg)
    (h : S_law_dead ds L q e) :
    BK X F0 (defBody (top 57)) (ds.map some ++ List.replicate 1 none) L { nx := fun _ L' => q .non L', rt := q } := by
  obtain ⟨n0, n1, n2, n3, r, side, tick, rfl, h1⟩ := h
  have hat : ∀ k : Nat, k < 4 → atI (dI (n0 :: n1 :: n2 :: n3 :: r)) (k : Int) = some (.int ([n0, n1, n2, n3].getD k 0)) := fun k hk => at_nat (by omega) (by
    rw [Int.toNat_natCast]
    match k, hk with
    | 0, _ => rfl
    | 1, _ => rfl
    | 2, _ => rfl
    | 3, _ => rfl)
  refine bk_cons (sk_set c.toCn (ek_mod (ek_ix (ek_n c.toCn .z (ek_int (⟨_, _, _, .lst, rfl, (hat 2 (by decide)), ⟨_, rfl, ek_int (⟨_, rfl, (by walk_at "vpos"), ⟨_, (.s (.s (.s .z))), ?_⟩⟩)⟩⟩))) (fun _ _ => rfl))))
  refine bk_one (sk_ret (ek_and' (ek_inI (ek_mod (ek_ix (ek_n c.toCn .z (ek_int (⟨_, _, _, .lst, rfl, (by first | exact hat 1 (by decide) | exact hat 3 (by decide)), ⟨_, rfl, ek_int (⟨_, rfl, (by walk_at "vpos"), ⟨_, rfl, ek_tup (ea_cons (ek_add (ek_n c.toCn (.s .z) (⟨_, rfl, ek_int (⟨_, rfl, ea_cons (ek_int (ea_nil (⟨(by walk_at "vlen"), ⟨([side + 1, 3]), Or.inr rfl, ⟨rfl, rfl⟩⟩⟩)))⟩)⟩))))⟩⟩)⟩⟩))) (fun _ _ => rfl)))) (fun hb => ek_and (ek_ch2 op_le op_lt (ek_n c.toCn (.s (.s (.s .z))) (⟨_, rfl, ek_n c.toCn (.s (.s .z)) (⟨_, _, rfl, fun hc => ek_add (ek_add (ek_n c.toCn (.s (.s (.s .z))) (⟨_, rfl, ek_int (⟨_, rfl, ⟨_, rfl, ek_mod (ek_ix (ek_n c.toCn .z (ek_int (⟨_, _, _, .lst, rfl, (by first | exact hat 1 (by decide) | exact hat 3 (by decide)), ⟨_, rfl, ek_int (⟨_, rfl, (by walk_at "vpos"), ⟨_, rfl, ⟨rfl, rfl⟩⟩⟩)⟩⟩))) (fun _ _ => rfl))⟩⟩)⟩))), ⟨rfl, rfl⟩⟩)⟩)))) (?_)))
  exact h1 _
/-! _law_kept -/
theorem unf_snoc {fs : List FT} {f : FT} {p m : Nat} (h : unf (fs ++ [f]) p (m + 1)) : unf fs p (m + 1) ∨ (p + m = fs.length ∧ fit f = false ∧ unf fs p m) := by
  obtain ⟨g, hg, hg2⟩ := h m (by omega)
  rcases snoc_get hg with ⟨h1, h2⟩ | ⟨h1, h2⟩
  · refine .inl fun j hj => ?_
    obtain ⟨g', hg', hg2'⟩ := h j hj
    rcases snoc_get hg' with ⟨h3, h4⟩ | ⟨h3, h4⟩
    · exact ⟨g', h4, hg2'⟩
    · omega
  · refine .inr ⟨h1, by rw [← h2]; exact hg2, fun j hj => ?_⟩
    obtain ⟨g', hg', hg2'⟩ := h j (by omega)
    rcases snoc_get hg' with ⟨h3, h4⟩ | ⟨h3, h4⟩
    · exact ⟨g', h4, hg2'⟩
    · omega
def S_law_kept : SpD := fun ds L q _ => ∃ (f : FT) (x : D) (fs : List FT) (late number : Int) (lost : Nat), ds = [ftD f, x, .tup [.int late, .int (lost : Int)], .int number] ∧ AsL L x (fsD fs) ∧ fs.length ≤ 1000 ∧ goodF late f = true ∧ (∀ g ∈ fs, goodF late g = true) ∧ okM late (lost : Int) ∧
  ∀ f', goodF late f' = true → (∀ p, unf (fs ++ [f']) p (lost + 1) → unf fs p (lost + 1)) → q (ftD f') L
theorem b_law_kept {ds : List D} {L : Lg} {q : D → Lg → Prop} {e : Xc → Lg → Prop} (c : Cf X (["fate", "fates", "measure", "number", "behind", "one"] : List Str) (["delay", "turns"] : List Str) (defScope (top 58)) F0 (fun y _ L' => e y L')) (T : Tx X.K X.mg)
    (h : S_law_kept ds L q e) :
    BK X F0 (defBody (top 58)) (ds.map some ++ List.replicate 4 none) L { nx := fun _ L' => q .non L', rt := q } := by
  obtain ⟨f, x, fs, late, number, lost, rfl, hx, hl, hgf, hgs, hm, h1⟩ := h
  have i1 : atI [D.int late, D.int (lost : Int)] 1 = some (.int (lost : Int)) := rfl
  have i0 : atI [D.int late, D.int (lost : Int)] 0 = some (.int late) := rfl
  have hcut : Vs.cutD (fsD fs) (some (((fsD fs).length : Int) - (lost : Int))) none = fsD (cutL fs (some ((fs.length : Int) - (lost : Int))) none) := by
    rw [fsD_len]
    exact cut_map
  obtain ⟨bh, hbh⟩ : ∃ bh, bh = cutL fs (some ((fs.length : Int) - (lost : Int))) none := ⟨_, rfl⟩
  have hbl : bh.length ≤ fs.length := by rw [hbh]; exact cutL_len
  have hbm : ∀ g ∈ bh, g ∈ fs := fun g hg => by
    rw [hbh] at hg
    unfold cutL at hg
    exact List.mem_of_mem_drop (List.mem_of_mem_take hg)
  have hbd : lost ≤ fs.length → bh = fs.drop (fs.length - lost) := fun z => by
    rw [hbh, show ((fs.length : Int) - (lost : Int)) = ((fs.length - lost : Nat) : Int) by omega]
    unfold cutL
    rw [HT.sIx_nat, Nat.min_eq_left (by omega)]
    exact List.take_of_length_le (by rw [List.length_drop]; show _ ≤ fs.length - (fs.length - lost); omega)
  have hend : (∃ g ∈ bh ++ [f], fit g = true) ∨ fs.length < lost → ∀ p, unf (fs ++ [f]) p (lost + 1) → unf fs p (lost + 1) := fun hz p hp => by
    rcases unf_snoc hp with h2 | ⟨h2, h3, h4⟩
    · exact h2
    · exfalso
      rcases hz with ⟨g, hg, hg2⟩ | hz
      · rcases List.mem_append.mp hg with hg | hg
        · rw [hbd (by omega)] at hg
          obtain ⟨k, hk⟩ := List.mem_iff_getElem?.mp hg
          rw [List.getElem?_drop] at hk
          have hkl := (List.getElem?_eq_some_iff.mp hk).1
          obtain ⟨g', hg', hg2'⟩ := h4 k (by omega)
          rw [show fs.length - lost + k = p + k by omega, hg'] at hk
          cases hk
          rw [hg2] at hg2'
          cases hg2'
        · rw [List.mem_singleton.mp hg, h3] at hg2
          cases hg2
      · omega
  refine bk_cons (sk_set c.toCn (ek_as (ek_sl (ek_n c.toCn (.s .z) (eo_s (ek_sub (ek_len T.no_len (c.toCn.gl) (ek_n c.toCn (.s .z) (⟨_, Or.inl hx, ⟨_, rfl, ek_ixT (ek_n c.toCn (.s (.s .z)) (ek_int (⟨_, _, _, rfl, rfl, (i1), ⟨_, rfl, ⟨_, rfl, eo_n (⟨_, hx, D.lst (fsD bh), congrArg D.lst (by rw [hcut, hbh]), ⟨_, (.s (.s (.s (.s .z)))), ?_⟩⟩)⟩⟩⟩))) (fun _ _ => rfl)⟩⟩)))))))))
  have hcat : fsD bh ++ [ftD f] = fsD (bh ++ [f]) := by
    unfold fsD
    rw [List.map_append]
    rfl
  have hgall : ∀ g ∈ bh ++ [f], g.length ≤ 3 := fun g hg => by
    rcases List.mem_append.mp hg with hg | hg
    · exact goodF_len (hgs g (hbm g hg))
    · rw [List.mem_singleton.mp hg]
      exact goodF_len hgf
  refine bk_cons (sk_for c (ei_list (ek_cat (ek_n c.toCn (.s (.s (.s (.s .z)))) (ek_lst (ea_cons (ek_n c.toCn .z (ea_nil (⟨(by first | exact sz_ok (Nat.le_of_ble_eq_true rfl) | (refine sz_ok ?_; rw [fsD_len]; show bh.length + 1 ≤ _; omega)), ⟨_, _, .lst, .lst, (by first | exact sz_ok (Nat.le_of_ble_eq_true rfl) | (refine sz_ok ?_; rw [fsD_len]; show bh.length + 1 ≤ _; omega)), ⟨_, rfl, ⟨fun i Γ L' => ∃ w1 w2 w3, Γ = [some (ftD f), some x, some (.tup [.int late, .int (lost : Int)]), some (.int number), some (.lst (fsD bh)), w1, w2, w3] ∧ L' = L, ?_, fun F1 c i d Γ L hd hP => ?_, fun Γ L hP => ?_⟩⟩⟩⟩)))))))))
  · exact ⟨_, _, _, rfl, rfl⟩
  · obtain ⟨w1, w2, w3, rfl, rfl⟩ := hP
    rw [hcat] at hd
    obtain ⟨g, hg1, rfl⟩ := fs_get hd
    have hgm := List.mem_of_getElem? hg1
    have hg3 := hgall g hgm
    refine tg_n c.toCn ⟨_, (.s (.s (.s (.s (.s .z))))), ?_⟩
    refine bk_one (sk_if (et_gt (ek_len T.no_len (c.toCn.gl) (ek_lc [("delay", 6), ("turns", 7)] c.toCn c.calm (by decide +kernel) (ei_p (ei_tup (ek_n c.toCn (.s (.s (.s (.s (.s .z))))) (⟨_, rfl, ⟨g.map fun x => if fitA x then some (trD x.2) else none, ?_, ?_, ?_, ⟨_, Or.inl .lst, ⟨_, rfl, ek_int (⟨_, rfl, ⟨fun ht => ?_, fun ht => ?_⟩⟩)⟩⟩⟩⟩))))))))
    · rw [List.length_map, List.length_map]
    · rw [List.length_map]
      omega
    · intro F1 n d e acc Dp hd he
      obtain ⟨x, hx, rfl⟩ := ft_get hd
      have he' := map_at hx he
      subst he'
      have e1 : fitA x = decide (((x.2.map prD).length : Int) < 3) := by
        rw [List.length_map]
        unfold fitA
        exact decide_eq_decide.mpr (by omega)
      intro X' cb hX'
      obtain ⟨s0, H0, C0, cl, fp, rfl⟩ := hX'
      refine tb_tup cb ⟨_, rfl, rfl, tnb_c cb ⟨_, (.s (.s (.s (.s (.s (.s .z)))))), tnb_c cb ⟨_, (.s (.s (.s (.s (.s (.s (.s .z))))))), tnb_z ⟨rfl, fun X' cb hX' => ?_⟩⟩⟩⟩
      obtain ⟨s0, H0, C0, cl, fp, rfl⟩ := hX'
      refine es_one (et_lt (ek_len T.no_len cb.gl (ek_b cb (.s (.s (.s (.s (.s (.s (.s .z))))))) (⟨_, Or.inr rfl, ⟨_, rfl, ek_int (⟨_, rfl, ⟨rfl, fun ht X' cb hX' => ?_, fun ht => ?_⟩⟩)⟩⟩))))
      · obtain ⟨s0, H0, C0, cl, fp, rfl⟩ := hX'
        refine ek_b cb (.s (.s (.s (.s (.s (.s (.s .z))))))) (?_)
        refine ⟨rfl, ?_⟩
        rw [if_pos (by rw [e1]; exact ht)]
      · rw [if_neg (by rw [e1, ht]; decide)]
    · rw [fm_len, filt_any] at ht
      refine bk_one (sk_ret (ek_n c.toCn .z (?_)))
      exact h1 f hgf (hend (.inl ⟨g, hgm, ht⟩))
    · rw [fm_len, filt_any] at ht
      exact bk_nil ⟨_, _, _, rfl, rfl⟩
  · obtain ⟨w1, w2, w3, rfl, rfl⟩ := hP
    refine bk_cons (sk_if (et_lt (ek_len T.no_len (c.toCn.gl) (ek_n c.toCn (.s (.s (.s (.s .z)))) (⟨_, Or.inl .lst, ⟨_, rfl, ek_ixT (ek_n c.toCn (.s (.s .z)) (ek_int (⟨_, _, _, rfl, rfl, (i1), ⟨_, rfl, ⟨fun ht => ?_, fun ht => ?_⟩⟩⟩))) (fun _ _ => rfl)⟩⟩)))))
    · refine bk_one (sk_ret (ek_n c.toCn .z (?_)))
      refine h1 f hgf (hend (.inr ?_))
      rw [fsD_len] at ht
      simp at ht
      refine Classical.byContradiction fun hn => ?_
      rw [hbd (by omega), List.length_drop] at ht
      omega
    · refine bk_nil ?_
      have hd1 := Int.emod_nonneg (number / 16) (show late ≠ 0 by have := hm.1.1; omega)
      have hd2 := Int.emod_lt_of_pos (number / 16) (show 0 < late by have := hm.1.1; omega)
      have hl6 := hm.1.1
      refine bk_one (sk_ret (ek_tup (ea_cons (ek_tup (ea_cons (ek_add (ek_int (⟨_, rfl, ek_mod (ek_fdiv (ek_n c.toCn (.s (.s (.s .z))) (⟨_, rfl, ek_int (⟨_, rfl, (by walk_at "vdiv"), ⟨_, rfl, ek_ixT (ek_n c.toCn (.s (.s .z)) (ek_int (⟨_, _, _, rfl, rfl, (i0), ⟨_, rfl, (by walk_at "vpos"), ⟨_, rfl, ea_cons (ek_tup (ea_nil (⟨(by walk_at "vlen"), ea_nil (⟨(by walk_at "vlen"), ea_nil (⟨(by walk_at "vlen"), ?_⟩)⟩)⟩)))⟩⟩⟩))) (fun _ _ => rfl)⟩⟩)⟩)))⟩))))))))
      generalize number / 16 % late = dl at *
      refine h1 [(1 + dl, [])] (goodF_mk (Nat.le_of_ble_eq_true rfl) fun x hx => ?_) fun p hp => ?_
      · rw [List.mem_singleton.mp hx]
        exact ⟨by show (1 : Int) ≤ 1 + dl; omega, by show 1 + dl ≤ late; omega, rfl⟩
      · rcases unf_snoc hp with h2 | ⟨h2, h3, h4⟩
        · exact h2
        · cases h3
/-! _law_silent_right -/
def S_law_silent_right : SpD := fun ds L q _ => ∃ (pr : Int × Int) (a cc : Int) (x y : D) (R : List (List (List Int))) (fs : List FT) (late lost : Int), ds = [evD (.silent pr a cc), prD2 pr, .int cc, x, y, .tup [.int late, .int lost]] ∧ AsL L x (rcL R) ∧ AsL L y (fsD fs) ∧ okM late lost ∧ (∀ cs ∈ R, ∀ c ∈ cs, okc 24 c) ∧ fs.length ≤ 1000 ∧ (∀ f ∈ fs, f.length ≤ 1000) ∧
  shB R (late + lost) a cc = true ∧ brk fs late lost a cc = true ∧ q (.bl true) L
theorem b_law_silent_right {ds : List D} {L : Lg} {q : D → Lg → Prop} {e : Xc → Lg → Prop} (c : Cf X (["event", "pair", "tick", "came", "fates", "measure", "first", "last", "quiet"] : List Str) ([] : List Str) (defScope (top 59)) F0 (fun y _ L' => e y L')) (T : Tx X.K X.mg) (hr : Room 7 X.A)
    (G_is_shown : CalX X 7 "is_shown" (["came", "quiet", "first", "last"] : List Str) S_is_shown) (G_broken_by : CalX X 2 "broken_by" (["fates", "measure", "first", "last"] : List Str) S_broken_by) (h : S_law_silent_right ds L q e) :
    BK X F0 (defBody (top 59)) (ds.map some ++ List.replicate 3 none) L { nx := fun _ L' => q .non L', rt := q } := by
  obtain ⟨pr, a, cc, x, y, R, fs, late, lost, rfl, hx, hy, hm, hR, hfl, hff, hsh, hbr, h1⟩ := h
  have hu := hr.units
  have hm1 := hm.1.1
  have hm2 := hm.2
  refine bk_cons (sk_asg (ek_slT (ek_n c.toCn .z (eo_s (ek_int (⟨_, rfl, eo_n (⟨_, rfl, tg_tup c.calm ⟨_, rfl, rfl, tn_c c.toCn ⟨_, (.s (.s (.s (.s (.s (.s .z)))))), tn_c c.toCn ⟨_, (.s (.s (.s (.s (.s (.s (.s .z))))))), tn_z (?_)⟩⟩⟩⟩)⟩))))))
  refine bk_cons (sk_set c.toCn (ek_add (ek_ixT (ek_n c.toCn (.s (.s (.s (.s (.s .z))))) (ek_int (⟨_, _, _, rfl, rfl, (rfl), ⟨_, rfl, ek_ixT (ek_n c.toCn (.s (.s (.s (.s (.s .z))))) (ek_int (⟨_, _, _, rfl, rfl, (rfl), ⟨_, rfl, ⟨_, (.s (.s (.s (.s (.s (.s (.s (.s .z)))))))), ?_⟩⟩⟩))) (fun _ _ => rfl)⟩⟩))) (fun _ _ => rfl))))
  refine bk_cons (sk_if (et_w (ew_or (et_neD hu (ek_ixT (ek_n c.toCn .z (ek_int (⟨_, _, _, rfl, rfl, (rfl), ek_n c.toCn (.s .z) (⟨_, _, (dpd_pr2 _), (dpd_pr2 _), (shp_ok (k := 1) (shp_pr2 _) (by decide)), (shp_ok (k := 1) (shp_pr2 _) (by decide)), ⟨rfl, rfl⟩⟩)⟩))) (fun _ _ => rfl))) (fun hb => ew_or (et_neI (ek_n c.toCn (.s (.s (.s (.s (.s (.s (.s .z))))))) (⟨_, rfl, ek_n c.toCn (.s (.s .z)) (⟨_, rfl, ⟨rfl, rfl⟩⟩)⟩))) (fun hb => et_or1 (et_not (et_v (ek_call c.tk G_is_shown (hr.mono (by first | decide | exact Nat.le_refl _)) (ea_cons (ek_n c.toCn (.s (.s (.s .z))) (ea_cons (ek_n c.toCn (.s (.s (.s (.s (.s (.s (.s (.s .z)))))))) (ea_cons (ek_n c.toCn (.s (.s (.s (.s (.s (.s .z)))))) (ea_cons (ek_n c.toCn (.s (.s (.s (.s (.s (.s (.s .z))))))) (ea_nil (⟨_, R, _, _, _, rfl, hx, by omega, hR, ⟨_, rfl, ⟨rfl, rfl⟩⟩⟩)))))))))) (c.toCn.gl))))) (⟨rfl, rfl⟩)) (⟨fun ht => ?_, fun ht => ?_⟩))))
  · exfalso
    rw [hsh, shp_refl (shp_pr2 (k := 0) pr)] at ht
    simp at ht
  · refine bk_nil ?_
    refine bk_one (sk_ret (ek_call c.tk G_broken_by (hr.mono (by first | decide | exact Nat.le_refl _)) (ea_cons (ek_n c.toCn (.s (.s (.s (.s .z)))) (ea_cons (ek_n c.toCn (.s (.s (.s (.s (.s .z))))) (ea_cons (ek_n c.toCn (.s (.s (.s (.s (.s (.s .z)))))) (ea_cons (ek_n c.toCn (.s (.s (.s (.s (.s (.s (.s .z))))))) (ea_nil (⟨_, fs, _, _, _, _, rfl, hy, hfl, hff, hm2.1, ?_⟩)))))))))) (c.toCn.gl)))
    rw [hbr]
    exact h1
end
end K34


set_option Elab.async false
set_option linter.all false
set_option maxRecDepth 100000
set_option maxHeartbeats 4000000
set_option pp.deepTerms.threshold 16
namespace K34
open PySem PySem.Spec PyProof.Rows L2 Vs
local macro_rules | `(tactic| walk_at "vpos") => `(tactic| first | decide | omega)
local macro_rules | `(tactic| walk_at "vdiv") => `(tactic| first | exact ⟨by decide, by decide⟩ | (constructor <;> omega))
local macro_rules | `(tactic| walk_at "vpow") => `(tactic| exact ⟨by decide, by decide, by decide⟩)
local macro_rules | `(tactic| walk_at "vmul") => `(tactic| first | exact mulL ⟨by decide, by decide⟩ | exact mulR ⟨by decide, by decide⟩ | exact mulL (by constructor <;> omega) | exact mulR (by constructor <;> omega))
local macro_rules | `(tactic| walk_at "vlen") => `(tactic| first | exact sz_ok (Nat.le_of_ble_eq_true rfl) | exact sz_lt (Nat.le_of_ble_eq_true rfl) | (refine sz_ok ?_; simp only [List.length_append, List.length_cons, List.length_nil, List.length_map]; omega) | (refine sz_lt ?_; simp only [List.length_append, List.length_cons, List.length_nil, List.length_map]; omega))
local macro_rules | `(tactic| walk_at "vrng") => `(tactic| (refine ⟨?_, ?_⟩ <;> omega))
local macro_rules | `(tactic| walk_at "vix") => `(tactic| rfl)
local macro_rules | `(tactic| walk_at "vixn") => `(tactic| first | rfl | exact ixN_at (by omega) (by omega))
local macro_rules | `(tactic| walk_at "vkb") => `(tactic| decide +kernel)
local macro_rules | `(tactic| walk_at "vty") => `(tactic| first | exact .int | exact .bl | exact .lst | exact .str | exact .tup | exact .non | exact .own .z | exact tyd_as (by assumption))
local macro_rules | `(tactic| walk_at "vkit") => `(tactic| assumption)
local macro_rules | `(tactic| walk_at "vrep") => `(tactic| (refine ⟨by omega, by omega, ?_⟩; first | decide | (refine sz_ok ?_; simp only [List.length_cons, List.length_nil]; omega)))
section
variable {X : Cx} {F0 : Hp}
/-! _law_events_right -/
def prL (pr : Bool → Option (Int × Int)) : List D := [pairD (pr false), pairD (pr true)]
def inL (c : Bool → Nat) : List D := [.int (c false : Int), .int (c true : Int)]
theorem prL_at {pr : Bool → Option (Int × Int)} (b : Bool) : atI (prL pr) (sideI b) = some (pairD (pr b)) := by cases b <;> rfl
theorem inL_at {c : Bool → Nat} (b : Bool) : atI (inL c) (sideI b) = some (.int (c b : Int)) := by cases b <;> rfl
theorem prL_ix (b : Bool) {pr : Bool → Option (Int × Int)} : ixN (prL pr).length (sideI b) = some b.toNat := by cases b <;> rfl
theorem inL_ix (b : Bool) {c : Bool → Nat} : ixN (inL c).length (sideI b) = some b.toNat := by cases b <;> rfl
theorem prL_set {pr : Bool → Option (Int × Int)} (b : Bool) (o : Option (Int × Int)) : (prL pr).set b.toNat (pairD o) = prL (put2 pr b o) := by cases b <;> rfl
theorem inL_set {c : Bool → Nat} (b : Bool) (n : Nat) : (inL c).set b.toNat (.int (n : Int)) = inL (put2 c b n) := by cases b <;> rfl
def S_law_events_right : SpD := fun ds L q _ => ∃ (evs : List Ev) (b : Bool) (pp sp : Addr) (pr : Bool → Option (Int × Int)) (ct : Bool → Nat) (L1 : Lg) (i : Nat) (cs fx : List D) (x y : D) (R : List (List (List Int))) (fs : List FT) (late lost : Int) (p' : Option (Int × Int)),
  ds = [.lst (evL evs), .int (sideI b), .ref pp, .ref sp, .int (i : Int), .lst cs, .lst fx, .tup [.int late, .int lost]] ∧ L = (pp, .lst (prL pr)) :: (sp, .lst (inL ct)) :: L1 ∧ atI cs (sideI b) = some x ∧ atI fx (1 - sideI b) = some y ∧
  (∀ Y Z, AsL ((pp, Y) :: (sp, Z) :: L1) x (rcL R)) ∧ (∀ Y Z, AsL ((pp, Y) :: (sp, Z) :: L1) y (fsD fs)) ∧ okM late lost ∧ (∀ cs ∈ R, ∀ c ∈ cs, okc 24 c) ∧ fs.length ≤ 1000 ∧ (∀ f ∈ fs, f.length ≤ 1000) ∧
  Vld (pr b) evs p' ∧ (∀ p a cc, Ev.silent p a cc ∈ evs → cc = i ∧ shB R (late + lost) a cc = true ∧ brk fs late lost a cc = true) ∧
  ∀ n : Nat, ct b ≤ n → (ct b < n → ∃ p a cc, Ev.silent p a cc ∈ evs) → q (.bl true) ((pp, .lst (prL (put2 pr b p'))) :: (sp, .lst (inL (put2 ct b n))) :: L1)
theorem vld_cons {p r : Option (Int × Int)} {ev : Ev} {es : List Ev} (h : Vld p (ev :: es) r) : (∃ p1, Vld p1 es r ∧ (match ev with | .up q => p = none ∧ p1 = some q | .took _ => p1 = p ∧ p ≠ none | .anew q => p = some q ∧ p1 = none | .silent q _ _ => p = some q ∧ p1 = none)) := by
  cases h with
  | up h => exact ⟨_, h, rfl, rfl⟩
  | took h => exact ⟨_, h, rfl, fun z => (by cases z)⟩
  | anew h => exact ⟨_, h, rfl, rfl⟩
  | silent h => exact ⟨_, h, rfl, rfl⟩
theorem put2_put2 {α : Type} {f : Bool → α} {b : Bool} {x y : α} : put2 (put2 f b x) b y = put2 f b y := by
  funext c
  unfold put2
  split <;> rfl
theorem put2_self {α : Type} {f : Bool → α} {b : Bool} : put2 f b (f b) = f := by
  funext c
  by_cases hc : c = b
  · subst hc
    exact put2_at
  · exact put2_ne hc
theorem b_law_events_right {ds : List D} {L : Lg} {q : D → Lg → Prop} {e : Xc → Lg → Prop} (c : Cf X (["events", "side", "pairs", "silent", "tick", "came", "fates", "measure", "event"] : List Str) ([] : List Str) (defScope (top 60)) F0 (fun y _ L' => e y L')) (T : Tx X.K X.mg) (hr : Room 8 X.A)
    (G__law_silent_right : CalX X 8 "_law_silent_right" (["event", "pair", "tick", "came", "fates", "measure"] : List Str) S_law_silent_right) (h : S_law_events_right ds L q e) :
    BK X F0 (defBody (top 60)) (ds.map some ++ List.replicate 1 none) L { nx := fun _ L' => q .non L', rt := q } := by
  obtain ⟨evs, b, pp, sp, pr, ct, L1, i, cs, fx, x, y, R, fs, late, lost, p', rfl, rfl, hcs, hfx, hx, hy, hm, hR, hfl, hff, hv, hsil, h1⟩ := h
  refine bk_cons (sk_for c (ei_list (ek_n c.toCn .z (⟨_, rfl, ⟨fun n Γ L' => ∃ (w : Option D) (p : Option (Int × Int)) (m : Nat), Γ = [some (.lst (evL evs)), some (.int (sideI b)), some (.ref pp), some (.ref sp), some (.int (i : Int)), some (.lst cs), some (.lst fx), some (.tup [.int late, .int lost]), w] ∧ L' = (pp, .lst (prL (put2 pr b p))) :: (sp, .lst (inL (put2 ct b m))) :: L1 ∧ Vld p (evs.drop n) p' ∧ ct b ≤ m ∧ (ct b < m → ∃ p a cc, Ev.silent p a cc ∈ evs), ?_, fun F1 c n d Γ L hd hP => ?_, fun Γ L hP => ?_⟩⟩))))
  · exact ⟨_, pr b, ct b, rfl, by rw [put2_self, put2_self], hv, Nat.le_refl _, fun z => absurd z (Nat.lt_irrefl _)⟩
  · obtain ⟨w, p, m, rfl, rfl, hv2, hm1, hm2⟩ := hP
    obtain ⟨ev, hev1, rfl⟩ := map_at' hd
    have hev := List.mem_of_getElem? hev1
    have hnl := (List.getElem?_eq_some_iff.mp hev1).1
    have hdr : evs.drop n = ev :: evs.drop (n + 1) := by
      rw [List.drop_eq_getElem_cons hnl]
      congr 1
      rw [List.getElem?_eq_getElem hnl] at hev1
      exact Option.some.inj hev1
    rw [hdr] at hv2
    obtain ⟨p1, hv3, hv4⟩ := vld_cons hv2
    refine tg_n c.toCn ⟨_, (.s (.s (.s (.s (.s (.s (.s (.s .z)))))))), ?_⟩
    cases ev with
    | silent pr0 a cc =>
      obtain ⟨rfl, rfl⟩ := hv4
      obtain ⟨rfl, hs2, hs3⟩ := hsil pr0 a cc hev
      have hp0 : atI (prL (put2 pr b (some pr0))) (sideI b) = some (prD2 pr0) := by rw [prL_at, put2_at]; rfl
      refine bk_cut (fun Γ L' => ∃ m, Γ = [some (.lst (evL evs)), some (.int (sideI b)), some (.ref pp), some (.ref sp), some (.int (i : Int)), some (.lst cs), some (.lst fx), some (.tup [.int late, .int lost]), some (evD (.silent pr0 a (i : Int)))] ∧ L' = (pp, .lst (prL (put2 pr b (some pr0)))) :: (sp, .lst (inL (put2 ct b m))) :: L1 ∧ ct b ≤ m) (sk_if (et_eqS (ek_ixT (ek_n c.toCn (.s (.s (.s (.s (.s (.s (.s (.s .z)))))))) (ek_int (⟨_, _, _, rfl, rfl, (rfl), ⟨_, rfl, ek_str (⟨_, rfl, ⟨fun ht => ?_, fun ht => ?_⟩⟩)⟩⟩))) (fun _ _ => rfl)))) (fun Γ L hM => ?_)
      · refine bk_cons (sk_seti (ek_add (ek_ix (ek_n c.toCn (.s (.s (.s .z))) (ek_n c.toCn (.s .z) (⟨_, _, _, (.own (.s .z)), rfl, (by first | exact inL_at b | rfl), ⟨_, rfl, ek_int (⟨_, rfl, ek_n c.toCn (.s (.s (.s .z))) (ek_n c.toCn (.s .z) (⟨_, _, _, _, _, _, rfl, rfl, (.s .z), (inL_ix b), (.s .z), ?_⟩))⟩)⟩⟩))) (fun _ _ => rfl))))
        refine bk_one (sk_if (et_not (et_v (ek_call c.tk G__law_silent_right (hr.mono (by first | decide | exact Nat.le_refl _)) (ea_cons (ek_n c.toCn (.s (.s (.s (.s (.s (.s (.s (.s .z)))))))) (ea_cons (ek_ix (ek_n c.toCn (.s (.s .z)) (ek_n c.toCn (.s .z) (⟨_, _, _, (.own .z), rfl, (by first | exact hp0 | exact hcs | exact hfx | rfl), ea_cons (ek_n c.toCn (.s (.s (.s (.s .z)))) (ea_cons (ek_ix (ek_n c.toCn (.s (.s (.s (.s (.s .z))))) (ek_n c.toCn (.s .z) (⟨_, _, _, .lst, rfl, (by first | exact hp0 | exact hcs | exact hfx | rfl), ea_cons (ek_ix (ek_n c.toCn (.s (.s (.s (.s (.s (.s .z)))))) (ek_sub (ek_int (⟨_, rfl, ek_n c.toCn (.s .z) (⟨_, rfl, ⟨_, _, _, .lst, rfl, (by first | exact hp0 | exact hcs | exact hfx | rfl), ea_cons (ek_n c.toCn (.s (.s (.s (.s (.s (.s (.s .z))))))) (ea_nil (⟨_, _, _, _, _, R, fs, late, lost, rfl, hx _ _, hy _ _, hm, hR, hfl, hff, hs2, hs3, ⟨_, rfl, ⟨fun ht => ?_, fun ht => ?_⟩⟩⟩)))⟩⟩)⟩)))) (fun _ _ => rfl))⟩))) (fun _ _ => rfl))))⟩))) (fun _ _ => rfl))))) (c.toCn.gl)))))
        · cases ht
        · refine bk_nil ⟨m + 1, rfl, ?_, by omega⟩
          rw [put2_at, show ((m : Int) + 1) = ((m + 1 : Nat) : Int) by omega, inL_set, put2_put2]
      · exact absurd ht (by decide)
      obtain ⟨m', rfl, rfl, hm'⟩ := hM
      refine bk_one (sk_if (et_neS (ek_ixT (ek_n c.toCn (.s (.s (.s (.s (.s (.s (.s (.s .z)))))))) (ek_int (⟨_, _, _, rfl, rfl, (by first | rfl | exact prL_at b), ⟨_, rfl, ek_str (⟨_, rfl, ⟨fun ht => ?_, fun ht => ?_⟩⟩)⟩⟩))) (fun _ _ => rfl))))
      · refine bk_one (sk_seti (ek_ix (ek_lst (ea_cons (ek_non (ea_cons (ek_ixT (ek_n c.toCn (.s (.s (.s (.s (.s (.s (.s (.s .z)))))))) (ek_int (⟨_, _, _, rfl, rfl, (rfl), ea_nil (⟨(by walk_at "vlen"), ek_intB T.no_int (c.toCn.gl) (ek_eqS (ek_ixT (ek_n c.toCn (.s (.s (.s (.s (.s (.s (.s (.s .z)))))))) (ek_int (⟨_, _, _, rfl, rfl, (rfl), ⟨_, rfl, ek_str (⟨_, rfl, ⟨_, rfl, ⟨_, _, _, .lst, rfl, (rfl), ek_n c.toCn (.s (.s .z)) (ek_n c.toCn (.s .z) (⟨_, _, _, _, _, _, rfl, rfl, .z, (prL_ix b), .z, ?_⟩))⟩⟩⟩)⟩⟩))) (fun _ _ => rfl)))⟩)⟩))) (fun _ _ => rfl)))))) (fun _ _ => rfl)))
        refine ⟨_, none, m', rfl, ?_, hv3, hm', fun _ => ⟨pr0, a, _, hev⟩⟩
        rw [← put2_put2 (x := some pr0) (y := none)]
        exact congrArg (fun z => ((pp, C.lst z) :: (sp, C.lst (inL (put2 ct b m'))) :: L1 : Lg)) (prL_set b (none))
      · exact absurd ht (by decide)
    | up pr0 =>
      obtain ⟨rfl, rfl⟩ := hv4
      refine bk_cons (sk_if (et_eqS (ek_ixT (ek_n c.toCn (.s (.s (.s (.s (.s (.s (.s (.s .z)))))))) (ek_int (⟨_, _, _, rfl, rfl, (rfl), ⟨_, rfl, ek_str (⟨_, rfl, ⟨fun ht => ?_, fun ht => ?_⟩⟩)⟩⟩))) (fun _ _ => rfl))))
      · exact absurd ht (by decide)
      refine bk_nil ?_
      refine bk_one (sk_if (et_neS (ek_ixT (ek_n c.toCn (.s (.s (.s (.s (.s (.s (.s (.s .z)))))))) (ek_int (⟨_, _, _, rfl, rfl, (by first | rfl | exact prL_at b), ⟨_, rfl, ek_str (⟨_, rfl, ⟨fun ht => ?_, fun ht => ?_⟩⟩)⟩⟩))) (fun _ _ => rfl))))
      · refine bk_one (sk_seti (ek_ix (ek_lst (ea_cons (ek_non (ea_cons (ek_ixT (ek_n c.toCn (.s (.s (.s (.s (.s (.s (.s (.s .z)))))))) (ek_int (⟨_, _, _, rfl, rfl, (by first | rfl | exact (show atI [D.non, prD2 pr0] 1 = some (prD2 pr0) from rfl)), ea_nil (⟨(by walk_at "vlen"), ek_intB T.no_int (c.toCn.gl) (ek_eqS (ek_ixT (ek_n c.toCn (.s (.s (.s (.s (.s (.s (.s (.s .z)))))))) (ek_int (⟨_, _, _, rfl, rfl, (by first | rfl | exact (show atI [D.non, prD2 pr0] 1 = some (prD2 pr0) from rfl)), ⟨_, rfl, ek_str (⟨_, rfl, ⟨_, rfl, ⟨_, _, _, .lst, rfl, (by first | rfl | exact (show atI [D.non, prD2 pr0] 1 = some (prD2 pr0) from rfl)), ek_n c.toCn (.s (.s .z)) (ek_n c.toCn (.s .z) (⟨_, _, _, _, _, _, rfl, rfl, .z, (prL_ix b), .z, ?_⟩))⟩⟩⟩)⟩⟩))) (fun _ _ => rfl)))⟩)⟩))) (fun _ _ => rfl)))))) (fun _ _ => rfl)))
        refine ⟨_, some pr0, m, rfl, ?_, hv3, hm1, hm2⟩
        rw [← put2_put2 (x := none) (y := some pr0)]
        exact congrArg (fun z => ((pp, C.lst z) :: (sp, C.lst (inL (put2 ct b m))) :: L1 : Lg)) (prL_set b (some pr0))
      · exact absurd ht (by decide)
    | anew pr0 =>
      obtain ⟨rfl, rfl⟩ := hv4
      refine bk_cons (sk_if (et_eqS (ek_ixT (ek_n c.toCn (.s (.s (.s (.s (.s (.s (.s (.s .z)))))))) (ek_int (⟨_, _, _, rfl, rfl, (rfl), ⟨_, rfl, ek_str (⟨_, rfl, ⟨fun ht => ?_, fun ht => ?_⟩⟩)⟩⟩))) (fun _ _ => rfl))))
      · exact absurd ht (by decide)
      refine bk_nil ?_
      refine bk_one (sk_if (et_neS (ek_ixT (ek_n c.toCn (.s (.s (.s (.s (.s (.s (.s (.s .z)))))))) (ek_int (⟨_, _, _, rfl, rfl, (by first | rfl | exact prL_at b), ⟨_, rfl, ek_str (⟨_, rfl, ⟨fun ht => ?_, fun ht => ?_⟩⟩)⟩⟩))) (fun _ _ => rfl))))
      · refine bk_one (sk_seti (ek_ix (ek_lst (ea_cons (ek_non (ea_cons (ek_ixT (ek_n c.toCn (.s (.s (.s (.s (.s (.s (.s (.s .z)))))))) (ek_int (⟨_, _, _, rfl, rfl, (rfl), ea_nil (⟨(by walk_at "vlen"), ek_intB T.no_int (c.toCn.gl) (ek_eqS (ek_ixT (ek_n c.toCn (.s (.s (.s (.s (.s (.s (.s (.s .z)))))))) (ek_int (⟨_, _, _, rfl, rfl, (rfl), ⟨_, rfl, ek_str (⟨_, rfl, ⟨_, rfl, ⟨_, _, _, .lst, rfl, (rfl), ek_n c.toCn (.s (.s .z)) (ek_n c.toCn (.s .z) (⟨_, _, _, _, _, _, rfl, rfl, .z, (prL_ix b), .z, ?_⟩))⟩⟩⟩)⟩⟩))) (fun _ _ => rfl)))⟩)⟩))) (fun _ _ => rfl)))))) (fun _ _ => rfl)))
        refine ⟨_, none, m, rfl, ?_, hv3, hm1, hm2⟩
        rw [← put2_put2 (x := some pr0) (y := none)]
        exact congrArg (fun z => ((pp, C.lst z) :: (sp, C.lst (inL (put2 ct b m))) :: L1 : Lg)) (prL_set b (none))
      · exact absurd ht (by decide)
    | took xs =>
      obtain ⟨rfl, _⟩ := hv4
      refine bk_cons (sk_if (et_eqS (ek_ixT (ek_n c.toCn (.s (.s (.s (.s (.s (.s (.s (.s .z)))))))) (ek_int (⟨_, _, _, rfl, rfl, (rfl), ⟨_, rfl, ek_str (⟨_, rfl, ⟨fun ht => ?_, fun ht => ?_⟩⟩)⟩⟩))) (fun _ _ => rfl))))
      · exact absurd ht (by decide)
      refine bk_nil ?_
      refine bk_one (sk_if (et_neS (ek_ixT (ek_n c.toCn (.s (.s (.s (.s (.s (.s (.s (.s .z)))))))) (ek_int (⟨_, _, _, rfl, rfl, (by first | rfl | exact prL_at b), ⟨_, rfl, ek_str (⟨_, rfl, ⟨fun ht => ?_, fun ht => ?_⟩⟩)⟩⟩))) (fun _ _ => rfl))))
      · exact absurd ht (by decide)
      · exact bk_nil ⟨_, _, m, rfl, rfl, hv3, hm1, hm2⟩
  · obtain ⟨w, p, m, rfl, rfl, hv2, hm1, hm2⟩ := hP
    rw [show (evL evs).length = evs.length from List.length_map .., List.drop_length] at hv2
    have hpe : p = p' := by cases hv2; rfl
    subst hpe
    refine bk_one (sk_ret (ek_bl (?_)))
    exact h1 m hm1 hm2
end
end K34


set_option Elab.async false
set_option linter.all false
set_option maxRecDepth 100000
set_option maxHeartbeats 4000000
set_option pp.deepTerms.threshold 16
namespace K34
open PySem PySem.Spec PyProof.Rows L2 Vs
local macro_rules | `(tactic| walk_at "vpos") => `(tactic| first | decide | omega)
local macro_rules | `(tactic| walk_at "vdiv") => `(tactic| first | exact ⟨by decide, by decide⟩ | (constructor <;> omega))
local macro_rules | `(tactic| walk_at "vpow") => `(tactic| exact ⟨by decide, by decide, by decide⟩)
local macro_rules | `(tactic| walk_at "vmul") => `(tactic| first | exact mulL ⟨by decide, by decide⟩ | exact mulR ⟨by decide, by decide⟩ | exact mulL (by constructor <;> omega) | exact mulR (by constructor <;> omega))
local macro_rules | `(tactic| walk_at "vlen") => `(tactic| first | exact sz_ok (Nat.le_of_ble_eq_true rfl) | exact sz_lt (Nat.le_of_ble_eq_true rfl) | (refine sz_ok ?_; simp only [List.length_append, List.length_cons, List.length_nil, List.length_map]; omega) | (refine sz_lt ?_; simp only [List.length_append, List.length_cons, List.length_nil, List.length_map]; omega))
local macro_rules | `(tactic| walk_at "vrng") => `(tactic| (refine ⟨?_, ?_⟩ <;> omega))
local macro_rules | `(tactic| walk_at "vix") => `(tactic| rfl)
local macro_rules | `(tactic| walk_at "vixn") => `(tactic| first | rfl | exact ixN_at (by omega) (by omega))
local macro_rules | `(tactic| walk_at "vkb") => `(tactic| decide +kernel)
local macro_rules | `(tactic| walk_at "vty") => `(tactic| first | exact .int | exact .bl | exact .lst | exact .str | exact .tup | exact .non | exact .own .z | exact tyd_as (by assumption))
local macro_rules | `(tactic| walk_at "vkit") => `(tactic| assumption)
local macro_rules | `(tactic| walk_at "vrep") => `(tactic| (refine ⟨by omega, by omega, ?_⟩; first | decide | (refine sz_ok ?_; simp only [List.length_cons, List.length_nil]; omega)))
section
variable {X : Cx} {F0 : Hp}
theorem sub_app {L R L1 : Lg} (h : (L ++ R).Perm L1) : SubP L L1 := ⟨_, List.sublist_append_left _ _, h⟩
theorem sub_tl {a : Addr × C} {L L1 : Lg} (h : L.Perm L1) : SubP L (a :: L1) := ⟨a :: L, List.sublist_cons_self _ _, h.cons a⟩
local macro_rules | `(tactic| walk_at "perm") => `(tactic| (classical (refine List.perm_iff_count.mpr fun x => ?_; simp only [List.count_append, List.count_cons, List.count_nil, List.count_reverse, Nat.zero_add, Nat.add_zero]; ac_rfl)))
/-! both sides, in the ledger -/
def sdB (K : PySem.W.Frag) (t : Sd) : Lg := lkW K t.p t.lp t.ep t.s (cmL t.M)
theorem sd_swap {K : PySem.W.Frag} (st : Bool → Sd) (b : Bool) : SubP (sdB K (st b) ++ sdB K (st !b)) (sdB K (st false) ++ sdB K (st true)) := by
  cases b
  · exact .refl
  · exact .of_perm List.perm_append_comm
theorem sd_back {K : PySem.W.Frag} (st : Bool → Sd) (b : Bool) : SubP (sdB K (st false) ++ sdB K (st true)) (sdB K (st b) ++ sdB K (st !b)) := by
  cases b
  · exact .refl
  · exact .of_perm List.perm_append_comm
def two (st : Bool → Sd) (f : Sd → D) : List D := [f (st false), f (st true)]
theorem two_at (st : Bool → Sd) (f : Sd → D) (b : Bool) : atI (two st f) (sideI b) = some (f (st b)) := by cases b <;> rfl
theorem two_oth (st : Bool → Sd) (f : Sd → D) (b : Bool) : atI (two st f) (1 - sideI b) = some (f (st !b)) := by cases b <;> rfl
theorem two_same {st st' : Bool → Sd} (b : Bool) (g : Sd → D) (h1 : g (st' b) = g (st b)) (h2 : g (st' !b) = g (st !b)) : two st' g = two st g := by
  unfold two
  cases b <;> simp only [Bool.not_false, Bool.not_true] at h1 h2 <;> rw [h1, h2]
/-- ticks done by side b, where the sides below j had their turn in tick i -/
def tkN (i j : Nat) (b : Bool) : Nat := i + if b.toNat < j then 1 else 0
theorem tkN_0 {i : Nat} {b : Bool} : tkN i 0 b = i := rfl
theorem tkN_2 {i : Nat} {b : Bool} : tkN i 2 b = i + 1 := by cases b <;> rfl
theorem tkN_at {i j : Nat} {b : Bool} (h : b.toNat = j) : tkN i j b = i := by
  unfold tkN
  rw [if_neg (by omega)]
  rfl
theorem tkN_put {i j : Nat} {b : Bool} (h : b.toNat = j) : put2 (tkN i j) b (tkN i j b + 1) = tkN i (j + 1) := by
  funext c
  unfold put2 tkN
  cases b <;> cases c <;> simp only [Bool.toNat, cond_true, cond_false] at h ⊢ <;> subst h <;> rfl
theorem tkN_oth {i j : Nat} {b : Bool} (h : b.toNat = j) : tkN i (j + 1) (!b) = tkN i j !b := by
  unfold tkN
  cases b <;> simp only [Bool.toNat, cond_true, cond_false, Bool.not_true, Bool.not_false] at h ⊢ <;> subst h <;> rfl
theorem tkN_le {i j : Nat} {b : Bool} : i ≤ tkN i j b ∧ tkN i j b ≤ i + 1 := by
  unfold tkN
  split <;> omega
theorem side_of {j : Nat} (h : j < 2) : ∃ b : Bool, (0 : Int) + (j : Int) = sideI b ∧ b.toNat = j := by
  match j, h with
  | 0, _ => exact ⟨false, rfl, rfl⟩
  | 1, _ => exact ⟨true, rfl, rfl⟩
theorem sd_split {K : PySem.W.Frag} {t u : Sd} : sdB K t ++ sdB K u = lkW K t.p t.lp t.ep t.s (cmL t.M ++ sdB K u) := rfl
theorem rows_empty {M : CmM} (he : ∀ m ∈ M, m.2 = []) (k : Nat) : rowsAt M.reverse k = [] := by
  unfold rowsAt
  cases hm : M.reverse[k]? with
  | none => rfl
  | some m => exact he m (List.mem_reverse.mp (List.mem_of_getElem? hm))
theorem way_empty {late : Int} {len : Nat} {M : CmM} (he : ∀ m ∈ M, m.2 = []) (hl : M.length = len) : WayOk late len 0 M.reverse [] :=
  ⟨by rw [List.length_reverse]; exact hl, rfl, fun k => rows_empty he k, fun g hg => by cases hg⟩
/-! both sides with what came and the fates -/
def fO (G : Gv) : List FT := G.map (·.2)
def sdC (K : PySem.W.Frag) (cp fp : Bool → Addr) (T : Bool → Nat) (G : Bool → Gv) (st : Bool → Sd) (b : Bool) : Lg := (cp b, C.lst (rcL (cameOf (G !b) (T b)))) :: (fp b, C.lst (fsD (fO (G b)))) :: sdB K (st b)
def sdAll (K : PySem.W.Frag) (pp sp : Addr) (pr : Bool → Option (Int × Int)) (ct : Bool → Nat) (cp fp : Bool → Addr) (T : Bool → Nat) (G : Bool → Gv) (st : Bool → Sd) : Lg := (pp, C.lst (prL pr)) :: (sp, C.lst (inL ct)) :: (sdC K cp fp T G st false ++ sdC K cp fp T G st true)
def unfW (fs : List FT) (n : Nat) : Prop := ∃ p, unf fs p n
theorem unfW_snoc {fs : List FT} {f : FT} {n : Nat} (h : unfW fs n) : unfW (fs ++ [f]) n := by
  obtain ⟨p, hp⟩ := h
  exact ⟨p, fun j hj => by
    obtain ⟨g, h1, h2⟩ := hp j hj
    exact ⟨g, get_snoc h1, h2⟩⟩
/-! law -/
def S_law (K : PySem.W.Frag) : SpD := fun ds L q _ => ∃ ns : List Int, ds = [.lst (dI ns)] ∧ ns.length ≤ 63 ∧ ∀ L', q (.bl true) L'
theorem b_law {ds : List D} {L : Lg} {q : D → Lg → Prop} {e : Xc → Lg → Prop} (c : Cf X (["script", "numbers", "measure", "quiet", "ticks", "ends", "pairs", "came", "fates", "silent", "coming", "tick", "cell", "drawn", "side", "given", "fate"] : List Str) (["k", "row"] : List Str) (defScope (top 61)) F0 (fun y _ L' => e y L')) (T : Tx X.K X.mg) (hr : Room 9 X.A)
    (G__law_numbers : CalX X 1 "_law_numbers" (["cell", "many"] : List Str) S_law_numbers) (G__law_measure : CalX X 1 "_law_measure" (["number"] : List Str) S_law_measure) (G__law_cell : CalX X 1 "_law_cell" (["script", "k"] : List Str) S_law_cell) (G__law_fate : CalX X 2 "_law_fate" (["number", "late"] : List Str) S_law_fate) (G__law_give : CalX X 2 "_law_give" (["coming", "cell", "fate", "tick", "births"] : List Str) S_law_give)
    (G__law_dead : CalX X 1 "_law_dead" (["numbers", "side", "tick"] : List Str) S_law_dead) (G__law_kept : CalX X 1 "_law_kept" (["fate", "fates", "measure", "number"] : List Str) S_law_kept) (G__law_events_right : CalX X 9 "_law_events_right" (["events", "side", "pairs", "silent", "tick", "came", "fates", "measure"] : List Str) S_law_events_right) (G_is_shown : CalX X 7 "is_shown" (["came", "quiet", "first", "last"] : List Str) S_is_shown) (G_keeps : CalX X 4 "keeps" (["fates", "measure"] : List Str) S_keeps)
    (G_LinkEnd : MkX X 4 "LinkEnd" (He.ga X.K "LinkEnd") (["self", "measure", "side"] : List Str) (S_link X.K)) (G_LinkEnd_tick : MetX X 7 (He.ga X.K "LinkEnd") "tick" (["self", "cells"] : List Str) (S_tick X.K)) (G_LinkEnd_events : MetX X 1 (He.ga X.K "LinkEnd") "events" (["self"] : List Str) (S_events X.K))
    (h : S_law X.K ds L q e) :
    BK X F0 (defBody (top 61)) (ds.map some ++ List.replicate 18 none) L { nx := fun _ L' => q .non L', rt := q } := by
  obtain ⟨ns, rfl, hns, h1⟩ := h
  have hu := hr.units
  refine bk_cons (sk_set c.toCn (ek_call c.tk G__law_numbers (hr.mono (by first | decide | exact Nat.le_refl _)) (ea_cons (ek_call c.tk G__law_cell (hr.mono (by first | decide | exact Nat.le_refl _)) (ea_cons (ek_n c.toCn .z (ea_cons (ek_int (ea_nil (⟨ns, 0, rfl, ea_cons (ek_int (ea_nil (⟨_, 6, rfl, by decide, fun nums hnl hnn => ⟨_, (.s .z), ?_⟩⟩)))⟩)))))) (c.toCn.gl))) (c.toCn.gl)))
  match nums, hnl, hnn with
  | [n0, n1, n2, n3, n4, n5], _, hnn =>
  have hn0 : 0 ≤ n0 := hnn _ (by simp)
  refine bk_cons (sk_set c.toCn (ek_call c.tk G__law_measure (hr.mono (by first | decide | exact Nat.le_refl _)) (ea_cons (ek_ix (ek_n c.toCn (.s .z) (ek_int (⟨_, _, _, .lst, rfl, (rfl), ea_nil (⟨_, rfl, hn0, fun late lost hm => ⟨_, (.s (.s .z)), ?_⟩⟩)⟩))) (fun _ _ => rfl))) (c.toCn.gl)))
  have hm1 := hm.1
  have hm2 := hm.2
  obtain ⟨lost, rfl⟩ : ∃ n : Nat, lost = (n : Int) := ⟨lost.toNat, by omega⟩
  refine bk_cons (sk_set c.toCn (ek_add (ek_ixT (ek_n c.toCn (.s (.s .z)) (ek_int (⟨_, _, _, rfl, rfl, (rfl), ⟨_, rfl, ek_ixT (ek_n c.toCn (.s (.s .z)) (ek_int (⟨_, _, _, rfl, rfl, (rfl), ⟨_, rfl, ⟨_, (.s (.s (.s .z))), ?_⟩⟩⟩))) (fun _ _ => rfl)⟩⟩))) (fun _ _ => rfl))))
  refine bk_cons (sk_set c.toCn (ek_add (ek_int (⟨_, rfl, ek_min2 c.calm T.no_min (c.toCn.gl) (ek_int (⟨_, rfl, ek_len T.no_len (c.toCn.gl) (ek_n c.toCn .z (⟨_, Or.inl .lst, ⟨_, rfl, ⟨_, rfl, ⟨_, (.s (.s (.s (.s .z)))), ?_⟩⟩⟩⟩))⟩))⟩))))
  obtain ⟨tks, htk⟩ : ∃ tks : Nat, 20 + (if ((dI ns).length : Int) < 24 then ((dI ns).length : Int) else 24) = (tks : Int) := ⟨(20 + (if ((dI ns).length : Int) < 24 then ((dI ns).length : Int) else 24)).toNat, by split <;> omega⟩
  have htk3 : tks ≤ 44 := by
    split at htk <;> omega
  rw [htk]
  refine bk_cons (sk_set c.toCn (ek_lst (ea_cons (ek_make c.tk G_LinkEnd (hr.mono (by first | decide | exact Nat.le_refl _)) (ea_cons (ek_n c.toCn (.s (.s .z)) (ea_cons (ek_int (ea_nil (fun pE5 => ⟨pE5, _, _, _, _, rfl, rfl, fun hm5 lp5 ep5 => ⟨rfl, ea_cons (ek_make c.tk G_LinkEnd (hr.mono (by first | decide | exact Nat.le_refl _)) (ea_cons (ek_n c.toCn (.s (.s .z)) (ea_cons (ek_int (ea_nil (fun pE4 => ⟨pE4, _, _, _, _, rfl, rfl, fun hm4 lp4 ep4 => ⟨rfl, ea_nil (⟨(by walk_at "vlen"), ⟨_, (.s (.s (.s (.s (.s .z))))), ?_⟩⟩)⟩, fun hm4 => ?_⟩)))))) (c.toCn.gl))⟩, fun hm5 => ?_⟩)))))) (c.toCn.gl)))))
  case refine_2 => exact absurd hm hm4
  case refine_3 => exact absurd hm hm5
  obtain ⟨L0, hL0⟩ : ∃ L0, L0 = L := ⟨_, rfl⟩
  rw [← hL0]
  clear hL0
  refine bk_cons (sk_set c.toCn (ek_lstO (ea_cons (ek_non (ea_cons (ek_non (ea_nil (⟨(by walk_at "vlen"), fun p_pairs => ⟨_, (.s (.s (.s (.s (.s (.s .z)))))), ?_⟩⟩))))))))
  refine bk_cons (sk_set c.toCn (ek_lst (ea_cons (ek_lstO (ea_nil (⟨(by walk_at "vlen"), fun p_own12 => ea_cons (ek_lstO (ea_nil (⟨(by walk_at "vlen"), fun p_own16 => ea_nil (⟨(by walk_at "vlen"), ⟨_, (.s (.s (.s (.s (.s (.s (.s .z))))))), ?_⟩⟩)⟩)))⟩))))))
  refine bk_cons (sk_set c.toCn (ek_lst (ea_cons (ek_lstO (ea_nil (⟨(by walk_at "vlen"), fun p_own13 => ea_cons (ek_lstO (ea_nil (⟨(by walk_at "vlen"), fun p_own17 => ea_nil (⟨(by walk_at "vlen"), ⟨_, (.s (.s (.s (.s (.s (.s (.s (.s .z)))))))), ?_⟩⟩)⟩)))⟩))))))
  refine bk_cons (sk_set c.toCn (ek_lstO (ea_cons (ek_int (ea_cons (ek_int (ea_nil (⟨(by walk_at "vlen"), fun p_silent => ⟨_, (.s (.s (.s (.s (.s (.s (.s (.s (.s .z))))))))), ?_⟩⟩))))))))
  obtain ⟨LB, hLB⟩ : ∃ LB, LB = ((p_silent, C.lst [D.int 0, D.int 0]) :: (p_own17, C.lst []) :: (p_own13, C.lst []) :: (p_own16, C.lst []) :: (p_own12, C.lst []) :: (p_pairs, C.lst [D.non, D.non]) :: lkW X.K pE4 lp4 ep4 (fresh (late + lost) 1) (lkW X.K pE5 lp5 ep5 (fresh (late + lost) 0) L0) : Lg) := ⟨_, rfl⟩
  refine bk_lg (L := LB) (by rw [hLB]; exact .refl) ?_
  refine bk_cons (sk_set c.toCn (ek_lst (ea_cons (ek_frz (ek_lcO [("k", 17)] c.toCn c.calm (by decide +kernel) (ei_range1 T.no_range (c.toCn.gl) (ek_add (ek_n c.toCn (.s (.s (.s (.s .z)))) (⟨_, rfl, ek_int (⟨_, rfl, ⟨_, rfl, (by refine ⟨?_, ?_⟩ <;> omega), ⟨fun n acc1 L' => ∃ M1 : CmM, acc1 = rf M1.reverse ∧ L' = cmL M1 ++ LB ∧ M1.length = n ∧ ∀ m ∈ M1, m.2 = [], ?_, ?_, ?_, fun acc1 L1 Dp1 hP1 hacc1 => ⟨_, _, _, _, rfl, .z, ea_cons (ek_frz (ek_lcO [("k", 17)] c.toCn c.calm (by decide +kernel) (ei_range1 T.no_range (c.toCn.gl) (ek_add (ek_n c.toCn (.s (.s (.s (.s .z)))) (⟨_, rfl, ek_int (⟨_, rfl, ⟨_, rfl, (by refine ⟨?_, ?_⟩ <;> omega), ⟨fun n acc L' => ∃ M : CmM, acc = rf M.reverse ∧ L' = cmL M ++ L1 ∧ M.length = n ∧ ∀ m ∈ M, m.2 = [], ?_, ?_, ?_, fun acc L Dp hP hacc => ⟨_, _, _, _, rfl, .z, ea_nil (⟨(by walk_at "vlen"), ⟨_, (.s (.s (.s (.s (.s (.s (.s (.s (.s (.s .z)))))))))), ?_⟩⟩)⟩⟩⟩⟩)⟩))))))⟩⟩⟩⟩)⟩)))))))))
  case refine_1 => exact ⟨[], rfl, rfl, rfl, fun m hm => by cases hm⟩
  case refine_2 => rw [rangeD_len]; omega
  case refine_4 => exact ⟨[], rfl, rfl, rfl, fun m hm => by cases hm⟩
  case refine_5 => rw [rangeD_len]; omega
  case refine_3 =>
    intro F1 n d acc Lc Dp hd hacc hP
    obtain ⟨M1, rfl, rfl, hl, he⟩ := hP
    intro X' cb hX'
    obtain ⟨s0, H0, C0, cl, fp, rfl⟩ := hX'
    refine tb_n cb ⟨_, (.s (.s (.s (.s (.s (.s (.s (.s (.s (.s (.s (.s (.s (.s (.s (.s (.s .z))))))))))))))))), fun X' cb hX' => ?_⟩
    obtain ⟨s0, H0, C0, cl, fp, rfl⟩ := hX'
    refine es_nil ⟨fun _ X' cb hX' => ?_, fun h => nomatch h⟩
    obtain ⟨s0, H0, C0, cl, fp, rfl⟩ := hX'
    refine ek_lstO (ea_nil (⟨(by walk_at "vlen"), fun p_item => ?_⟩))
    refine ⟨(p_item, C.lst []) :: (cmL M1 ++ LB), rfl, (p_item, []) :: M1, ?_, rfl, by rw [List.length_cons, hl], fun m hm => ?_⟩
    · rw [List.reverse_cons]
      show _ = rf (M1.reverse ++ [(p_item, [])])
      unfold rf
      rw [List.map_append]
      rfl
    · rcases List.mem_cons.mp hm with rfl | hm
      · rfl
      · exact he m hm
  case refine_6 =>
    intro F1 n d acc Lc Dp hd hacc hP
    obtain ⟨M1, rfl, rfl, hl, he⟩ := hP
    intro X' cb hX'
    obtain ⟨s0, H0, C0, cl, fp, rfl⟩ := hX'
    refine tb_n cb ⟨_, (.s (.s (.s (.s (.s (.s (.s (.s (.s (.s (.s (.s (.s (.s (.s (.s (.s .z))))))))))))))))), fun X' cb hX' => ?_⟩
    obtain ⟨s0, H0, C0, cl, fp, rfl⟩ := hX'
    refine es_nil ⟨fun _ X' cb hX' => ?_, fun h => nomatch h⟩
    obtain ⟨s0, H0, C0, cl, fp, rfl⟩ := hX'
    refine ek_lstO (ea_nil (⟨(by walk_at "vlen"), fun p_item => ?_⟩))
    refine ⟨(p_item, C.lst []) :: (cmL M1 ++ L1), rfl, (p_item, []) :: M1, ?_, rfl, by rw [List.length_cons, hl], fun m hm => ?_⟩
    · rw [List.reverse_cons]
      show _ = rf (M1.reverse ++ [(p_item, [])])
      unfold rf
      rw [List.map_append]
      rfl
    · rcases List.mem_cons.mp hm with rfl | hm
      · rfl
      · exact he m hm
  obtain ⟨M1, rfl, rfl, hl1, he1⟩ := hP1
  obtain ⟨M, rfl, rfl, hl, he⟩ := hP
  rw [rangeD_len] at hl1 hl
  obtain ⟨st0, hst0⟩ : ∃ st0 : Bool → Sd, st0 = fun b => if b then ⟨pE4, lp4, ep4, fresh (late + lost) 1, M.reverse⟩ else ⟨pE5, lp5, ep5, fresh (late + lost) 0, M1.reverse⟩ := ⟨_, rfl⟩
  obtain ⟨cp, hcp⟩ : ∃ cp : Bool → Addr, cp = fun b => if b then p_own16 else p_own12 := ⟨_, rfl⟩
  obtain ⟨fp, hfp⟩ : ∃ fp : Bool → Addr, fp = fun b => if b then p_own17 else p_own13 := ⟨_, rfl⟩
  have hway0 : ∀ b, WayOk late (tks + 7) 0 (st0 b).M [] := fun b => by
    rw [hst0]
    cases b with
    | false => exact way_empty he1 (by omega)
    | true => exact way_empty he (by omega)
  have hs0 : (fun b => (st0 b).s) = fun b => fresh (late + lost) (sideI b) := by
    rw [hst0]
    funext b
    cases b <;> rfl
  have hperm0 : SubP (sdAll X.K p_pairs p_silent (fun _ => none) (fun _ => 0) cp fp (tkN 0 0) (fun _ => []) st0) (cmL M ++ (cmL M1 ++ LB)) := by
    refine sub_app (R := L0) ?_
    rw [hLB, hst0, hcp, hfp]
    unfold sdAll sdC sdB lkW cmL
    simp only [if_true, if_false, Bool.false_eq_true, List.map_reverse]
    show ((p_pairs, C.lst [D.non, D.non]) :: (p_silent, C.lst [D.int 0, D.int 0]) :: (((p_own12, C.lst []) :: (p_own13, C.lst []) :: _) ++ ((p_own16, C.lst []) :: (p_own17, C.lst []) :: _)) ++ L0 : Lg).Perm _
    walk_at "perm"
  refine bk_lg hperm0 ?_
  obtain ⟨EE, hEE⟩ : ∃ EE, EE = two st0 fun t => D.ref t.p := ⟨_, rfl⟩
  obtain ⟨CC, hCC⟩ : ∃ CC, CC = two st0 fun t => D.lst (rf t.M) := ⟨_, rfl⟩
  have hg : [some (D.lst (dI ns)), some (D.lst (dI [n0, n1, n2, n3, n4, n5])), some (D.tup [D.int late, D.int lost]), some (D.int (late + lost)), some (D.int (tks : Int)), some (D.lst [D.ref pE5, D.ref pE4]), some (D.ref p_pairs), some (D.lst [D.ref p_own12, D.ref p_own16]), some (D.lst [D.ref p_own13, D.ref p_own17]), some (D.ref p_silent), some (D.lst [D.lst (rf M1.reverse), D.lst (rf M.reverse)]), none, none, none, none, none, none, none, none] = ([some (D.lst (dI ns)), some (D.lst (dI [n0, n1, n2, n3, n4, n5])), some (D.tup [D.int late, D.int lost]), some (D.int (late + lost)), some (D.int (tks : Int)), some (D.lst EE), some (D.ref p_pairs), some (D.lst [.ref (cp false), .ref (cp true)]), some (D.lst [.ref (fp false), .ref (fp true)]), some (D.ref p_silent), some (D.lst CC), none, none, none, none, none, none, none, none] : Gm) := by
    rw [hEE, hCC, hst0, hcp, hfp]
    rfl
  show BK X F0 _ [_, _, _, _, _, _, _, _, _, _, _, _, _, _, _, _, _, _, _] _ _
  rw [hg]
  clear hg he he1 hl hl1 hperm0 hLB hcp hfp
  generalize p_pairs = pp
  generalize p_silent = sp
  refine bk_cons (sk_for c (ei_range1 T.no_range (c.toCn.gl) (ek_n c.toCn (.s (.s (.s (.s .z)))) (⟨_, rfl, (by refine ⟨?_, ?_⟩ <;> omega), ⟨fun i Γ L' => ∃ (st : Bool → Sd) (G : Bool → Gv) (ct : Bool → Nat) (w1 w2 w3 w4 w5 w6 : Option D), Γ = [some (.lst (dI ns)), some (.lst (dI [n0, n1, n2, n3, n4, n5])), some (.tup [.int late, .int lost]), some (.int (late + lost)), some (.int (tks : Int)), some (.lst EE), some (.ref pp), some (D.lst [.ref (cp false), .ref (cp true)]), some (D.lst [.ref (fp false), .ref (fp true)]), some (.ref sp), some (.lst CC), w1, w2, w3, w4, w5, w6, none, none] ∧ L' = sdAll X.K pp sp (fun b => (st b).s.pair) ct cp fp (tkN i 0) G st ∧ EE = (two st fun t => .ref t.p) ∧ CC = (two st fun t => .lst (rf t.M)) ∧ Wq late lost (tkN i 0) (fun b => (st b).s) G ∧ (∀ b, WayOk late (tks + 7) (tkN i 0 !b) (st b).M (G !b)) ∧ (∀ b, 0 < ct b → unfW (fO (G !b)) (lost + 1)) ∧ (n4 % 4 = 1 → ∀ b, ¬ unfW (fO (G b)) (lost + 1)), ?_, fun F1 c i d Γ L hd hP => ?_, fun Γ L hP => ?_⟩⟩))))
  · refine ⟨st0, fun _ => [], fun _ => 0, _, _, _, _, _, _, rfl, ?_, hEE, hCC, ?_, hway0, fun b z => absurd z (Nat.lt_irrefl _), fun _ b z => ?_⟩
    · congr 1
      rw [show (fun b => (st0 b).s.pair) = fun _ => none from funext fun b => by rw [hst0]; cases b <;> rfl]
    · rw [hs0]
      exact ⟨fun b => end_fresh, fun _ => rfl, fun _ g hg => (by cases hg), fun _ => rfl, fun b z => absurd z (by show ¬ (0 : Int) ≤ -1; decide), fun b k _ z => absurd z (Nat.not_lt_zero _)⟩
    · obtain ⟨p, hp⟩ := z
      obtain ⟨g, hg, _⟩ := hp 0 (Nat.succ_pos _)
      simp [fO] at hg
  · clear hway0 hs0 hEE hCC hst0
    obtain ⟨st, G, ct, w1, w2, w3, w4, w5, w6, rfl, rfl, hEE, hCC, hwq, hway, hct, hkp⟩ := hP
    obtain ⟨hi, rfl⟩ := range_nat hd
    rw [show (0 + (i : Int)) = (i : Int) by omega]
    have hi : i < tks := by omega
    obtain ⟨mx, hmx⟩ : ∃ mx : Int, (if ((dI ns).length : Int) > 1 then ((dI ns).length : Int) else 1) = mx := ⟨_, rfl⟩
    have hmx0 : 0 < mx ∧ mx < 100 := by
      rw [← hmx, dI_len]
      split <;> omega
    obtain ⟨kk, hkk⟩ : ∃ kk : Nat, 1 + (i : Int) % mx = (kk : Int) := ⟨(1 + (i : Int) % mx).toNat, by
      have := Int.emod_nonneg (i : Int) (show mx ≠ 0 by omega)
      omega⟩
    refine tg_n c.toCn ⟨_, (.s (.s (.s (.s (.s (.s (.s (.s (.s (.s (.s .z))))))))))), ?_⟩
    refine bk_cons (sk_set c.toCn (ek_add (ek_call c.tk G__law_cell (hr.mono (by first | decide | exact Nat.le_refl _)) (ea_cons (ek_n c.toCn .z (ea_cons (ek_add (ek_int (⟨_, rfl, ek_mod (ek_n c.toCn (.s (.s (.s (.s (.s (.s (.s (.s (.s (.s (.s .z))))))))))) (⟨_, rfl, ek_max2 c.calm T.no_max (c.toCn.gl) (ek_int (⟨_, rfl, ek_len T.no_len (c.toCn.gl) (ek_n c.toCn .z (⟨_, Or.inl .lst, ⟨_, rfl, ⟨_, rfl, (by rw [hmx]; exact hmx0.1), ⟨_, rfl, ea_nil (⟨ns, kk, (by rw [hmx, hkk]), ⟨_, rfl, ek_fdiv (ek_n c.toCn (.s (.s (.s (.s (.s (.s (.s (.s (.s (.s (.s .z))))))))))) (⟨_, rfl, ek_max2 c.calm T.no_max (c.toCn.gl) (ek_int (⟨_, rfl, ek_len T.no_len (c.toCn.gl) (ek_n c.toCn .z (⟨_, Or.inl .lst, ⟨_, rfl, ⟨_, rfl, (by rw [hmx]; constructor <;> omega), ⟨_, rfl, ⟨_, (.s (.s (.s (.s (.s (.s (.s (.s (.s (.s (.s (.s .z)))))))))))), ?_⟩⟩⟩⟩⟩))⟩))⟩))⟩⟩)⟩⟩⟩⟩))⟩))⟩))⟩)))))) (c.toCn.gl))))
    refine bk_cons (sk_set c.toCn (ek_call c.tk G__law_numbers (hr.mono (by first | decide | exact Nat.le_refl _)) (ea_cons (ek_n c.toCn (.s (.s (.s (.s (.s (.s (.s (.s (.s (.s (.s (.s .z)))))))))))) (ea_cons (ek_int (ea_nil (⟨_, 2, rfl, by decide, fun drs hdl hdn => ⟨_, (.s (.s (.s (.s (.s (.s (.s (.s (.s (.s (.s (.s (.s .z))))))))))))), ?_⟩⟩)))))) (c.toCn.gl)))
    generalize (ns.getD kk 0 + (i : Int) / (if ((dI ns).length : Int) > 1 then ((dI ns).length : Int) else 1)) = cel
    refine bk_one (sk_for c (ei_range1 T.no_range (c.toCn.gl) (ek_int (⟨_, rfl, (by walk_at "vrng"), ⟨fun j Γ L' => ∃ (st : Bool → Sd) (G : Bool → Gv) (ct : Bool → Nat) (w4 w5 w6 : Option D), Γ = [some (.lst (dI ns)), some (.lst (dI [n0, n1, n2, n3, n4, n5])), some (.tup [.int late, .int lost]), some (.int (late + lost)), some (.int (tks : Int)), some (.lst EE), some (.ref pp), some (D.lst [.ref (cp false), .ref (cp true)]), some (D.lst [.ref (fp false), .ref (fp true)]), some (.ref sp), some (.lst CC), some (.int (i : Int)), some (.int cel), some (.lst (dI drs)), w4, w5, w6, none, none] ∧ L' = sdAll X.K pp sp (fun b => (st b).s.pair) ct cp fp (tkN i j) G st ∧ EE = (two st fun t => .ref t.p) ∧ CC = (two st fun t => .lst (rf t.M)) ∧ Wq late lost (tkN i j) (fun b => (st b).s) G ∧ (∀ b, WayOk late (tks + 7) (tkN i j !b) (st b).M (G !b)) ∧ (∀ b, 0 < ct b → unfW (fO (G !b)) (lost + 1)) ∧ (n4 % 4 = 1 → ∀ b, ¬ unfW (fO (G b)) (lost + 1)), ?_, fun F1 c j d Γ L hd hP => ?_, fun Γ L hP => ?_⟩⟩))))
    · exact ⟨st, G, ct, _, _, _, rfl, rfl, hEE, hCC, hwq, hway, hct, hkp⟩
    · clear hwq hway hEE hCC hct hkp
      obtain ⟨st, G, ct, w4, w5, w6, rfl, rfl, hEE, hCC, hwq, hway, hct, hkp⟩ := hP
      obtain ⟨hj, rfl⟩ := range_nat hd
      obtain ⟨b, hbj, hbn⟩ := side_of hj
      rw [hbj]
      refine tg_n c.toCn ⟨_, (.s (.s (.s (.s (.s (.s (.s (.s (.s (.s (.s (.s (.s (.s .z)))))))))))))), ?_⟩
      have hEi : atI EE (sideI b) = some (.ref (st b).p) := by rw [hEE]; exact two_at st _ b
      have hCi : atI CC (sideI b) = some (.lst (rf (st b).M)) := by rw [hCC]; exact two_at st _ b
      have hCo : atI CC (1 - sideI b) = some (.lst (rf (st !b).M)) := by rw [hCC]; exact two_oth st _ b
      have hci : atI [D.ref (cp false), D.ref (cp true)] (sideI b) = some (.ref (cp b)) := by cases b <;> rfl
      have hfi : atI [D.ref (fp false), D.ref (fp true)] (sideI b) = some (.ref (fp b)) := by cases b <;> rfl
      have hfo : atI [D.ref (fp false), D.ref (fp true)] (1 - sideI b) = some (.ref (fp !b)) := by cases b <;> rfl
      have hTb : tkN i j b = i := tkN_at hbn
      have wb := hway b
      have wo := hway !b
      rw [Bool.not_not, hTb] at wo
      have hTo := tkN_le (i := i) (j := j) (b := !b)
      obtain ⟨m, hm1'⟩ : ∃ m, (st b).M[i]? = some m := ⟨_, List.getElem?_eq_getElem (by rw [wb.mlen]; omega)⟩
      have hrows : rowsAt (st b).M i = m.2 := by unfold rowsAt; rw [hm1']; rfl
      have hgv := wb.gv hm.1.2
      have hrR : m.2 = arrR (G !b) i := by rw [← hrows]; exact wb.rows i
      have hrl : m.2.length ≤ 3 * (i + 1) := by
        rw [hrR]
        have := arrR_len (k := i) hgv
        have := wb.glen
        omega
      have hcs : ∀ x ∈ m.2.map (·.1), okc 24 x := fun x hx => by
        obtain ⟨r, hr, rfl⟩ := List.mem_map.mp hx
        rw [hrR] at hr
        exact arr_okc hgv r hr
      have hcO : ∀ n, ∀ cs ∈ cameOf (G !b) n, ∀ c ∈ cs, okc 24 c := fun n cs hcs c hc => by
        unfold cameOf at hcs
        obtain ⟨k, _, rfl⟩ := List.mem_map.mp hcs
        obtain ⟨r, hr, rfl⟩ := List.mem_map.mp hc
        exact arr_okc hgv r hr
      have hen := hwq.en b
      rw [hTb] at hen
      have hown : (st b).s.own < 9408 := by have := hen.own; omega
      obtain ⟨RR, hRR⟩ : ∃ RR, RR = (cp !b, C.lst (rcL (cameOf (G !!b) (tkN i j !b)))) :: (fp !b, C.lst (fsD (fO (G !b)))) :: sdB X.K (st !b) := ⟨_, rfl⟩
      obtain ⟨pr, hpr⟩ : ∃ pr, pr = fun b => (st b).s.pair := ⟨_, rfl⟩
      rw [← hpr]
      refine bk_lg (L := (cp b, C.lst (rcL (cameOf (G !b) i))) :: (fp b, C.lst (fsD (fO (G b)))) :: (pp, C.lst (prL pr)) :: (sp, C.lst (inL ct)) :: lkW X.K (st b).p (st b).lp (st b).ep (st b).s (cmL (st b).M ++ RR)) (.of_perm (by
        rw [hRR]
        unfold sdAll sdC sdB lkW
        cases b <;> simp only [Bool.not_false, Bool.not_true, hTb] <;> walk_at "perm")) ?_
      have gM : ∀ (a b1 c1 d1 e1 f1 g1 : Addr × C), Get (a :: b1 :: c1 :: d1 :: e1 :: f1 :: g1 :: (cmL (st b).M ++ RR)) (i + 7) (m.1, C.lst (rwL m.2)) := fun _ _ _ _ _ _ _ => .s (.s (.s (.s (.s (.s (.s (cm_get hm1').app))))))
      refine bk_cons (sk_expr (ek_app (ek_ix (ek_n c.toCn (.s (.s (.s (.s (.s (.s (.s .z))))))) (ek_n c.toCn (.s (.s (.s (.s (.s (.s (.s (.s (.s (.s (.s (.s (.s (.s .z)))))))))))))) (⟨_, _, _, .lst, rfl, (by first | exact hci | exact hCi | exact rf_at hm1' | rfl), ⟨_, _, rfl, .own .z, ek_lcM [("row", 18)] c.toCn c.calm (by decide +kernel) (eip_as (ek_ix (ek_ix (ek_n c.toCn (.s (.s (.s (.s (.s (.s (.s (.s (.s (.s .z)))))))))) (ek_n c.toCn (.s (.s (.s (.s (.s (.s (.s (.s (.s (.s (.s (.s (.s (.s .z)))))))))))))) (⟨_, _, _, .lst, rfl, (by first | exact hci | exact hCi | exact rf_at hm1' | rfl), ek_n c.toCn (.s (.s (.s (.s (.s (.s (.s (.s (.s (.s (.s .z))))))))))) (⟨_, _, _, .lst, rfl, (by first | exact hci | exact hCi | exact rf_at hm1' | rfl), ⟨_, (.own (gM _ _ _ _ _ _ _)), ⟨dII (m.2.map (·.1)), ?_, ⟨_, _, _, .z, .z, (sz_lt (by rw [rcL_len, cameOf_len]; omega)), ?_⟩⟩⟩⟩)⟩))) (fun _ _ => rfl)) (fun _ _ => rfl)))⟩⟩))) (fun _ _ => rfl))))
      · refine ⟨by rw [dII_len, List.length_map, rwL_len], by rw [rwL_len]; omega, fun F1 n d e acc Dp hd he => ?_⟩
        obtain ⟨r, hr1, rfl⟩ := map_at' hd
        obtain ⟨xs, hx1, rfl⟩ := map_at' he
        obtain ⟨r2, hr2, rfl⟩ := map_at' hx1
        rw [hr1] at hr2
        cases hr2
        intro X' cb hX'
        obtain ⟨s0, H0, C0, cl, fp, rfl⟩ := hX'
        refine tb_n cb ⟨_, (.s (.s (.s (.s (.s (.s (.s (.s (.s (.s (.s (.s (.s (.s (.s (.s (.s (.s .z)))))))))))))))))), rfl, fun X' cb hX' => ?_⟩
        obtain ⟨s0, H0, C0, cl, fp, rfl⟩ := hX'
        refine ek_ixT (ek_b cb (.s (.s (.s (.s (.s (.s (.s (.s (.s (.s (.s (.s (.s (.s (.s (.s (.s (.s .z)))))))))))))))))) (ek_int (⟨_, _, _, rfl, rfl, (rfl), ?_⟩))) (fun _ _ => rfl)
        exact ⟨rfl, rfl⟩
      have hrc : rcL (cameOf (G !b) i) ++ [D.lst (dII (m.2.map (·.1)))] = rcL (cameOf (G !b) (i + 1)) := by
        rw [cameOf_succ, hrR]
        unfold rcL
        rw [List.map_append]
        rfl
      rw [hrc]
      have hrat : atI (rcL (cameOf (G !b) (i + 1))) (i : Int) = some (.lst (dII (m.2.map (·.1)))) := at_nat (by omega) (by
        rw [← hrc, Int.toNat_natCast, List.getElem?_append_right (by rw [rcL_len, cameOf_len]; exact Nat.le_refl _), rcL_len, cameOf_len, Nat.sub_self]
        rfl)
      refine bk_lg (L := lkW X.K (st b).p (st b).lp (st b).ep (st b).s ((cp b, C.lst (rcL (cameOf (G !b) (i + 1)))) :: (fp b, C.lst (fsD (fO (G b)))) :: (pp, C.lst (prL pr)) :: (sp, C.lst (inL ct)) :: (cmL (st b).M ++ RR))) (.of_perm (by unfold lkW; walk_at "perm")) ?_
      refine bk_cons (sk_set c.toCn (ek_meth c.tk G_LinkEnd_tick (hr.mono (by first | decide | exact Nat.le_refl _)) (ek_ix (ek_n c.toCn (.s (.s (.s (.s (.s .z))))) (ek_n c.toCn (.s (.s (.s (.s (.s (.s (.s (.s (.s (.s (.s (.s (.s (.s .z)))))))))))))) (⟨_, _, _, .lst, rfl, (by first | exact hEi | exact hci | exact hrat), ⟨_, _, _, rfl, (.s (.s .z)), rfl, ea_cons (ek_ix (ek_ix (ek_n c.toCn (.s (.s (.s (.s (.s (.s (.s .z))))))) (ek_n c.toCn (.s (.s (.s (.s (.s (.s (.s (.s (.s (.s (.s (.s (.s (.s .z)))))))))))))) (⟨_, _, _, .lst, rfl, (by first | exact hEi | exact hci | exact hrat), ek_n c.toCn (.s (.s (.s (.s (.s (.s (.s (.s (.s (.s (.s .z))))))))))) (⟨_, _, _, (.own (.s (.s (.s .z)))), rfl, (by first | exact hEi | exact hci | exact hrat), ea_nil (⟨_, _, _, _, _, _, rfl, rfl, hcs, hen.lok, hown, (by rw [List.length_map]; omega), (by rw [hen.evs]; exact Nat.succ_pos _), (by rw [hwq.left b]; exact Nat.succ_pos _), fun pc lpx => ⟨_, (.s (.s (.s (.s (.s (.s (.s (.s (.s (.s (.s (.s (.s (.s (.s .z))))))))))))))), ?_⟩⟩)⟩)⟩))) (fun _ _ => rfl)) (fun _ _ => rfl))⟩⟩))) (fun _ _ => rfl))))
      obtain ⟨s1, hs1⟩ : ∃ s1, s1 = tickU (st b).s (arrU (G !b) i) := ⟨_, rfl⟩
      have hs1' : tickF (st b).s (m.2.map (·.1)) = s1 := by rw [hs1, hrR]; exact tick_arr hgv
      have hlok1 : LOk s1 := by
        rw [← hs1']
        exact lok_tick hen.lok hown
      rw [hs1']
      have hst := wq_step hwq b hTb hTo hm (by omega) hs1 hlok1
      have hs01 := hst.1
      refine bk_lg (L := lkW X.K (st b).p lpx (st b).ep s1 ((pp, C.lst (prL pr)) :: (sp, C.lst (inL ct)) :: (cp b, C.lst (rcL (cameOf (G !b) (i + 1)))) :: (fp b, C.lst (fsD (fO (G b)))) :: (pc, C.lst (dI (celOf (signsNow s1)))) :: (cmL (st b).M ++ RR))) (.of_perm (by unfold lkW; walk_at "perm")) ?_
      have hevd : Vld (pr b) s1.evs s1.pair := by rw [hpr]; exact hs01.vld
      have hsil : ∀ p a cc, Ev.silent p a cc ∈ s1.evs → cc = i ∧ shB (cameOf (G !b) (i + 1)) (late + lost) a cc = true ∧ brk (fO (G !b)) late lost a cc = true := fun p a cc hx => by
        obtain ⟨g1, g2, g3, g4, g5⟩ := hs01.sil p a cc hx
        obtain ⟨k1, k2, _⟩ := sil_right hwq b hTb hTo hm g1 g4 g5
        subst g2 g3
        exact ⟨rfl, k1, k2⟩
      have hflo : (fO (G !b)).length ≤ 1000 := by
        show ((G !b).map _).length ≤ _
        rw [List.length_map, hwq.glen]
        omega
      have hfl3 : ∀ c, ∀ f ∈ fO (G c), f.length ≤ 3 := fun c f hf => by
        obtain ⟨g, hg, rfl⟩ := List.mem_map.mp hf
        exact goodF_len (hwq.good c g hg).2.2
      have gcp : ∀ (Y Z : C) (R3 : Lg), AsL ((pp, Y) :: (sp, Z) :: (cp b, C.lst (rcL (cameOf (G !b) (i + 1)))) :: R3) (.ref (cp b)) (rcL (cameOf (G !b) (i + 1))) := fun _ _ _ => .own (.s (.s .z))
      obtain ⟨LL, hLL⟩ : ∃ LL, LL = lkW X.K (st b).p lpx (st b).ep s1 ((pp, C.lst (prL pr)) :: (sp, C.lst (inL ct)) :: (cp b, C.lst (rcL (cameOf (G !b) (i + 1)))) :: (fp b, C.lst (fsD (fO (G b)))) :: (pc, C.lst (dI (celOf (signsNow s1)))) :: (cmL (st b).M ++ RR)) := ⟨_, rfl⟩
      obtain ⟨RB, hRB⟩ : ∃ RB : Addr → Lg, RB = fun epx => (cp b, C.lst (rcL (cameOf (G !b) (i + 1)))) :: (fp b, C.lst (fsD (fO (G b)))) :: (cp !b, C.lst (rcL (cameOf (G !!b) (tkN i j !b)))) :: (fp !b, C.lst (fsD (fO (G !b)))) :: (lkW X.K (st b).p lpx epx (quietS s1) ((pc, C.lst (dI (celOf (signsNow s1)))) :: (cmL (st b).M ++ sdB X.K (st !b)))) := ⟨_, rfl⟩
      have hdropP : ∀ epx : Addr, SubP ((pp, C.lst (prL pr)) :: (sp, C.lst (inL ct)) :: RB epx) (lkW X.K (st b).p lpx epx (quietS s1) ((pp, C.lst (prL pr)) :: (sp, C.lst (inL ct)) :: (cp b, C.lst (rcL (cameOf (G !b) (i + 1)))) :: (fp b, C.lst (fsD (fO (G b)))) :: (pc, C.lst (dI (celOf (signsNow s1)))) :: (cmL (st b).M ++ RR))) := fun epx => .of_perm (by
        rw [hRB, hRR]
        unfold lkW
        walk_at "perm")
      have gfo : ∀ (epx : Addr) (Y Z : C), AsL ((pp, Y) :: (sp, Z) :: RB epx) (.ref (fp !b)) (fsD (fO (G !b))) := fun epx Y Z => by
        rw [hRB]
        exact .own (.s (.s (.s (.s (.s .z)))))
      have gcb : ∀ (epx : Addr) (Y Z : C), AsL ((pp, Y) :: (sp, Z) :: RB epx) (.ref (cp b)) (rcL (cameOf (G !b) (i + 1))) := fun epx Y Z => by
        rw [hRB]
        exact .own (.s (.s .z))
      refine bk_cons (sk_if (et_not (et_v (ek_call c.tk G__law_events_right (hr.mono (by first | decide | exact Nat.le_refl _)) (ea_cons (ek_meth0 c.tk G_LinkEnd_events (hr.mono (by first | decide | exact Nat.le_refl _)) (ek_ix (ek_n c.toCn (.s (.s (.s (.s (.s .z))))) (ek_n c.toCn (.s (.s (.s (.s (.s (.s (.s (.s (.s (.s (.s (.s (.s (.s .z)))))))))))))) (⟨_, _, _, .lst, rfl, (hEi), ⟨_, _, _, rfl, (.s (.s .z)), rfl, ⟨_, _, _, _, _, rfl, rfl, fun epx => ea_cons (ek_n c.toCn (.s (.s (.s (.s (.s (.s (.s (.s (.s (.s (.s (.s (.s (.s .z)))))))))))))) (ea_cons (ek_n c.toCn (.s (.s (.s (.s (.s (.s .z)))))) (ea_cons (ek_n c.toCn (.s (.s (.s (.s (.s (.s (.s (.s (.s .z))))))))) (ea_cons (ek_n c.toCn (.s (.s (.s (.s (.s (.s (.s (.s (.s (.s (.s .z))))))))))) (ea_cons (ek_n c.toCn (.s (.s (.s (.s (.s (.s (.s .z))))))) (ea_cons (ek_n c.toCn (.s (.s (.s (.s (.s (.s (.s (.s .z)))))))) (ea_cons (ek_n c.toCn (.s (.s .z)) (ea_nilS ⟨_, hdropP epx, ⟨s1.evs, b, pp, sp, pr, ct, RB epx, i, _, _, _, _, cameOf (G !b) (i + 1), fO (G !b), late, lost, s1.pair, rfl, rfl, hci, hfo, gcb epx, gfo epx, hm, hcO (i + 1), hflo, (fun f hf => Nat.le_trans (hfl3 _ f hf) (by decide)), hevd, hsil, fun cn hn1 hn2 => ⟨_, rfl, ⟨fun ht => ?_, fun ht => ?_⟩⟩⟩⟩))))))))))))))⟩⟩⟩))) (fun _ _ => rfl)))) (c.toCn.gl)))))
      · cases ht
      refine bk_nil ?_
      have hpat : atI (prL (put2 pr b s1.pair)) (sideI b) = some (pairD s1.pair) := by rw [prL_at, put2_at]
      refine bk_cons (sk_if (et_w (ew_and (et_notN (ek_ix (ek_n c.toCn (.s (.s (.s (.s (.s (.s .z)))))) (ek_n c.toCn (.s (.s (.s (.s (.s (.s (.s (.s (.s (.s (.s (.s (.s (.s .z)))))))))))))) (⟨_, _, _, (.own .z), rfl, (by first | exact hpat | exact hci), ⟨rfl, rfl⟩⟩))) (fun _ _ => rfl))) (fun hb => et_and1 (et_v (ek_call c.tk G_is_shown (hr.mono (by first | decide | exact Nat.le_refl _)) (ea_cons (ek_ix (ek_n c.toCn (.s (.s (.s (.s (.s (.s (.s .z))))))) (ek_n c.toCn (.s (.s (.s (.s (.s (.s (.s (.s (.s (.s (.s (.s (.s (.s .z)))))))))))))) (⟨_, _, _, .lst, rfl, (by first | exact hpat | exact hci), ea_cons (ek_n c.toCn (.s (.s (.s .z))) (ea_cons (ek_add (ek_sub (ek_n c.toCn (.s (.s (.s (.s (.s (.s (.s (.s (.s (.s (.s .z))))))))))) (⟨_, rfl, ek_n c.toCn (.s (.s (.s .z))) (⟨_, rfl, ⟨_, rfl, ek_int (⟨_, rfl, ea_cons (ek_n c.toCn (.s (.s (.s (.s (.s (.s (.s (.s (.s (.s (.s .z))))))))))) (ea_nil (⟨_, cameOf (G !b) (i + 1), _, _, _, rfl, gcb epx _ _, by omega, hcO (i + 1), ⟨_, rfl, ⟨rfl, rfl⟩⟩⟩)))⟩)⟩⟩)⟩))))))⟩))) (fun _ _ => rfl))) (c.toCn.gl)))) (⟨fun ht => ?_, fun ht => ?_⟩))))
      · exfalso
        cases hp : s1.pair with
        | none =>
          rw [hp] at ht
          simp [pairD, isN] at ht
        | some q0 =>
          obtain ⟨g1, g2, g3, g4⟩ := hs01.up (by rw [hp]; exact fun z => (by cases z))
          have h7 := up_right (late := late) (lost := lost) (b := b) (G := G) (i := i) hgv g1 g2 g3 g4
          rw [h7, Bool.and_false] at ht
          cases ht
      refine bk_nil ?_
      obtain ⟨dv, hdv1, hdm⟩ : ∃ dv, atI (dI drs) (sideI b) = some (.int dv) ∧ dv ∈ drs := by
        match drs, hdl with
        | [d0, d1], _ => cases b with
          | false => exact ⟨d0, rfl, List.mem_cons_self⟩
          | true => exact ⟨d1, rfl, List.mem_cons_of_mem _ List.mem_cons_self⟩
      refine bk_cons (sk_set c.toCn (ek_call c.tk G__law_fate (hr.mono (by first | decide | exact Nat.le_refl _)) (ea_cons (ek_ix (ek_n c.toCn (.s (.s (.s (.s (.s (.s (.s (.s (.s (.s (.s (.s (.s .z))))))))))))) (ek_n c.toCn (.s (.s (.s (.s (.s (.s (.s (.s (.s (.s (.s (.s (.s (.s .z)))))))))))))) (⟨_, _, _, .lst, rfl, (by first | exact hdv1 | rfl), ea_cons (ek_ixT (ek_n c.toCn (.s (.s .z)) (ek_int (⟨_, _, _, rfl, rfl, (by first | exact hdv1 | rfl), ea_nil (⟨_, _, rfl, hdn _ hdm, hm.1.1, hm.1.2, fun f0 hgf0 => ⟨_, (.s (.s (.s (.s (.s (.s (.s (.s (.s (.s (.s (.s (.s (.s (.s (.s .z)))))))))))))))), ?_⟩⟩)⟩))) (fun _ _ => rfl))⟩))) (fun _ _ => rfl))) (c.toCn.gl)))
      obtain ⟨L22, hL22⟩ : ∃ L22, L22 = ((pp, C.lst (prL (put2 pr b s1.pair))) :: (sp, C.lst (inL (put2 ct b cn))) :: RB epx : Lg) := ⟨_, rfl⟩
      refine bk_lg (L := L22) (by rw [hL22]; exact .refl) ?_
      refine bk_cut (fun Γ L' => L' = L22 ∧ ∃ f, goodF late f = true ∧ Γ = [some (.lst (dI ns)), some (.lst (dI [n0, n1, n2, n3, n4, n5])), some (.tup [.int late, .int lost]), some (.int (late + lost)), some (.int (tks : Int)), some (.lst EE), some (.ref pp), some (D.lst [.ref (cp false), .ref (cp true)]), some (D.lst [.ref (fp false), .ref (fp true)]), some (.ref sp), some (.lst CC), some (.int (i : Int)), some (.int cel), some (.lst (dI drs)), some (.int (sideI b)), some (.ref pc), some (ftD f), none, none]) (sk_if (et_v (ek_call c.tk G__law_dead (hr.mono (by first | decide | exact Nat.le_refl _)) (ea_cons (ek_n c.toCn (.s .z) (ea_cons (ek_n c.toCn (.s (.s (.s (.s (.s (.s (.s (.s (.s (.s (.s (.s (.s (.s .z)))))))))))))) (ea_cons (ek_n c.toCn (.s (.s (.s (.s (.s (.s (.s (.s (.s (.s (.s .z))))))))))) (ea_nil (⟨_, _, _, _, _, _, _, rfl, fun bd => ⟨_, rfl, ⟨fun ht => ?_, fun ht => ?_⟩⟩⟩)))))))) (c.toCn.gl)))) (fun Γ L hM => ?_)
      · refine bk_one (sk_set c.toCn (ek_tup (ea_nil (⟨(by walk_at "vlen"), ⟨_, (.s (.s (.s (.s (.s (.s (.s (.s (.s (.s (.s (.s (.s (.s (.s (.s .z)))))))))))))))), ?_⟩⟩))))
        exact ⟨rfl, [], rfl, rfl⟩
      · exact bk_nil ⟨rfl, f0, hgf0, rfl⟩
      clear hgf0
      clear f0
      obtain ⟨hLe, f0, hgf0, rfl⟩ := hM
      rw [hLe]
      clear hLe
      have gfb : AsL L22 (.ref (fp b)) (fsD (fO (G b))) := by
        rw [hL22, hRB]
        exact .own (.s (.s (.s .z)))
      refine bk_cut (fun Γ L' => L' = L22 ∧ ∃ f, goodF late f = true ∧ (n4 % 4 = 1 → ∀ p, unf (fO (G b) ++ [f]) p (lost + 1) → unf (fO (G b)) p (lost + 1)) ∧ Γ = [some (.lst (dI ns)), some (.lst (dI [n0, n1, n2, n3, n4, n5])), some (.tup [.int late, .int lost]), some (.int (late + lost)), some (.int (tks : Int)), some (.lst EE), some (.ref pp), some (D.lst [.ref (cp false), .ref (cp true)]), some (D.lst [.ref (fp false), .ref (fp true)]), some (.ref sp), some (.lst CC), some (.int (i : Int)), some (.int cel), some (.lst (dI drs)), some (.int (sideI b)), some (.ref pc), some (ftD f), none, none]) (sk_if (et_eqI (ek_mod (ek_ix (ek_n c.toCn (.s .z) (ek_int (⟨_, _, _, .lst, rfl, (rfl), ⟨_, rfl, ek_int (⟨_, rfl, (by walk_at "vpos"), ⟨_, rfl, ek_int (⟨_, rfl, ⟨fun ht => ?_, fun ht => ?_⟩⟩)⟩⟩)⟩⟩))) (fun _ _ => rfl))))) (fun Γ L hM => ?_)
      · refine bk_one (sk_set c.toCn (ek_call c.tk G__law_kept (hr.mono (by first | decide | exact Nat.le_refl _)) (ea_cons (ek_n c.toCn (.s (.s (.s (.s (.s (.s (.s (.s (.s (.s (.s (.s (.s (.s (.s (.s .z)))))))))))))))) (ea_cons (ek_ix (ek_n c.toCn (.s (.s (.s (.s (.s (.s (.s (.s .z)))))))) (ek_n c.toCn (.s (.s (.s (.s (.s (.s (.s (.s (.s (.s (.s (.s (.s (.s .z)))))))))))))) (⟨_, _, _, .lst, rfl, (by first | exact hfi | exact hdv1), ea_cons (ek_n c.toCn (.s (.s .z)) (ea_cons (ek_ix (ek_n c.toCn (.s (.s (.s (.s (.s (.s (.s (.s (.s (.s (.s (.s (.s .z))))))))))))) (ek_n c.toCn (.s (.s (.s (.s (.s (.s (.s (.s (.s (.s (.s (.s (.s (.s .z)))))))))))))) (⟨_, _, _, .lst, rfl, (by first | exact hfi | exact hdv1), ea_nil (⟨f0, _, fO (G b), late, _, lost, rfl, gfb, (by show ((G b).map _).length ≤ _; rw [List.length_map, hwq.glen, hTb]; omega), hgf0, (fun g hg => by obtain ⟨y, hy, rfl⟩ := List.mem_map.mp hg; exact (hwq.good b y hy).2.2), hm, fun f1 hgf1 hk1 => ⟨_, (.s (.s (.s (.s (.s (.s (.s (.s (.s (.s (.s (.s (.s (.s (.s (.s .z)))))))))))))))), ?_⟩⟩)⟩))) (fun _ _ => rfl))))⟩))) (fun _ _ => rfl))))) (c.toCn.gl)))
        exact ⟨rfl, f1, hgf1, fun _ => hk1, rfl⟩
      · refine bk_nil ⟨rfl, f0, hgf0, fun z => ?_, rfl⟩
        simp at ht
        exact absurd z ht
      obtain ⟨hLe, f, hgf, hkf, rfl⟩ := hM
      rw [hLe]
      clear hLe
      refine bk_lg (L := (fp b, C.lst (fsD (fO (G b)))) :: (cp b, C.lst (rcL (cameOf (G !b) (i + 1)))) :: (pp, C.lst (prL (put2 pr b s1.pair))) :: (sp, C.lst (inL (put2 ct b cn))) :: (cp !b, C.lst (rcL (cameOf (G !!b) (tkN i j !b)))) :: (fp !b, C.lst (fsD (fO (G !b)))) :: (lkW X.K (st b).p lpx epx (quietS s1) ((pc, C.lst (dI (celOf (signsNow s1)))) :: (cmL (st b).M ++ sdB X.K (st !b))))) (.of_perm (by
        rw [hL22, hRB]
        unfold lkW
        walk_at "perm")) ?_
      refine bk_cons (sk_expr (ek_app (ek_ix (ek_n c.toCn (.s (.s (.s (.s (.s (.s (.s (.s .z)))))))) (ek_n c.toCn (.s (.s (.s (.s (.s (.s (.s (.s (.s (.s (.s (.s (.s (.s .z)))))))))))))) (⟨_, _, _, .lst, rfl, (hfi), ⟨_, _, rfl, .own .z, ek_n c.toCn (.s (.s (.s (.s (.s (.s (.s (.s (.s (.s (.s (.s (.s (.s (.s (.s .z)))))))))))))))) (⟨_, _, _, .z, .z, (sz_lt (by rw [fsD_len]; show ((G b).map _).length ≤ _; rw [List.length_map, hwq.glen, hTb]; omega)), ?_⟩)⟩⟩))) (fun _ _ => rfl))))
      have hfs : fsD (fO (G b)) ++ [ftD f] = fsD (fO (G b ++ [(quietS s1, f)])) := by
        unfold fsD fO
        rw [List.map_append, List.map_append]
        rfl
      rw [hfs]
      obtain ⟨A, hA⟩ : ∃ A, A = (fp b, C.lst (fsD (fO (G b ++ [(quietS s1, f)])))) :: (cp b, C.lst (rcL (cameOf (G !b) (i + 1)))) :: (pp, C.lst (prL (put2 pr b s1.pair))) :: (sp, C.lst (inL (put2 ct b cn))) :: (cp !b, C.lst (rcL (cameOf (G !!b) (tkN i j !b)))) :: (fp !b, C.lst (fsD (fO (G !b)))) :: (lkW X.K (st b).p lpx epx (quietS s1) ((pc, C.lst (dI (celOf (signsNow s1)))) :: (cmL (st b).M ++ lkW X.K (st !b).p (st !b).lp (st !b).ep (st !b).s []))) := ⟨_, rfl⟩
      refine bk_lg (L := A ++ (cmL (st !b).M ++ [])) (.of_perm (by
        rw [hA]
        unfold sdB lkW
        walk_at "perm")) ?_
      have gpc : ∀ M', Get (A ++ (cmL M' ++ [])) 9 (pc, C.lst (dI (celOf (signsNow s1)))) := fun M' => by
        rw [hA]
        exact .s (.s (.s (.s (.s (.s (.s (.s (.s .z))))))))
      refine bk_cons (sk_expr (ek_call c.tk G__law_give (hr.mono (by first | decide | exact Nat.le_refl _)) (ea_cons (ek_ix (ek_n c.toCn (.s (.s (.s (.s (.s (.s (.s (.s (.s (.s .z)))))))))) (ek_sub (ek_int (⟨_, rfl, ek_n c.toCn (.s (.s (.s (.s (.s (.s (.s (.s (.s (.s (.s (.s (.s (.s .z)))))))))))))) (⟨_, rfl, ⟨_, _, _, .lst, rfl, (hCo), ea_cons (ek_n c.toCn (.s (.s (.s (.s (.s (.s (.s (.s (.s (.s (.s (.s (.s (.s (.s .z))))))))))))))) (ea_cons (ek_n c.toCn (.s (.s (.s (.s (.s (.s (.s (.s (.s (.s (.s (.s (.s (.s (.s (.s .z)))))))))))))))) (ea_cons (ek_n c.toCn (.s (.s (.s (.s (.s (.s (.s (.s (.s (.s (.s .z))))))))))) (ea_cons (ek_non (ea_nil (⟨(st !b).M, A, [], .ref pc, celOf (signsNow s1), f, i, none, rfl, rfl, fun M' => .own (gpc M'), okc_celOf (signsNow_ok hlok1), goodF_up hgf hm.1.2, (by rw [wo.mlen]; omega), (fun k => by rw [wo.rows k]; have := arrR_len (k := k) (wo.gv hm.1.2); have := wo.glen; omega), ?_⟩)))))))))⟩⟩)⟩)))) (fun _ _ => rfl))) (c.toCn.gl)))
      have hst2 := hst.2 f hgf
      have htk1 : put2 (tkN i j) b (i + 1) = tkN i (j + 1) := by
        have := tkN_put (i := i) hbn
        rw [hTb] at this
        exact this
      rw [htk1] at hst2
      have htb1 : tkN i (j + 1) b = i + 1 := by rw [← htk1]; exact put2_at
      obtain ⟨st', hst'⟩ : ∃ st' : Bool → Sd, st' = fun x => if x = b then ⟨(st b).p, lpx, epx, quietS s1, (st b).M⟩ else ⟨(st !b).p, (st !b).lp, (st !b).ep, (st !b).s, giveM (st !b).M (celOf (signsNow s1)) i f none⟩ := ⟨_, rfl⟩
      have hb1 : st' b = ⟨(st b).p, lpx, epx, quietS s1, (st b).M⟩ := by rw [hst']; exact if_pos rfl
      have hb2 : st' (!b) = ⟨(st !b).p, (st !b).lp, (st !b).ep, (st !b).s, giveM (st !b).M (celOf (signsNow s1)) i f none⟩ := by rw [hst']; exact if_neg (by cases b <;> decide)
      have h7 : (fun x => (st' x).s) = put2 (fun b => (st b).s) b (quietS s1) := by
        funext x
        by_cases hx : x = b
        · subst hx
          rw [put2_at, hb1]
        · rw [put2_ne hx]
          have := bool_ne hx
          subst this
          rw [hb2]
      have h8 : (fun x => (st' x).s.pair) = put2 pr b s1.pair := by
        funext x
        have := congrArg LS.pair (congrFun h7 x)
        rw [this, hpr]
        by_cases hx : x = b
        · subst hx
          rw [put2_at, put2_at]
          rfl
        · rw [put2_ne hx, put2_ne hx]
      have hcK : cameOf (G b ++ [(quietS s1, f)]) (tkN i j !b) = cameOf (G b) (tkN i j !b) := cameOf_keep hgf (by rw [hwq.glen, hTb]; omega)
      refine bk_lg (L := sdAll X.K pp sp (fun x => (st' x).s.pair) (put2 ct b cn) cp fp (tkN i (j + 1)) (put2 G b (G b ++ [(quietS s1, f)])) st') ⟨(pc, C.lst (dI (celOf (signsNow s1)))) :: sdAll X.K pp sp (fun x => (st' x).s.pair) (put2 ct b cn) cp fp (tkN i (j + 1)) (put2 G b (G b ++ [(quietS s1, f)])) st', List.sublist_cons_self _ _, ?_⟩ ?_
      · rw [h8, hA]
        have e1 : sdC X.K cp fp (tkN i (j + 1)) (put2 G b (G b ++ [(quietS s1, f)])) st' b = (cp b, C.lst (rcL (cameOf (G !b) (i + 1)))) :: (fp b, C.lst (fsD (fO (G b ++ [(quietS s1, f)])))) :: lkW X.K (st b).p lpx epx (quietS s1) (cmL (st b).M) := by
          unfold sdC sdB
          rw [put2_not, put2_at, htb1, hb1]
        have e2 : sdC X.K cp fp (tkN i (j + 1)) (put2 G b (G b ++ [(quietS s1, f)])) st' (!b) = (cp !b, C.lst (rcL (cameOf (G b) (tkN i j !b)))) :: (fp !b, C.lst (fsD (fO (G !b)))) :: lkW X.K (st !b).p (st !b).lp (st !b).ep (st !b).s (cmL (giveM (st !b).M (celOf (signsNow s1)) i f none)) := by
          unfold sdC sdB
          rw [Bool.not_not, put2_not, put2_at, tkN_oth hbn, hcK, hb2]
        have e3 : (sdC X.K cp fp (tkN i (j + 1)) (put2 G b (G b ++ [(quietS s1, f)])) st' false ++ sdC X.K cp fp (tkN i (j + 1)) (put2 G b (G b ++ [(quietS s1, f)])) st' true).Perm (sdC X.K cp fp (tkN i (j + 1)) (put2 G b (G b ++ [(quietS s1, f)])) st' b ++ sdC X.K cp fp (tkN i (j + 1)) (put2 G b (G b ++ [(quietS s1, f)])) st' (!b)) := by
          cases b
          · exact .refl _
          · exact List.perm_append_comm
        unfold sdAll
        refine ((e3.cons _).cons _ |>.cons _).trans ?_
        rw [e1, e2, Bool.not_not]
        unfold lkW
        walk_at "perm"
      refine bk_nil ⟨st', put2 G b (G b ++ [(quietS s1, f)]), put2 ct b cn, _, _, _, rfl, rfl, ?_, ?_, ?_, ?_, ?_, ?_⟩
      · rw [hEE]
        exact (two_same b _ (by rw [hb1]) (by rw [hb2])).symm
      · rw [hCC]
        exact (two_same b _ (by rw [hb1]) (by rw [hb2, rf_give])).symm
      · rw [h7]
        exact hst2
      · intro x
        by_cases hx : x = b
        · subst hx
          rw [hb1, put2_not, tkN_oth hbn]
          exact wb
        · have := bool_ne hx
          subst this
          rw [hb2, Bool.not_not, put2_at, htb1]
          have h9 := hst2.en b
          rw [put2_at] at h9
          exact way_give wo hm.1.2 h9.lok h9.own.1 hgf (by omega)
      · intro x hx0
        by_cases hx : x = b
        · subst hx
          rw [put2_at] at hx0
          rw [put2_not]
          by_cases hc0 : 0 < ct x
          · exact hct x hc0
          · obtain ⟨p, a, cc, hs⟩ := hn2 (by omega)
            obtain ⟨g1, _, _, g4, g5⟩ := hs01.sil p a cc hs
            obtain ⟨p2, hp2⟩ := (sil_right hwq x hTb hTo hm g1 g4 g5).2.2
            rw [Int.toNat_natCast] at hp2
            exact ⟨p2, hp2⟩
        · have := bool_ne hx
          subst this
          rw [put2_not] at hx0
          rw [Bool.not_not, put2_at]
          have := hct _ hx0
          rw [Bool.not_not] at this
          have h9 := unfW_snoc (f := f) this
          show unfW ((G b ++ [(quietS s1, f)]).map (·.2)) _
          rw [List.map_append]
          exact h9
      · intro z x hw
        by_cases hx : x = b
        · subst hx
          rw [put2_at] at hw
          obtain ⟨p, hp⟩ := hw
          have hp' : unf (fO (G x) ++ [f]) p (lost + 1) := by
            have e9 : fO (G x ++ [(quietS s1, f)]) = fO (G x) ++ [f] := List.map_append ..
            rw [e9] at hp
            exact hp
          exact hkp z x ⟨p, hkf z p hp'⟩
        · rw [put2_ne hx] at hw
          exact hkp z x hw
    · obtain ⟨st, G, ct, w4, w5, w6, rfl, rfl, hEE, hCC, hwq, hway, hct, hkp⟩ := hP
      rw [rangeD_len, show tkN i (2 : Int).toNat = tkN (i + 1) 0 from funext fun b => tkN_2] at hwq
      rw [rangeD_len] at hway ⊢
      rw [show tkN i (2 : Int).toNat = tkN (i + 1) 0 from funext fun b => tkN_2] at hway ⊢
      exact ⟨st, G, ct, _, _, _, _, _, _, rfl, rfl, hEE, hCC, hwq, hway, hct, hkp⟩
  · obtain ⟨st, G, ct, w1, w2, w3, w4, w5, w6, rfl, rfl, hEE, hCC, hwq, hway, hct, hkp⟩ := hP
    rw [rangeD_len] at hwq ⊢
    obtain ⟨LL, hLL⟩ : ∃ LL, LL = sdAll X.K pp sp (fun b => (st b).s.pair) ct cp fp (tkN ((tks : Int)).toNat 0) G st := ⟨_, rfl⟩
    refine bk_lg (L := LL) (by rw [hLL]; exact .refl) ?_
    have gsp : Get LL 1 (sp, C.lst (dI [(ct false : Int), (ct true : Int)])) := by
      rw [hLL]
      exact .s .z
    have gfp : ∀ b, AsL LL (.ref (fp b)) (fsD (fO (G b))) := fun b => by
      rw [hLL]
      unfold sdAll sdC
      cases b with
      | false => exact .own (.s (.s (.s .z)))
      | true => exact .own (.s (.s (get_pre (B := (cp true, C.lst (rcL (cameOf (G !true) (tkN ((tks : Int)).toNat 0 true)))) :: (fp true, C.lst (fsD (fO (G true)))) :: sdB X.K (st true)) (.s .z))))
    have hfl : ∀ b, (fO (G b)).length ≤ 1000 := fun b => by
      show ((G b).map _).length ≤ _
      rw [List.length_map, hwq.glen, tkN_0]
      omega
    have hfl3 : ∀ b, ∀ f ∈ fO (G b), f.length ≤ 1000 := fun c f hf => by
      obtain ⟨g, hg, rfl⟩ := List.mem_map.mp hf
      exact Nat.le_trans (goodF_len (hwq.good c g hg).2.2) (by decide)
    have hfi : ∀ b, atI [D.ref (fp false), D.ref (fp true)] (sideI b) = some (.ref (fp b)) := fun b => by cases b <;> rfl
    have hfo : ∀ b, atI [D.ref (fp false), D.ref (fp true)] (1 - sideI b) = some (.ref (fp !b)) := fun b => by cases b <;> rfl
    clear hLL
    obtain ⟨ob, hob⟩ : ∃ ob : Bool → Option Nat, ∀ b, Br (fO (G b)) (lost : Int).toNat (ob b) := ⟨fun b => (br_ex (fO (G b)) (lost : Int).toNat).choose, fun b => (br_ex (fO (G b)) (lost : Int).toNat).choose_spec⟩
    refine bk_cons (sk_for c (ei_range1 T.no_range (c.toCn.gl) (ek_int (⟨_, rfl, (by walk_at "vrng"), ⟨fun j Γ L' => ∃ w4' : Option D, Γ = [some (.lst (dI ns)), some (.lst (dI [n0, n1, n2, n3, n4, n5])), some (.tup [.int late, .int lost]), some (.int (late + lost)), some (.int (tks : Int)), some (.lst EE), some (.ref pp), some (D.lst [.ref (cp false), .ref (cp true)]), some (D.lst [.ref (fp false), .ref (fp true)]), some (.ref sp), some (.lst CC), w1, w2, w3, w4', w5, w6, none, none] ∧ L' = LL, ?_, fun F1 c j d Γ L hd hP => ?_, fun Γ L hP => ?_⟩⟩))))
    · exact ⟨_, rfl, rfl⟩
    · obtain ⟨w4', rfl, rfl⟩ := hP
      obtain ⟨hj, rfl⟩ := range_nat hd
      obtain ⟨b, hbj, hbn⟩ := side_of hj
      rw [hbj]
      refine tg_n c.toCn ⟨_, (.s (.s (.s (.s (.s (.s (.s (.s (.s (.s (.s (.s (.s (.s .z)))))))))))))), ?_⟩
      have hsi : atI (dI [(ct false : Int), (ct true : Int)]) (sideI b) = some (.int (ct b : Int)) := by cases b <;> rfl
      refine bk_one (sk_if (et_w (ew_and (et_gt (ek_ix (ek_n c.toCn (.s (.s (.s (.s (.s (.s (.s (.s (.s .z))))))))) (ek_n c.toCn (.s (.s (.s (.s (.s (.s (.s (.s (.s (.s (.s (.s (.s (.s .z)))))))))))))) (⟨_, _, _, (.own gsp), rfl, (by first | exact hsi | exact hfo b), ⟨_, rfl, ek_int (⟨_, rfl, ⟨rfl, rfl⟩⟩)⟩⟩))) (fun _ _ => rfl))) (fun hb => et_and1 (et_v (ek_call c.tk G_keeps (hr.mono (by first | decide | exact Nat.le_refl _)) (ea_cons (ek_ix (ek_n c.toCn (.s (.s (.s (.s (.s (.s (.s (.s .z)))))))) (ek_sub (ek_int (⟨_, rfl, ek_n c.toCn (.s (.s (.s (.s (.s (.s (.s (.s (.s (.s (.s (.s (.s (.s .z)))))))))))))) (⟨_, rfl, ⟨_, _, _, .lst, rfl, (by first | exact hsi | exact hfo b), ea_cons (ek_n c.toCn (.s (.s .z)) (ea_nil (⟨_, fO (G !b), late, lost, rfl, gfp !b, hfl !b, hfl3 !b, hm, ob !b, hob !b, ⟨_, rfl, ⟨rfl, rfl⟩⟩⟩)))⟩⟩)⟩)))) (fun _ _ => rfl))) (c.toCn.gl)))) (⟨fun ht => ?_, fun ht => ?_⟩))))
      · exfalso
        simp only [Bool.and_eq_true, decide_eq_true_eq] at ht
        obtain ⟨p, hp⟩ := hct b (by omega)
        have ho := hob !b
        rw [Int.toNat_natCast] at ho
        cases hz : ob (!b) with
        | none =>
          rw [hz] at ho
          exact ho p hp
        | some _ =>
          rw [hz] at ht
          cases ht.2
      · exact bk_nil ⟨_, rfl, rfl⟩
    · obtain ⟨w4', rfl, rfl⟩ := hP
      refine bk_one (sk_ret (ek_or (ek_neI (ek_mod (ek_ix (ek_n c.toCn (.s .z) (ek_int (⟨_, _, _, .lst, rfl, (by first | exact hfi false | exact hfi true | rfl), ⟨_, rfl, ek_int (⟨_, rfl, (by walk_at "vpos"), ⟨_, rfl, ek_int (⟨_, rfl, ⟨rfl, rfl⟩⟩)⟩⟩)⟩⟩))) (fun _ _ => rfl)))) (fun hb => ek_and (ek_and' (ek_eqD hu (ek_n c.toCn (.s (.s (.s (.s (.s (.s (.s (.s (.s .z))))))))) (ek_lst (ea_cons (ek_int (ea_cons (ek_int (ea_nil (⟨(by walk_at "vlen"), ⟨_, _, (by first | exact .own gsp dpds_dI | exact .lst (dpds_dI (xs := [0, 0]))), (by first | exact .own gsp dpds_dI | exact .lst (dpds_dI (xs := [0, 0]))), (by first | exact shaped_dI | exact shaped_dI (xs := [0, 0])), (by first | exact shaped_dI | exact shaped_dI (xs := [0, 0])), ⟨rfl, rfl⟩⟩⟩))))))))) (fun hb => ek_and' (ek_call c.tk G_keeps (hr.mono (by first | decide | exact Nat.le_refl _)) (ea_cons (ek_ix (ek_n c.toCn (.s (.s (.s (.s (.s (.s (.s (.s .z)))))))) (ek_int (⟨_, _, _, .lst, rfl, (by first | exact hfi false | exact hfi true | rfl), ea_cons (ek_n c.toCn (.s (.s .z)) (ea_nil (⟨_, _, late, lost, rfl, gfp _, hfl _, hfl3 _, hm, ob _, hob _, ⟨rfl, rfl⟩⟩)))⟩))) (fun _ _ => rfl))) (c.toCn.gl)) (fun hb => ek_and (ek_call c.tk G_keeps (hr.mono (by first | decide | exact Nat.le_refl _)) (ea_cons (ek_ix (ek_n c.toCn (.s (.s (.s (.s (.s (.s (.s (.s .z)))))))) (ek_int (⟨_, _, _, .lst, rfl, (by first | exact hfi false | exact hfi true | rfl), ea_cons (ek_n c.toCn (.s (.s .z)) (ea_nil (⟨_, _, late, lost, rfl, gfp _, hfl _, hfl3 _, hm, ob _, hob _, ⟨rfl, rfl⟩⟩)))⟩))) (fun _ _ => rfl))) (c.toCn.gl))) (⟨rfl, rfl⟩)) (⟨rfl, rfl⟩))) (?_)))
      have hfin : (!decide (n4 % 4 = 1) || (PyData.list (List.map PyData.int [(ct false : Int), (ct true : Int)])).eqv (PyData.list (List.map PyData.int [0, 0])) && ((ob false).isNone && (ob true).isNone)) = true := by
        by_cases z : n4 % 4 = 1
        · have hk := hkp z
          have hc0 : ∀ b, ct b = 0 := fun b => Classical.byContradiction fun hn => hk (!b) (hct b (by omega))
          have hob0 : ∀ b, (ob b).isNone = true := fun b => by
            have ho := hob b
            rw [Int.toNat_natCast] at ho
            cases hz : ob b with
            | none => rfl
            | some p =>
              rw [hz] at ho
              exact absurd ⟨p, ho.1⟩ (hk b)
          rw [hc0, hc0, hob0, hob0, eqv_dI]
          simp
        · rw [decide_eq_false z]
          rfl
      rw [hfin]
      exact h1 _
end
end K34


set_option Elab.async false
set_option linter.all false
set_option maxRecDepth 100000
set_option maxHeartbeats 4000000
set_option pp.deepTerms.threshold 16
namespace K34
open PySem PySem.Spec PyProof.Rows L2 Vs
/-! ### the head and the end -/
abbrev R : PySem.W.OpenRow := PySem.W.OpenLaw.row PySem.Challenge.rw_stormpost_k34_whole_silence_is_a_breach
def fn : List He.DefD := [dd "look_signs" (top 12), dd "sums_of" (top 13), dd "sealed" (top 14), dd "troubles" (top 15), dd "look_sign" (top 28), dd "power" (top 29), dd "inverse" (top 30), dd "place_of" (top 32), dd "one_turned" (top 33), dd "goes_on" (top 34), dd "two_turned" (top 35), dd "mended" (top 36), dd "look_late" (top 20), dd "look_measure" (top 21), dd "quiet_of" (top 23), dd "number_signs" (top 39), dd "signs_number" (top 40), dm "LinkEnd" "end_up" "LinkEnd.end_up" (mt 45 4), dm "LinkEnd" "begin_up" "LinkEnd.begin_up" (mt 45 3), dm "LinkEnd" "read_piece" "LinkEnd.read_piece" (mt 45 5), dm "LinkEnd" "fall_silent" "LinkEnd.fall_silent" (mt 45 6), dm "LinkEnd" "up" "LinkEnd.up" (mt 45 9), dm "LinkEnd" "events" "LinkEnd.events" (mt 45 11), dm "LinkEnd" "signs_now" "LinkEnd.signs_now" (mt 45 7), dm "LinkEnd" "read_births" "LinkEnd.read_births" (mt 45 2), dm "LinkEnd" "tick" "LinkEnd.tick" (mt 45 1), dm "LinkEnd" "__init__" "LinkEnd.__init__" (mt 45 0), dd "_law_cell" (top 50), dd "_law_numbers" (top 51), dd "_law_measure" (top 52), dd "_law_turns" (top 53), dd "_law_fate" (top 54), dd "_law_turned" (top 55), dd "_law_give" (top 56), dd "is_fit" (top 22), dd "breach" (top 24), dd "keeps" (top 25), dd "is_readable" (top 37), dd "is_shown" (top 47), dd "broken_by" (top 48), dd "_law_dead" (top 57), dd "_law_kept" (top 58), dd "_law_silent_right" (top 59), dd "_law_events_right" (top 60), dd "law" (top 61)]
def fa : List He.Fa := [.glo "look_signs", .glo "sums_of", .glo "sealed", .glo "troubles", .glo "look_sign", .glo "power", .glo "inverse", .glo "place_of", .glo "one_turned", .glo "goes_on", .glo "two_turned", .glo "mended", .glo "look_late", .glo "look_measure", .glo "quiet_of", .glo "number_signs", .glo "signs_number", .glo "_law_cell", .glo "_law_numbers", .glo "_law_measure", .glo "_law_turns", .glo "_law_fate", .glo "_law_turned", .glo "_law_give", .glo "is_fit", .glo "breach", .glo "keeps", .glo "is_readable", .glo "is_shown", .glo "broken_by", .glo "_law_dead", .glo "_law_kept", .glo "_law_silent_right", .glo "_law_events_right", .glo "law", .glo "LinkEnd", .cls "LinkEnd", .noat "LinkEnd" "quiet_ticks", .noat "LinkEnd" "side_number", .noat "LinkEnd" "own_birth", .noat "LinkEnd" "other_birth", .noat "LinkEnd" "own_pair", .noat "LinkEnd" "now_tick", .noat "LinkEnd" "heard_tick", .noat "LinkEnd" "pieces_left", .noat "LinkEnd" "piece_number", .noat "LinkEnd" "piece_count", .noat "LinkEnd" "events_told", .mkr "LinkEnd", .meth "LinkEnd" "tick", .meth "LinkEnd" "read_births", .meth "LinkEnd" "begin_up", .meth "LinkEnd" "end_up", .meth "LinkEnd" "read_piece", .meth "LinkEnd" "fall_silent", .meth "LinkEnd" "signs_now", .meth "LinkEnd" "up", .meth "LinkEnd" "events", .glo "PostError", .exc "PostError", .glo "BadSign", .exc "BadSign", .glo "BadCell", .exc "BadCell", .glo "BadMeasure", .exc "BadMeasure", .glo "POWERS", .glo "CHECKS", .int "PLACES" 24, .int "FREE" 18, .int "SUMS" 6, .int "MOST_LATE" 6, .int "MOST_LOST" 4, .int "MENDED_TURNS" 2, .int "PRIME" 97, .int "ALL_SIGNS" 97, .int "MOST_SIGNS" 10, .int "BIRTH_SIGNS" 2, .free "len", .free "range", .free "isinstance", .free "int", .free "bool", .free "list", .free "sum", .free "reversed", .free "ValueError", .free "min", .free "max", .free "tuple", .free "all", .free "any", .free "enumerate", .free "abs", .free "sorted", .free "str", .free "dict"]
def ex (K : PySem.W.Frag) : Bool := (He.lstB K "POWERS" ((pows : List Int).map He.Dv.int) && (lstT K "CHECKS" ckRows && true))
abbrev hk : PySem.W.Hook := hookE 6 fa fn ex
def ob (s : PySem.W.SharedT) : AlE := obsE 6 fa fn ex (HandSHeadRun.getT s)
theorem ob_eq (s : PySem.W.SharedT) : ob s = hk.obs s.abs := obsE_eq (HandSHeadRun.getT_eq s)
def loose : List Str := (("_wall" : Str) :: ("PostError" : Str) :: ("BadSign" : Str) :: ("BadCell" : Str) :: ("BadMeasure" : Str) :: ("POWERS" : Str) :: ("CHECKS" : Str) :: ("PLACES" : Str) :: ("FREE" : Str) :: ("SUMS" : Str) :: ("look_signs" : Str) :: ("sums_of" : Str) :: ("sealed" : Str) :: ("troubles" : Str) :: ("MOST_LATE" : Str) :: ("MOST_LOST" : Str) :: ("MENDED_TURNS" : Str) :: ("look_late" : Str) :: ("look_measure" : Str) :: ("is_fit" : Str) :: ("quiet_of" : Str) :: ("breach" : Str) :: ("keeps" : Str) :: ("PRIME" : Str) :: ("look_sign" : Str) :: ("power" : Str) :: ("inverse" : Str) :: ("place_of" : Str) :: ("one_turned" : Str) :: ("goes_on" : Str) :: ("two_turned" : Str) :: ("mended" : Str) :: ("is_readable" : Str) :: ("number_signs" : Str) :: ("signs_number" : Str) :: [] : List Str) ++ (("ALL_SIGNS" : Str) :: ("MOST_SIGNS" : Str) :: ("BIRTH_SIGNS" : Str) :: ("LinkEnd" : Str) :: ("is_shown" : Str) :: ("broken_by" : Str) :: ("_law_cell" : Str) :: ("_law_numbers" : Str) :: ("_law_measure" : Str) :: ("_law_turns" : Str) :: ("_law_fate" : Str) :: ("_law_turned" : Str) :: ("_law_give" : Str) :: ("_law_dead" : Str) :: ("_law_kept" : Str) :: ("_law_silent_right" : Str) :: ("_law_events_right" : Str) :: [] : List Str)
theorem run (w : World) : HandSHeadRun.RunEq R (PySem.W.view R.prog [61]) hk ob 8000 loose w := by
  intro os
  kernel_rfl
theorem tx_of {K : PySem.W.Frag} {h : Heap} {mg : Str → Option Value} (X : K.In h) (G : h.Ns mainGlobals mg) (c : SaysE fa fn ex K) : Tx K mg := by
  have f := fun (i : Nat) (q : He.Fa) (hq : fa[i]? = some q) => c.d.fact i hq
  have e := c.ex
  unfold ex at e
  obtain ⟨e0, e⟩ := He.ba e
  obtain ⟨e1, e⟩ := He.ba e
  exact { PostError := exF_of X G (f 58 _ rfl) (f 59 _ rfl),
          BadSign := exF_of X G (f 60 _ rfl) (f 61 _ rfl),
          BadCell := exF_of X G (f 62 _ rfl) (f 63 _ rfl),
          BadMeasure := exF_of X G (f 64 _ rfl) (f 65 _ rfl),
          PLACES := He.int_ok X G (f 68 _ rfl),
          FREE := He.int_ok X G (f 69 _ rfl),
          SUMS := He.int_ok X G (f 70 _ rfl),
          MOST_LATE := He.int_ok X G (f 71 _ rfl),
          MOST_LOST := He.int_ok X G (f 72 _ rfl),
          MENDED_TURNS := He.int_ok X G (f 73 _ rfl),
          PRIME := He.int_ok X G (f 74 _ rfl),
          ALL_SIGNS := He.int_ok X G (f 75 _ rfl),
          MOST_SIGNS := He.int_ok X G (f 76 _ rfl),
          BIRTH_SIGNS := He.int_ok X G (f 77 _ rfl),
          no_len := He.free_ok X G (f 78 _ rfl),
          no_range := He.free_ok X G (f 79 _ rfl),
          no_isinstance := He.free_ok X G (f 80 _ rfl),
          no_int := He.free_ok X G (f 81 _ rfl),
          no_bool := He.free_ok X G (f 82 _ rfl),
          no_list := He.free_ok X G (f 83 _ rfl),
          no_sum := He.free_ok X G (f 84 _ rfl),
          no_reversed := He.free_ok X G (f 85 _ rfl),
          no_ValueError := He.free_ok X G (f 86 _ rfl),
          no_min := He.free_ok X G (f 87 _ rfl),
          no_max := He.free_ok X G (f 88 _ rfl),
          no_tuple := He.free_ok X G (f 89 _ rfl),
          no_all := He.free_ok X G (f 90 _ rfl),
          no_any := He.free_ok X G (f 91 _ rfl),
          no_enumerate := He.free_ok X G (f 92 _ rfl),
          no_abs := He.free_ok X G (f 93 _ rfl),
          no_sorted := He.free_ok X G (f 94 _ rfl),
          no_str := He.free_ok X G (f 95 _ rfl),
          no_dict := He.free_ok X G (f 96 _ rfl),
          cl_LinkEnd := He.cls_ok (f 36 _ rfl),
          mg_LinkEnd := He.glo_ok X G (f 35 _ rfl),
          na_LinkEnd_quiet_ticks := He.noat_ok (f 37 _ rfl),
          na_LinkEnd_side_number := He.noat_ok (f 38 _ rfl),
          na_LinkEnd_own_birth := He.noat_ok (f 39 _ rfl),
          na_LinkEnd_other_birth := He.noat_ok (f 40 _ rfl),
          na_LinkEnd_own_pair := He.noat_ok (f 41 _ rfl),
          na_LinkEnd_now_tick := He.noat_ok (f 42 _ rfl),
          na_LinkEnd_heard_tick := He.noat_ok (f 43 _ rfl),
          na_LinkEnd_pieces_left := He.noat_ok (f 44 _ rfl),
          na_LinkEnd_piece_number := He.noat_ok (f 45 _ rfl),
          na_LinkEnd_piece_count := He.noat_ok (f 46 _ rfl),
          na_LinkEnd_events_told := He.noat_ok (f 47 _ rfl),
          mk_LinkEnd := He.mkr_ok (f 48 _ rfl),
          me_LinkEnd_tick := He.meth_ok (f 49 _ rfl),
          me_LinkEnd_read_births := He.meth_ok (f 50 _ rfl),
          me_LinkEnd_begin_up := He.meth_ok (f 51 _ rfl),
          me_LinkEnd_end_up := He.meth_ok (f 52 _ rfl),
          me_LinkEnd_read_piece := He.meth_ok (f 53 _ rfl),
          me_LinkEnd_fall_silent := He.meth_ok (f 54 _ rfl),
          me_LinkEnd_signs_now := He.meth_ok (f 55 _ rfl),
          me_LinkEnd_up := He.meth_ok (f 56 _ rfl),
          me_LinkEnd_events := He.meth_ok (f 57 _ rfl),
          POWERS := gobj_ints (He.glo_ok X G (f 66 _ rfl)) e0,
          CHECKS := gobj_tups (He.glo_ok X G (f 67 _ rfl)) e1 }
theorem facts {P : Program} {w : World} {K : PySem.W.Frag} {h : Heap} {mg : Str → Option Value} {f : Addr} (X : K.In h) (G : h.Ns mainGlobals mg) (hfa : mg ("law" : Str) = some (.ref f)) (c : SaysE fa fn ex K) :
    ∃ fd : FuncData, (∀ (s : Shared) (v : Value), BindsTo s fd ⟨[v], []⟩ [("script", v)]) ∧ ∀ base : Heap, K.In base → base.Ns mainGlobals mg → FnOk P w K mg base (L2.CX P w) 10 f fd ["script"] (spOf K (K34.S_law K)) := by
  have T := tx_of X G c
  obtain ⟨d0, D0⟩ : ∃ fd, FunX K "look_signs" (top 12) fd := c.d.def_ 0 (d := dd "look_signs" (top 12)) rfl
  obtain ⟨d1, D1⟩ : ∃ fd, FunX K "sums_of" (top 13) fd := c.d.def_ 1 (d := dd "sums_of" (top 13)) rfl
  obtain ⟨d2, D2⟩ : ∃ fd, FunX K "sealed" (top 14) fd := c.d.def_ 2 (d := dd "sealed" (top 14)) rfl
  obtain ⟨d3, D3⟩ : ∃ fd, FunX K "troubles" (top 15) fd := c.d.def_ 3 (d := dd "troubles" (top 15)) rfl
  obtain ⟨d4, D4⟩ : ∃ fd, FunX K "look_sign" (top 28) fd := c.d.def_ 4 (d := dd "look_sign" (top 28)) rfl
  obtain ⟨d5, D5⟩ : ∃ fd, FunX K "power" (top 29) fd := c.d.def_ 5 (d := dd "power" (top 29)) rfl
  obtain ⟨d6, D6⟩ : ∃ fd, FunX K "inverse" (top 30) fd := c.d.def_ 6 (d := dd "inverse" (top 30)) rfl
  obtain ⟨d7, D7⟩ : ∃ fd, FunX K "place_of" (top 32) fd := c.d.def_ 7 (d := dd "place_of" (top 32)) rfl
  obtain ⟨d8, D8⟩ : ∃ fd, FunX K "one_turned" (top 33) fd := c.d.def_ 8 (d := dd "one_turned" (top 33)) rfl
  obtain ⟨d9, D9⟩ : ∃ fd, FunX K "goes_on" (top 34) fd := c.d.def_ 9 (d := dd "goes_on" (top 34)) rfl
  obtain ⟨d10, D10⟩ : ∃ fd, FunX K "two_turned" (top 35) fd := c.d.def_ 10 (d := dd "two_turned" (top 35)) rfl
  obtain ⟨d11, D11⟩ : ∃ fd, FunX K "mended" (top 36) fd := c.d.def_ 11 (d := dd "mended" (top 36)) rfl
  obtain ⟨d12, D12⟩ : ∃ fd, FunX K "look_late" (top 20) fd := c.d.def_ 12 (d := dd "look_late" (top 20)) rfl
  obtain ⟨d13, D13⟩ : ∃ fd, FunX K "look_measure" (top 21) fd := c.d.def_ 13 (d := dd "look_measure" (top 21)) rfl
  obtain ⟨d14, D14⟩ : ∃ fd, FunX K "quiet_of" (top 23) fd := c.d.def_ 14 (d := dd "quiet_of" (top 23)) rfl
  obtain ⟨d15, D15⟩ : ∃ fd, FunX K "number_signs" (top 39) fd := c.d.def_ 15 (d := dd "number_signs" (top 39)) rfl
  obtain ⟨d16, D16⟩ : ∃ fd, FunX K "signs_number" (top 40) fd := c.d.def_ 16 (d := dd "signs_number" (top 40)) rfl
  obtain ⟨d17, D17⟩ : ∃ fd, MetD K "LinkEnd" "end_up" "LinkEnd.end_up" (mt 45 4) fd := c.d.def_ 17 (d := dm "LinkEnd" "end_up" "LinkEnd.end_up" (mt 45 4)) rfl
  obtain ⟨d18, D18⟩ : ∃ fd, MetD K "LinkEnd" "begin_up" "LinkEnd.begin_up" (mt 45 3) fd := c.d.def_ 18 (d := dm "LinkEnd" "begin_up" "LinkEnd.begin_up" (mt 45 3)) rfl
  obtain ⟨d19, D19⟩ : ∃ fd, MetD K "LinkEnd" "read_piece" "LinkEnd.read_piece" (mt 45 5) fd := c.d.def_ 19 (d := dm "LinkEnd" "read_piece" "LinkEnd.read_piece" (mt 45 5)) rfl
  obtain ⟨d20, D20⟩ : ∃ fd, MetD K "LinkEnd" "fall_silent" "LinkEnd.fall_silent" (mt 45 6) fd := c.d.def_ 20 (d := dm "LinkEnd" "fall_silent" "LinkEnd.fall_silent" (mt 45 6)) rfl
  obtain ⟨d21, D21⟩ : ∃ fd, MetD K "LinkEnd" "up" "LinkEnd.up" (mt 45 9) fd := c.d.def_ 21 (d := dm "LinkEnd" "up" "LinkEnd.up" (mt 45 9)) rfl
  obtain ⟨d22, D22⟩ : ∃ fd, MetD K "LinkEnd" "events" "LinkEnd.events" (mt 45 11) fd := c.d.def_ 22 (d := dm "LinkEnd" "events" "LinkEnd.events" (mt 45 11)) rfl
  obtain ⟨d23, D23⟩ : ∃ fd, MetD K "LinkEnd" "signs_now" "LinkEnd.signs_now" (mt 45 7) fd := c.d.def_ 23 (d := dm "LinkEnd" "signs_now" "LinkEnd.signs_now" (mt 45 7)) rfl
  obtain ⟨d24, D24⟩ : ∃ fd, MetD K "LinkEnd" "read_births" "LinkEnd.read_births" (mt 45 2) fd := c.d.def_ 24 (d := dm "LinkEnd" "read_births" "LinkEnd.read_births" (mt 45 2)) rfl
  obtain ⟨d25, D25⟩ : ∃ fd, MetD K "LinkEnd" "tick" "LinkEnd.tick" (mt 45 1) fd := c.d.def_ 25 (d := dm "LinkEnd" "tick" "LinkEnd.tick" (mt 45 1)) rfl
  obtain ⟨d26, D26⟩ : ∃ fd, MetD K "LinkEnd" "__init__" "LinkEnd.__init__" (mt 45 0) fd := c.d.def_ 26 (d := dm "LinkEnd" "__init__" "LinkEnd.__init__" (mt 45 0)) rfl
  obtain ⟨d27, D27⟩ : ∃ fd, FunX K "_law_cell" (top 50) fd := c.d.def_ 27 (d := dd "_law_cell" (top 50)) rfl
  obtain ⟨d28, D28⟩ : ∃ fd, FunX K "_law_numbers" (top 51) fd := c.d.def_ 28 (d := dd "_law_numbers" (top 51)) rfl
  obtain ⟨d29, D29⟩ : ∃ fd, FunX K "_law_measure" (top 52) fd := c.d.def_ 29 (d := dd "_law_measure" (top 52)) rfl
  obtain ⟨d30, D30⟩ : ∃ fd, FunX K "_law_turns" (top 53) fd := c.d.def_ 30 (d := dd "_law_turns" (top 53)) rfl
  obtain ⟨d31, D31⟩ : ∃ fd, FunX K "_law_fate" (top 54) fd := c.d.def_ 31 (d := dd "_law_fate" (top 54)) rfl
  obtain ⟨d32, D32⟩ : ∃ fd, FunX K "_law_turned" (top 55) fd := c.d.def_ 32 (d := dd "_law_turned" (top 55)) rfl
  obtain ⟨d33, D33⟩ : ∃ fd, FunX K "_law_give" (top 56) fd := c.d.def_ 33 (d := dd "_law_give" (top 56)) rfl
  obtain ⟨d34, D34⟩ : ∃ fd, FunX K "is_fit" (top 22) fd := c.d.def_ 34 (d := dd "is_fit" (top 22)) rfl
  obtain ⟨d35, D35⟩ : ∃ fd, FunX K "breach" (top 24) fd := c.d.def_ 35 (d := dd "breach" (top 24)) rfl
  obtain ⟨d36, D36⟩ : ∃ fd, FunX K "keeps" (top 25) fd := c.d.def_ 36 (d := dd "keeps" (top 25)) rfl
  obtain ⟨d37, D37⟩ : ∃ fd, FunX K "is_readable" (top 37) fd := c.d.def_ 37 (d := dd "is_readable" (top 37)) rfl
  obtain ⟨d38, D38⟩ : ∃ fd, FunX K "is_shown" (top 47) fd := c.d.def_ 38 (d := dd "is_shown" (top 47)) rfl
  obtain ⟨d39, D39⟩ : ∃ fd, FunX K "broken_by" (top 48) fd := c.d.def_ 39 (d := dd "broken_by" (top 48)) rfl
  obtain ⟨d40, D40⟩ : ∃ fd, FunX K "_law_dead" (top 57) fd := c.d.def_ 40 (d := dd "_law_dead" (top 57)) rfl
  obtain ⟨d41, D41⟩ : ∃ fd, FunX K "_law_kept" (top 58) fd := c.d.def_ 41 (d := dd "_law_kept" (top 58)) rfl
  obtain ⟨d42, D42⟩ : ∃ fd, FunX K "_law_silent_right" (top 59) fd := c.d.def_ 42 (d := dd "_law_silent_right" (top 59)) rfl
  obtain ⟨d43, D43⟩ : ∃ fd, FunX K "_law_events_right" (top 60) fd := c.d.def_ 43 (d := dd "_law_events_right" (top 60)) rfl
  obtain ⟨d44, D44⟩ : ∃ fd, FunX K "law" (top 61) fd := c.d.def_ 44 (d := dd "law" (top 61)) rfl
  have g := fun (i : Nat) (x : Str) (hq : fa[i]? = some (.glo x)) => He.glo_ok X G (c.d.fact i hq)
  have e := hfa.symm.trans (g 34 _ rfl)
  cases e
  have b := FunD.bindsA (ps := ["script"]) D44 fun _ _ _ _ _ _ us hl => match us, hl with | [_], _ => rfl
  refine ⟨d44, fun s v => b s [v] rfl, fun base _ _ => ?_⟩
  have C_looks : Cal P w K mg base 1 "look_signs" (["signs", "many"] : List Str) (S_look_signs K) := cal_of (N := (["signs", "many", "sign"] : List Str)) (Nc := ([] : List Str)) D0 (g 0 _ rfl) ⟨rfl, rfl, rfl, by decide +kernel, rfl, by decide +kernel, by decide +kernel⟩ (by decide +kernel)
    (D0.bindsN fun _ _ _ _ _ _ us hl => match us, hl with | [_, _], _ => rfl) (fun ds L q e h => by first | (obtain ⟨rfl, _⟩ := h; rfl) | (obtain ⟨_, rfl, _⟩ := h; rfl) | (obtain ⟨_, _, rfl, _⟩ := h; rfl) | (obtain ⟨_, _, _, rfl, _⟩ := h; rfl) | (obtain ⟨_, _, _, _, rfl, _⟩ := h; rfl) | (obtain ⟨_, _, _, _, _, rfl, _⟩ := h; rfl) | (obtain ⟨_, _, _, _, _, _, rfl, _⟩ := h; rfl) | (obtain ⟨_, _, _, _, _, _, _, rfl, _⟩ := h; rfl) | (obtain ⟨_, _, _, _, _, _, _, _, rfl, _⟩ := h; rfl) | (obtain ⟨_, _, _, _, _, _, _, _, _, rfl, _⟩ := h; rfl) | (obtain ⟨_, _, _, _, _, _, _, _, _, _, rfl, _⟩ := h; rfl) | (obtain ⟨_, _, _, _, _, _, _, _, _, _, _, rfl, _⟩ := h; rfl) | (obtain ⟨_, _, _, _, _, _, _, _, _, _, _, _, rfl, _⟩ := h; rfl) | (obtain ⟨_, _, _, _, _, _, _, _, _, _, _, _, _, rfl, _⟩ := h; rfl) | (obtain ⟨_, _, _, _, _, _, _, _, _, _, _, _, _, _, rfl, _⟩ := h; rfl) | (obtain ⟨_, _, _, _, _, _, _, _, _, _, _, _, _, _, _, rfl, _⟩ := h; rfl) | (obtain ⟨_, _, _, _, _, _, _, _, _, _, _, _, _, _, _, _, rfl, _⟩ := h; rfl) | (obtain ⟨_, _, _, _, _, _, _, _, _, _, _, _, _, _, _, _, _, rfl, _⟩ := h; rfl) | (obtain ⟨_, _, _, _, _, _, _, _, _, _, _, _, _, _, _, _, _, _, rfl, _⟩ := h; rfl) | (obtain ⟨_, _, _, _, _, _, _, _, _, _, _, _, _, _, _, _, _, _, _, rfl, _⟩ := h; rfl) | (obtain ⟨_, _, _, _, _, _, _, _, _, _, _, _, _, _, _, _, _, _, _, _, rfl, _⟩ := h; rfl) | (obtain ⟨_, _, _, _, _, _, _, _, _, _, _, _, _, _, _, _, _, _, _, _, _, rfl, _⟩ := h; rfl) | (obtain ⟨_, _, _, _, _, _, _, _, _, _, _, _, _, _, _, _, _, _, _, _, _, _, rfl, _⟩ := h; rfl) | (obtain ⟨_, _, _, _, _, _, _, _, _, _, _, _, _, _, _, _, _, _, _, _, _, _, _, rfl, _⟩ := h; rfl) | (obtain ⟨_, _, _, _, _, _, _, _, _, _, _, _, _, _, _, _, _, _, _, _, _, _, _, _, rfl, _⟩ := h; rfl) | (obtain ⟨_, _, _, _, _, _, _, _, _, _, _, _, _, _, _, _, _, _, _, _, _, _, _, _, _, rfl, _⟩ := h; rfl)) (fun X F0 ds L q e h1 h2 h3 h4 h5 cf hr hS => by subst h1 h2 h3 h4 h5; exact b_look_signs cf T hS)
  have C_sums : Cal P w K mg base 1 "sums_of" (["signs"] : List Str) S_sums_of := cal_of (N := (["signs"] : List Str)) (Nc := (["j", "i"] : List Str)) D1 (g 1 _ rfl) ⟨rfl, rfl, rfl, by decide +kernel, rfl, by decide +kernel, by decide +kernel⟩ (by decide +kernel)
    (D1.bindsN fun _ _ _ _ _ _ us hl => match us, hl with | [_], _ => rfl) (fun ds L q e h => by first | (obtain ⟨rfl, _⟩ := h; rfl) | (obtain ⟨_, rfl, _⟩ := h; rfl) | (obtain ⟨_, _, rfl, _⟩ := h; rfl) | (obtain ⟨_, _, _, rfl, _⟩ := h; rfl) | (obtain ⟨_, _, _, _, rfl, _⟩ := h; rfl) | (obtain ⟨_, _, _, _, _, rfl, _⟩ := h; rfl) | (obtain ⟨_, _, _, _, _, _, rfl, _⟩ := h; rfl) | (obtain ⟨_, _, _, _, _, _, _, rfl, _⟩ := h; rfl) | (obtain ⟨_, _, _, _, _, _, _, _, rfl, _⟩ := h; rfl) | (obtain ⟨_, _, _, _, _, _, _, _, _, rfl, _⟩ := h; rfl) | (obtain ⟨_, _, _, _, _, _, _, _, _, _, rfl, _⟩ := h; rfl) | (obtain ⟨_, _, _, _, _, _, _, _, _, _, _, rfl, _⟩ := h; rfl) | (obtain ⟨_, _, _, _, _, _, _, _, _, _, _, _, rfl, _⟩ := h; rfl) | (obtain ⟨_, _, _, _, _, _, _, _, _, _, _, _, _, rfl, _⟩ := h; rfl) | (obtain ⟨_, _, _, _, _, _, _, _, _, _, _, _, _, _, rfl, _⟩ := h; rfl) | (obtain ⟨_, _, _, _, _, _, _, _, _, _, _, _, _, _, _, rfl, _⟩ := h; rfl) | (obtain ⟨_, _, _, _, _, _, _, _, _, _, _, _, _, _, _, _, rfl, _⟩ := h; rfl) | (obtain ⟨_, _, _, _, _, _, _, _, _, _, _, _, _, _, _, _, _, rfl, _⟩ := h; rfl) | (obtain ⟨_, _, _, _, _, _, _, _, _, _, _, _, _, _, _, _, _, _, rfl, _⟩ := h; rfl) | (obtain ⟨_, _, _, _, _, _, _, _, _, _, _, _, _, _, _, _, _, _, _, rfl, _⟩ := h; rfl) | (obtain ⟨_, _, _, _, _, _, _, _, _, _, _, _, _, _, _, _, _, _, _, _, rfl, _⟩ := h; rfl) | (obtain ⟨_, _, _, _, _, _, _, _, _, _, _, _, _, _, _, _, _, _, _, _, _, rfl, _⟩ := h; rfl) | (obtain ⟨_, _, _, _, _, _, _, _, _, _, _, _, _, _, _, _, _, _, _, _, _, _, rfl, _⟩ := h; rfl) | (obtain ⟨_, _, _, _, _, _, _, _, _, _, _, _, _, _, _, _, _, _, _, _, _, _, _, rfl, _⟩ := h; rfl) | (obtain ⟨_, _, _, _, _, _, _, _, _, _, _, _, _, _, _, _, _, _, _, _, _, _, _, _, rfl, _⟩ := h; rfl) | (obtain ⟨_, _, _, _, _, _, _, _, _, _, _, _, _, _, _, _, _, _, _, _, _, _, _, _, _, rfl, _⟩ := h; rfl)) (fun X F0 ds L q e h1 h2 h3 h4 h5 cf hr hS => by subst h1 h2 h3 h4 h5; exact b_sums_of cf T hS)
  have C_sealed : Cal P w K mg base 2 "sealed" (["signs"] : List Str) (S_sealed K) := cal_of (N := (["signs"] : List Str)) (Nc := (["k", "i"] : List Str)) D2 (g 2 _ rfl) ⟨rfl, rfl, rfl, by decide +kernel, rfl, by decide +kernel, by decide +kernel⟩ (by decide +kernel)
    (D2.bindsN fun _ _ _ _ _ _ us hl => match us, hl with | [_], _ => rfl) (fun ds L q e h => by first | (obtain ⟨rfl, _⟩ := h; rfl) | (obtain ⟨_, rfl, _⟩ := h; rfl) | (obtain ⟨_, _, rfl, _⟩ := h; rfl) | (obtain ⟨_, _, _, rfl, _⟩ := h; rfl) | (obtain ⟨_, _, _, _, rfl, _⟩ := h; rfl) | (obtain ⟨_, _, _, _, _, rfl, _⟩ := h; rfl) | (obtain ⟨_, _, _, _, _, _, rfl, _⟩ := h; rfl) | (obtain ⟨_, _, _, _, _, _, _, rfl, _⟩ := h; rfl) | (obtain ⟨_, _, _, _, _, _, _, _, rfl, _⟩ := h; rfl) | (obtain ⟨_, _, _, _, _, _, _, _, _, rfl, _⟩ := h; rfl) | (obtain ⟨_, _, _, _, _, _, _, _, _, _, rfl, _⟩ := h; rfl) | (obtain ⟨_, _, _, _, _, _, _, _, _, _, _, rfl, _⟩ := h; rfl) | (obtain ⟨_, _, _, _, _, _, _, _, _, _, _, _, rfl, _⟩ := h; rfl) | (obtain ⟨_, _, _, _, _, _, _, _, _, _, _, _, _, rfl, _⟩ := h; rfl) | (obtain ⟨_, _, _, _, _, _, _, _, _, _, _, _, _, _, rfl, _⟩ := h; rfl) | (obtain ⟨_, _, _, _, _, _, _, _, _, _, _, _, _, _, _, rfl, _⟩ := h; rfl) | (obtain ⟨_, _, _, _, _, _, _, _, _, _, _, _, _, _, _, _, rfl, _⟩ := h; rfl) | (obtain ⟨_, _, _, _, _, _, _, _, _, _, _, _, _, _, _, _, _, rfl, _⟩ := h; rfl) | (obtain ⟨_, _, _, _, _, _, _, _, _, _, _, _, _, _, _, _, _, _, rfl, _⟩ := h; rfl) | (obtain ⟨_, _, _, _, _, _, _, _, _, _, _, _, _, _, _, _, _, _, _, rfl, _⟩ := h; rfl) | (obtain ⟨_, _, _, _, _, _, _, _, _, _, _, _, _, _, _, _, _, _, _, _, rfl, _⟩ := h; rfl) | (obtain ⟨_, _, _, _, _, _, _, _, _, _, _, _, _, _, _, _, _, _, _, _, _, rfl, _⟩ := h; rfl) | (obtain ⟨_, _, _, _, _, _, _, _, _, _, _, _, _, _, _, _, _, _, _, _, _, _, rfl, _⟩ := h; rfl) | (obtain ⟨_, _, _, _, _, _, _, _, _, _, _, _, _, _, _, _, _, _, _, _, _, _, _, rfl, _⟩ := h; rfl) | (obtain ⟨_, _, _, _, _, _, _, _, _, _, _, _, _, _, _, _, _, _, _, _, _, _, _, _, rfl, _⟩ := h; rfl) | (obtain ⟨_, _, _, _, _, _, _, _, _, _, _, _, _, _, _, _, _, _, _, _, _, _, _, _, _, rfl, _⟩ := h; rfl)) (fun X F0 ds L q e h1 h2 h3 h4 h5 cf hr hS => by subst h1 h2 h3 h4 h5; exact b_sealed cf T hr C_looks hS)
  have C_troubles : Cal P w K mg base 2 "troubles" (["cell"] : List Str) (S_troubles K) := cal_of (N := (["cell"] : List Str)) (Nc := ([] : List Str)) D3 (g 3 _ rfl) ⟨rfl, rfl, rfl, by decide +kernel, rfl, by decide +kernel, by decide +kernel⟩ (by decide +kernel)
    (D3.bindsN fun _ _ _ _ _ _ us hl => match us, hl with | [_], _ => rfl) (fun ds L q e h => by first | (obtain ⟨rfl, _⟩ := h; rfl) | (obtain ⟨_, rfl, _⟩ := h; rfl) | (obtain ⟨_, _, rfl, _⟩ := h; rfl) | (obtain ⟨_, _, _, rfl, _⟩ := h; rfl) | (obtain ⟨_, _, _, _, rfl, _⟩ := h; rfl) | (obtain ⟨_, _, _, _, _, rfl, _⟩ := h; rfl) | (obtain ⟨_, _, _, _, _, _, rfl, _⟩ := h; rfl) | (obtain ⟨_, _, _, _, _, _, _, rfl, _⟩ := h; rfl) | (obtain ⟨_, _, _, _, _, _, _, _, rfl, _⟩ := h; rfl) | (obtain ⟨_, _, _, _, _, _, _, _, _, rfl, _⟩ := h; rfl) | (obtain ⟨_, _, _, _, _, _, _, _, _, _, rfl, _⟩ := h; rfl) | (obtain ⟨_, _, _, _, _, _, _, _, _, _, _, rfl, _⟩ := h; rfl) | (obtain ⟨_, _, _, _, _, _, _, _, _, _, _, _, rfl, _⟩ := h; rfl) | (obtain ⟨_, _, _, _, _, _, _, _, _, _, _, _, _, rfl, _⟩ := h; rfl) | (obtain ⟨_, _, _, _, _, _, _, _, _, _, _, _, _, _, rfl, _⟩ := h; rfl) | (obtain ⟨_, _, _, _, _, _, _, _, _, _, _, _, _, _, _, rfl, _⟩ := h; rfl) | (obtain ⟨_, _, _, _, _, _, _, _, _, _, _, _, _, _, _, _, rfl, _⟩ := h; rfl) | (obtain ⟨_, _, _, _, _, _, _, _, _, _, _, _, _, _, _, _, _, rfl, _⟩ := h; rfl) | (obtain ⟨_, _, _, _, _, _, _, _, _, _, _, _, _, _, _, _, _, _, rfl, _⟩ := h; rfl) | (obtain ⟨_, _, _, _, _, _, _, _, _, _, _, _, _, _, _, _, _, _, _, rfl, _⟩ := h; rfl) | (obtain ⟨_, _, _, _, _, _, _, _, _, _, _, _, _, _, _, _, _, _, _, _, rfl, _⟩ := h; rfl) | (obtain ⟨_, _, _, _, _, _, _, _, _, _, _, _, _, _, _, _, _, _, _, _, _, rfl, _⟩ := h; rfl) | (obtain ⟨_, _, _, _, _, _, _, _, _, _, _, _, _, _, _, _, _, _, _, _, _, _, rfl, _⟩ := h; rfl) | (obtain ⟨_, _, _, _, _, _, _, _, _, _, _, _, _, _, _, _, _, _, _, _, _, _, _, rfl, _⟩ := h; rfl) | (obtain ⟨_, _, _, _, _, _, _, _, _, _, _, _, _, _, _, _, _, _, _, _, _, _, _, _, rfl, _⟩ := h; rfl) | (obtain ⟨_, _, _, _, _, _, _, _, _, _, _, _, _, _, _, _, _, _, _, _, _, _, _, _, _, rfl, _⟩ := h; rfl)) (fun X F0 ds L q e h1 h2 h3 h4 h5 cf hr hS => by subst h1 h2 h3 h4 h5; exact b_troubles cf T hr C_looks C_sums hS)
  have C_look : Cal P w K mg base 1 "look_sign" (["a"] : List Str) (S_look_sign K) := cal_of (N := (["a"] : List Str)) (Nc := ([] : List Str)) D4 (g 4 _ rfl) ⟨rfl, rfl, rfl, by decide +kernel, rfl, by decide +kernel, by decide +kernel⟩ (by decide +kernel)
    (D4.bindsN fun _ _ _ _ _ _ us hl => match us, hl with | [_], _ => rfl) (fun ds L q e h => by first | (obtain ⟨rfl, _⟩ := h; rfl) | (obtain ⟨_, rfl, _⟩ := h; rfl) | (obtain ⟨_, _, rfl, _⟩ := h; rfl) | (obtain ⟨_, _, _, rfl, _⟩ := h; rfl) | (obtain ⟨_, _, _, _, rfl, _⟩ := h; rfl) | (obtain ⟨_, _, _, _, _, rfl, _⟩ := h; rfl) | (obtain ⟨_, _, _, _, _, _, rfl, _⟩ := h; rfl) | (obtain ⟨_, _, _, _, _, _, _, rfl, _⟩ := h; rfl) | (obtain ⟨_, _, _, _, _, _, _, _, rfl, _⟩ := h; rfl) | (obtain ⟨_, _, _, _, _, _, _, _, _, rfl, _⟩ := h; rfl) | (obtain ⟨_, _, _, _, _, _, _, _, _, _, rfl, _⟩ := h; rfl) | (obtain ⟨_, _, _, _, _, _, _, _, _, _, _, rfl, _⟩ := h; rfl) | (obtain ⟨_, _, _, _, _, _, _, _, _, _, _, _, rfl, _⟩ := h; rfl) | (obtain ⟨_, _, _, _, _, _, _, _, _, _, _, _, _, rfl, _⟩ := h; rfl) | (obtain ⟨_, _, _, _, _, _, _, _, _, _, _, _, _, _, rfl, _⟩ := h; rfl) | (obtain ⟨_, _, _, _, _, _, _, _, _, _, _, _, _, _, _, rfl, _⟩ := h; rfl) | (obtain ⟨_, _, _, _, _, _, _, _, _, _, _, _, _, _, _, _, rfl, _⟩ := h; rfl) | (obtain ⟨_, _, _, _, _, _, _, _, _, _, _, _, _, _, _, _, _, rfl, _⟩ := h; rfl) | (obtain ⟨_, _, _, _, _, _, _, _, _, _, _, _, _, _, _, _, _, _, rfl, _⟩ := h; rfl) | (obtain ⟨_, _, _, _, _, _, _, _, _, _, _, _, _, _, _, _, _, _, _, rfl, _⟩ := h; rfl) | (obtain ⟨_, _, _, _, _, _, _, _, _, _, _, _, _, _, _, _, _, _, _, _, rfl, _⟩ := h; rfl) | (obtain ⟨_, _, _, _, _, _, _, _, _, _, _, _, _, _, _, _, _, _, _, _, _, rfl, _⟩ := h; rfl) | (obtain ⟨_, _, _, _, _, _, _, _, _, _, _, _, _, _, _, _, _, _, _, _, _, _, rfl, _⟩ := h; rfl) | (obtain ⟨_, _, _, _, _, _, _, _, _, _, _, _, _, _, _, _, _, _, _, _, _, _, _, rfl, _⟩ := h; rfl) | (obtain ⟨_, _, _, _, _, _, _, _, _, _, _, _, _, _, _, _, _, _, _, _, _, _, _, _, rfl, _⟩ := h; rfl) | (obtain ⟨_, _, _, _, _, _, _, _, _, _, _, _, _, _, _, _, _, _, _, _, _, _, _, _, _, rfl, _⟩ := h; rfl)) (fun X F0 ds L q e h1 h2 h3 h4 h5 cf hr hS => by subst h1 h2 h3 h4 h5; exact b_look_sign cf T hS)
  have C_power : Cal P w K mg base 2 "power" (["a", "k"] : List Str) (S_power K) := cal_of (N := (["a", "k", "found", "square"] : List Str)) (Nc := ([] : List Str)) D5 (g 5 _ rfl) ⟨rfl, rfl, rfl, by decide +kernel, rfl, by decide +kernel, by decide +kernel⟩ (by decide +kernel)
    (D5.bindsN fun _ _ _ _ _ _ us hl => match us, hl with | [_, _], _ => rfl) (fun ds L q e h => by first | (obtain ⟨rfl, _⟩ := h; rfl) | (obtain ⟨_, rfl, _⟩ := h; rfl) | (obtain ⟨_, _, rfl, _⟩ := h; rfl) | (obtain ⟨_, _, _, rfl, _⟩ := h; rfl) | (obtain ⟨_, _, _, _, rfl, _⟩ := h; rfl) | (obtain ⟨_, _, _, _, _, rfl, _⟩ := h; rfl) | (obtain ⟨_, _, _, _, _, _, rfl, _⟩ := h; rfl) | (obtain ⟨_, _, _, _, _, _, _, rfl, _⟩ := h; rfl) | (obtain ⟨_, _, _, _, _, _, _, _, rfl, _⟩ := h; rfl) | (obtain ⟨_, _, _, _, _, _, _, _, _, rfl, _⟩ := h; rfl) | (obtain ⟨_, _, _, _, _, _, _, _, _, _, rfl, _⟩ := h; rfl) | (obtain ⟨_, _, _, _, _, _, _, _, _, _, _, rfl, _⟩ := h; rfl) | (obtain ⟨_, _, _, _, _, _, _, _, _, _, _, _, rfl, _⟩ := h; rfl) | (obtain ⟨_, _, _, _, _, _, _, _, _, _, _, _, _, rfl, _⟩ := h; rfl) | (obtain ⟨_, _, _, _, _, _, _, _, _, _, _, _, _, _, rfl, _⟩ := h; rfl) | (obtain ⟨_, _, _, _, _, _, _, _, _, _, _, _, _, _, _, rfl, _⟩ := h; rfl) | (obtain ⟨_, _, _, _, _, _, _, _, _, _, _, _, _, _, _, _, rfl, _⟩ := h; rfl) | (obtain ⟨_, _, _, _, _, _, _, _, _, _, _, _, _, _, _, _, _, rfl, _⟩ := h; rfl) | (obtain ⟨_, _, _, _, _, _, _, _, _, _, _, _, _, _, _, _, _, _, rfl, _⟩ := h; rfl) | (obtain ⟨_, _, _, _, _, _, _, _, _, _, _, _, _, _, _, _, _, _, _, rfl, _⟩ := h; rfl) | (obtain ⟨_, _, _, _, _, _, _, _, _, _, _, _, _, _, _, _, _, _, _, _, rfl, _⟩ := h; rfl) | (obtain ⟨_, _, _, _, _, _, _, _, _, _, _, _, _, _, _, _, _, _, _, _, _, rfl, _⟩ := h; rfl) | (obtain ⟨_, _, _, _, _, _, _, _, _, _, _, _, _, _, _, _, _, _, _, _, _, _, rfl, _⟩ := h; rfl) | (obtain ⟨_, _, _, _, _, _, _, _, _, _, _, _, _, _, _, _, _, _, _, _, _, _, _, rfl, _⟩ := h; rfl) | (obtain ⟨_, _, _, _, _, _, _, _, _, _, _, _, _, _, _, _, _, _, _, _, _, _, _, _, rfl, _⟩ := h; rfl) | (obtain ⟨_, _, _, _, _, _, _, _, _, _, _, _, _, _, _, _, _, _, _, _, _, _, _, _, _, rfl, _⟩ := h; rfl)) (fun X F0 ds L q e h1 h2 h3 h4 h5 cf hr hS => by subst h1 h2 h3 h4 h5; exact b_power cf T hr C_look hS)
  have C_inverse : Cal P w K mg base 3 "inverse" (["a"] : List Str) (S_inverse K) := cal_of (N := (["a"] : List Str)) (Nc := ([] : List Str)) D6 (g 6 _ rfl) ⟨rfl, rfl, rfl, by decide +kernel, rfl, by decide +kernel, by decide +kernel⟩ (by decide +kernel)
    (D6.bindsN fun _ _ _ _ _ _ us hl => match us, hl with | [_], _ => rfl) (fun ds L q e h => by first | (obtain ⟨rfl, _⟩ := h; rfl) | (obtain ⟨_, rfl, _⟩ := h; rfl) | (obtain ⟨_, _, rfl, _⟩ := h; rfl) | (obtain ⟨_, _, _, rfl, _⟩ := h; rfl) | (obtain ⟨_, _, _, _, rfl, _⟩ := h; rfl) | (obtain ⟨_, _, _, _, _, rfl, _⟩ := h; rfl) | (obtain ⟨_, _, _, _, _, _, rfl, _⟩ := h; rfl) | (obtain ⟨_, _, _, _, _, _, _, rfl, _⟩ := h; rfl) | (obtain ⟨_, _, _, _, _, _, _, _, rfl, _⟩ := h; rfl) | (obtain ⟨_, _, _, _, _, _, _, _, _, rfl, _⟩ := h; rfl) | (obtain ⟨_, _, _, _, _, _, _, _, _, _, rfl, _⟩ := h; rfl) | (obtain ⟨_, _, _, _, _, _, _, _, _, _, _, rfl, _⟩ := h; rfl) | (obtain ⟨_, _, _, _, _, _, _, _, _, _, _, _, rfl, _⟩ := h; rfl) | (obtain ⟨_, _, _, _, _, _, _, _, _, _, _, _, _, rfl, _⟩ := h; rfl) | (obtain ⟨_, _, _, _, _, _, _, _, _, _, _, _, _, _, rfl, _⟩ := h; rfl) | (obtain ⟨_, _, _, _, _, _, _, _, _, _, _, _, _, _, _, rfl, _⟩ := h; rfl) | (obtain ⟨_, _, _, _, _, _, _, _, _, _, _, _, _, _, _, _, rfl, _⟩ := h; rfl) | (obtain ⟨_, _, _, _, _, _, _, _, _, _, _, _, _, _, _, _, _, rfl, _⟩ := h; rfl) | (obtain ⟨_, _, _, _, _, _, _, _, _, _, _, _, _, _, _, _, _, _, rfl, _⟩ := h; rfl) | (obtain ⟨_, _, _, _, _, _, _, _, _, _, _, _, _, _, _, _, _, _, _, rfl, _⟩ := h; rfl) | (obtain ⟨_, _, _, _, _, _, _, _, _, _, _, _, _, _, _, _, _, _, _, _, rfl, _⟩ := h; rfl) | (obtain ⟨_, _, _, _, _, _, _, _, _, _, _, _, _, _, _, _, _, _, _, _, _, rfl, _⟩ := h; rfl) | (obtain ⟨_, _, _, _, _, _, _, _, _, _, _, _, _, _, _, _, _, _, _, _, _, _, rfl, _⟩ := h; rfl) | (obtain ⟨_, _, _, _, _, _, _, _, _, _, _, _, _, _, _, _, _, _, _, _, _, _, _, rfl, _⟩ := h; rfl) | (obtain ⟨_, _, _, _, _, _, _, _, _, _, _, _, _, _, _, _, _, _, _, _, _, _, _, _, rfl, _⟩ := h; rfl) | (obtain ⟨_, _, _, _, _, _, _, _, _, _, _, _, _, _, _, _, _, _, _, _, _, _, _, _, _, rfl, _⟩ := h; rfl)) (fun X F0 ds L q e h1 h2 h3 h4 h5 cf hr hS => by subst h1 h2 h3 h4 h5; exact b_inverse cf T hr C_look C_power hS)
  have C_place : Cal P w K mg base 1 "place_of" (["x"] : List Str) S_place_of := cal_of (N := (["x", "i"] : List Str)) (Nc := ([] : List Str)) D7 (g 7 _ rfl) ⟨rfl, rfl, rfl, by decide +kernel, rfl, by decide +kernel, by decide +kernel⟩ (by decide +kernel)
    (D7.bindsN fun _ _ _ _ _ _ us hl => match us, hl with | [_], _ => rfl) (fun ds L q e h => by first | (obtain ⟨rfl, _⟩ := h; rfl) | (obtain ⟨_, rfl, _⟩ := h; rfl) | (obtain ⟨_, _, rfl, _⟩ := h; rfl) | (obtain ⟨_, _, _, rfl, _⟩ := h; rfl) | (obtain ⟨_, _, _, _, rfl, _⟩ := h; rfl) | (obtain ⟨_, _, _, _, _, rfl, _⟩ := h; rfl) | (obtain ⟨_, _, _, _, _, _, rfl, _⟩ := h; rfl) | (obtain ⟨_, _, _, _, _, _, _, rfl, _⟩ := h; rfl) | (obtain ⟨_, _, _, _, _, _, _, _, rfl, _⟩ := h; rfl) | (obtain ⟨_, _, _, _, _, _, _, _, _, rfl, _⟩ := h; rfl) | (obtain ⟨_, _, _, _, _, _, _, _, _, _, rfl, _⟩ := h; rfl) | (obtain ⟨_, _, _, _, _, _, _, _, _, _, _, rfl, _⟩ := h; rfl) | (obtain ⟨_, _, _, _, _, _, _, _, _, _, _, _, rfl, _⟩ := h; rfl) | (obtain ⟨_, _, _, _, _, _, _, _, _, _, _, _, _, rfl, _⟩ := h; rfl) | (obtain ⟨_, _, _, _, _, _, _, _, _, _, _, _, _, _, rfl, _⟩ := h; rfl) | (obtain ⟨_, _, _, _, _, _, _, _, _, _, _, _, _, _, _, rfl, _⟩ := h; rfl) | (obtain ⟨_, _, _, _, _, _, _, _, _, _, _, _, _, _, _, _, rfl, _⟩ := h; rfl) | (obtain ⟨_, _, _, _, _, _, _, _, _, _, _, _, _, _, _, _, _, rfl, _⟩ := h; rfl) | (obtain ⟨_, _, _, _, _, _, _, _, _, _, _, _, _, _, _, _, _, _, rfl, _⟩ := h; rfl) | (obtain ⟨_, _, _, _, _, _, _, _, _, _, _, _, _, _, _, _, _, _, _, rfl, _⟩ := h; rfl) | (obtain ⟨_, _, _, _, _, _, _, _, _, _, _, _, _, _, _, _, _, _, _, _, rfl, _⟩ := h; rfl) | (obtain ⟨_, _, _, _, _, _, _, _, _, _, _, _, _, _, _, _, _, _, _, _, _, rfl, _⟩ := h; rfl) | (obtain ⟨_, _, _, _, _, _, _, _, _, _, _, _, _, _, _, _, _, _, _, _, _, _, rfl, _⟩ := h; rfl) | (obtain ⟨_, _, _, _, _, _, _, _, _, _, _, _, _, _, _, _, _, _, _, _, _, _, _, rfl, _⟩ := h; rfl) | (obtain ⟨_, _, _, _, _, _, _, _, _, _, _, _, _, _, _, _, _, _, _, _, _, _, _, _, rfl, _⟩ := h; rfl) | (obtain ⟨_, _, _, _, _, _, _, _, _, _, _, _, _, _, _, _, _, _, _, _, _, _, _, _, _, rfl, _⟩ := h; rfl)) (fun X F0 ds L q e h1 h2 h3 h4 h5 cf hr hS => by subst h1 h2 h3 h4 h5; exact b_place_of cf T hS)
  have C_one : Cal P w K mg base 4 "one_turned" (["found"] : List Str) S_one_turned := cal_of (N := (["found", "x", "j", "place"] : List Str)) (Nc := ([] : List Str)) D8 (g 8 _ rfl) ⟨rfl, rfl, rfl, by decide +kernel, rfl, by decide +kernel, by decide +kernel⟩ (by decide +kernel)
    (D8.bindsN fun _ _ _ _ _ _ us hl => match us, hl with | [_], _ => rfl) (fun ds L q e h => by first | (obtain ⟨rfl, _⟩ := h; rfl) | (obtain ⟨_, rfl, _⟩ := h; rfl) | (obtain ⟨_, _, rfl, _⟩ := h; rfl) | (obtain ⟨_, _, _, rfl, _⟩ := h; rfl) | (obtain ⟨_, _, _, _, rfl, _⟩ := h; rfl) | (obtain ⟨_, _, _, _, _, rfl, _⟩ := h; rfl) | (obtain ⟨_, _, _, _, _, _, rfl, _⟩ := h; rfl) | (obtain ⟨_, _, _, _, _, _, _, rfl, _⟩ := h; rfl) | (obtain ⟨_, _, _, _, _, _, _, _, rfl, _⟩ := h; rfl) | (obtain ⟨_, _, _, _, _, _, _, _, _, rfl, _⟩ := h; rfl) | (obtain ⟨_, _, _, _, _, _, _, _, _, _, rfl, _⟩ := h; rfl) | (obtain ⟨_, _, _, _, _, _, _, _, _, _, _, rfl, _⟩ := h; rfl) | (obtain ⟨_, _, _, _, _, _, _, _, _, _, _, _, rfl, _⟩ := h; rfl) | (obtain ⟨_, _, _, _, _, _, _, _, _, _, _, _, _, rfl, _⟩ := h; rfl) | (obtain ⟨_, _, _, _, _, _, _, _, _, _, _, _, _, _, rfl, _⟩ := h; rfl) | (obtain ⟨_, _, _, _, _, _, _, _, _, _, _, _, _, _, _, rfl, _⟩ := h; rfl) | (obtain ⟨_, _, _, _, _, _, _, _, _, _, _, _, _, _, _, _, rfl, _⟩ := h; rfl) | (obtain ⟨_, _, _, _, _, _, _, _, _, _, _, _, _, _, _, _, _, rfl, _⟩ := h; rfl) | (obtain ⟨_, _, _, _, _, _, _, _, _, _, _, _, _, _, _, _, _, _, rfl, _⟩ := h; rfl) | (obtain ⟨_, _, _, _, _, _, _, _, _, _, _, _, _, _, _, _, _, _, _, rfl, _⟩ := h; rfl) | (obtain ⟨_, _, _, _, _, _, _, _, _, _, _, _, _, _, _, _, _, _, _, _, rfl, _⟩ := h; rfl) | (obtain ⟨_, _, _, _, _, _, _, _, _, _, _, _, _, _, _, _, _, _, _, _, _, rfl, _⟩ := h; rfl) | (obtain ⟨_, _, _, _, _, _, _, _, _, _, _, _, _, _, _, _, _, _, _, _, _, _, rfl, _⟩ := h; rfl) | (obtain ⟨_, _, _, _, _, _, _, _, _, _, _, _, _, _, _, _, _, _, _, _, _, _, _, rfl, _⟩ := h; rfl) | (obtain ⟨_, _, _, _, _, _, _, _, _, _, _, _, _, _, _, _, _, _, _, _, _, _, _, _, rfl, _⟩ := h; rfl) | (obtain ⟨_, _, _, _, _, _, _, _, _, _, _, _, _, _, _, _, _, _, _, _, _, _, _, _, _, rfl, _⟩ := h; rfl)) (fun X F0 ds L q e h1 h2 h3 h4 h5 cf hr hS => by subst h1 h2 h3 h4 h5; exact b_one_turned cf T hr C_inverse C_place hS)
  have C_goes : Cal P w K mg base 1 "goes_on" (["found", "s", "p"] : List Str) S_goes_on := cal_of (N := (["found", "s", "p", "j"] : List Str)) (Nc := ([] : List Str)) D9 (g 9 _ rfl) ⟨rfl, rfl, rfl, by decide +kernel, rfl, by decide +kernel, by decide +kernel⟩ (by decide +kernel)
    (D9.bindsN fun _ _ _ _ _ _ us hl => match us, hl with | [_, _, _], _ => rfl) (fun ds L q e h => by first | (obtain ⟨rfl, _⟩ := h; rfl) | (obtain ⟨_, rfl, _⟩ := h; rfl) | (obtain ⟨_, _, rfl, _⟩ := h; rfl) | (obtain ⟨_, _, _, rfl, _⟩ := h; rfl) | (obtain ⟨_, _, _, _, rfl, _⟩ := h; rfl) | (obtain ⟨_, _, _, _, _, rfl, _⟩ := h; rfl) | (obtain ⟨_, _, _, _, _, _, rfl, _⟩ := h; rfl) | (obtain ⟨_, _, _, _, _, _, _, rfl, _⟩ := h; rfl) | (obtain ⟨_, _, _, _, _, _, _, _, rfl, _⟩ := h; rfl) | (obtain ⟨_, _, _, _, _, _, _, _, _, rfl, _⟩ := h; rfl) | (obtain ⟨_, _, _, _, _, _, _, _, _, _, rfl, _⟩ := h; rfl) | (obtain ⟨_, _, _, _, _, _, _, _, _, _, _, rfl, _⟩ := h; rfl) | (obtain ⟨_, _, _, _, _, _, _, _, _, _, _, _, rfl, _⟩ := h; rfl) | (obtain ⟨_, _, _, _, _, _, _, _, _, _, _, _, _, rfl, _⟩ := h; rfl) | (obtain ⟨_, _, _, _, _, _, _, _, _, _, _, _, _, _, rfl, _⟩ := h; rfl) | (obtain ⟨_, _, _, _, _, _, _, _, _, _, _, _, _, _, _, rfl, _⟩ := h; rfl) | (obtain ⟨_, _, _, _, _, _, _, _, _, _, _, _, _, _, _, _, rfl, _⟩ := h; rfl) | (obtain ⟨_, _, _, _, _, _, _, _, _, _, _, _, _, _, _, _, _, rfl, _⟩ := h; rfl) | (obtain ⟨_, _, _, _, _, _, _, _, _, _, _, _, _, _, _, _, _, _, rfl, _⟩ := h; rfl) | (obtain ⟨_, _, _, _, _, _, _, _, _, _, _, _, _, _, _, _, _, _, _, rfl, _⟩ := h; rfl) | (obtain ⟨_, _, _, _, _, _, _, _, _, _, _, _, _, _, _, _, _, _, _, _, rfl, _⟩ := h; rfl) | (obtain ⟨_, _, _, _, _, _, _, _, _, _, _, _, _, _, _, _, _, _, _, _, _, rfl, _⟩ := h; rfl) | (obtain ⟨_, _, _, _, _, _, _, _, _, _, _, _, _, _, _, _, _, _, _, _, _, _, rfl, _⟩ := h; rfl) | (obtain ⟨_, _, _, _, _, _, _, _, _, _, _, _, _, _, _, _, _, _, _, _, _, _, _, rfl, _⟩ := h; rfl) | (obtain ⟨_, _, _, _, _, _, _, _, _, _, _, _, _, _, _, _, _, _, _, _, _, _, _, _, rfl, _⟩ := h; rfl) | (obtain ⟨_, _, _, _, _, _, _, _, _, _, _, _, _, _, _, _, _, _, _, _, _, _, _, _, _, rfl, _⟩ := h; rfl)) (fun X F0 ds L q e h1 h2 h3 h4 h5 cf hr hS => by subst h1 h2 h3 h4 h5; exact b_goes_on cf T hS)
  have C_two : Cal P w K mg base 4 "two_turned" (["found"] : List Str) S_two_turned := cal_of (N := (["found", "below", "over", "s", "p", "places", "one", "two", "first", "second"] : List Str)) (Nc := (["i"] : List Str)) D10 (g 10 _ rfl) ⟨rfl, rfl, rfl, by decide +kernel, rfl, by decide +kernel, by decide +kernel⟩ (by decide +kernel)
    (D10.bindsN fun _ _ _ _ _ _ us hl => match us, hl with | [_], _ => rfl) (fun ds L q e h => by first | (obtain ⟨rfl, _⟩ := h; rfl) | (obtain ⟨_, rfl, _⟩ := h; rfl) | (obtain ⟨_, _, rfl, _⟩ := h; rfl) | (obtain ⟨_, _, _, rfl, _⟩ := h; rfl) | (obtain ⟨_, _, _, _, rfl, _⟩ := h; rfl) | (obtain ⟨_, _, _, _, _, rfl, _⟩ := h; rfl) | (obtain ⟨_, _, _, _, _, _, rfl, _⟩ := h; rfl) | (obtain ⟨_, _, _, _, _, _, _, rfl, _⟩ := h; rfl) | (obtain ⟨_, _, _, _, _, _, _, _, rfl, _⟩ := h; rfl) | (obtain ⟨_, _, _, _, _, _, _, _, _, rfl, _⟩ := h; rfl) | (obtain ⟨_, _, _, _, _, _, _, _, _, _, rfl, _⟩ := h; rfl) | (obtain ⟨_, _, _, _, _, _, _, _, _, _, _, rfl, _⟩ := h; rfl) | (obtain ⟨_, _, _, _, _, _, _, _, _, _, _, _, rfl, _⟩ := h; rfl) | (obtain ⟨_, _, _, _, _, _, _, _, _, _, _, _, _, rfl, _⟩ := h; rfl) | (obtain ⟨_, _, _, _, _, _, _, _, _, _, _, _, _, _, rfl, _⟩ := h; rfl) | (obtain ⟨_, _, _, _, _, _, _, _, _, _, _, _, _, _, _, rfl, _⟩ := h; rfl) | (obtain ⟨_, _, _, _, _, _, _, _, _, _, _, _, _, _, _, _, rfl, _⟩ := h; rfl) | (obtain ⟨_, _, _, _, _, _, _, _, _, _, _, _, _, _, _, _, _, rfl, _⟩ := h; rfl) | (obtain ⟨_, _, _, _, _, _, _, _, _, _, _, _, _, _, _, _, _, _, rfl, _⟩ := h; rfl) | (obtain ⟨_, _, _, _, _, _, _, _, _, _, _, _, _, _, _, _, _, _, _, rfl, _⟩ := h; rfl) | (obtain ⟨_, _, _, _, _, _, _, _, _, _, _, _, _, _, _, _, _, _, _, _, rfl, _⟩ := h; rfl) | (obtain ⟨_, _, _, _, _, _, _, _, _, _, _, _, _, _, _, _, _, _, _, _, _, rfl, _⟩ := h; rfl) | (obtain ⟨_, _, _, _, _, _, _, _, _, _, _, _, _, _, _, _, _, _, _, _, _, _, rfl, _⟩ := h; rfl) | (obtain ⟨_, _, _, _, _, _, _, _, _, _, _, _, _, _, _, _, _, _, _, _, _, _, _, rfl, _⟩ := h; rfl) | (obtain ⟨_, _, _, _, _, _, _, _, _, _, _, _, _, _, _, _, _, _, _, _, _, _, _, _, rfl, _⟩ := h; rfl) | (obtain ⟨_, _, _, _, _, _, _, _, _, _, _, _, _, _, _, _, _, _, _, _, _, _, _, _, _, rfl, _⟩ := h; rfl)) (fun X F0 ds L q e h1 h2 h3 h4 h5 cf hr hS => by subst h1 h2 h3 h4 h5; exact b_two_turned cf T hr C_inverse C_goes hS)
  have C_mended : Cal P w K mg base 5 "mended" (["cell"] : List Str) (S_mended K) := cal_of (N := (["cell", "found", "turns", "made", "place", "add"] : List Str)) (Nc := ([] : List Str)) D11 (g 11 _ rfl) ⟨rfl, rfl, rfl, by decide +kernel, rfl, by decide +kernel, by decide +kernel⟩ (by decide +kernel)
    (D11.bindsN fun _ _ _ _ _ _ us hl => match us, hl with | [_], _ => rfl) (fun ds L q e h => by first | (obtain ⟨rfl, _⟩ := h; rfl) | (obtain ⟨_, rfl, _⟩ := h; rfl) | (obtain ⟨_, _, rfl, _⟩ := h; rfl) | (obtain ⟨_, _, _, rfl, _⟩ := h; rfl) | (obtain ⟨_, _, _, _, rfl, _⟩ := h; rfl) | (obtain ⟨_, _, _, _, _, rfl, _⟩ := h; rfl) | (obtain ⟨_, _, _, _, _, _, rfl, _⟩ := h; rfl) | (obtain ⟨_, _, _, _, _, _, _, rfl, _⟩ := h; rfl) | (obtain ⟨_, _, _, _, _, _, _, _, rfl, _⟩ := h; rfl) | (obtain ⟨_, _, _, _, _, _, _, _, _, rfl, _⟩ := h; rfl) | (obtain ⟨_, _, _, _, _, _, _, _, _, _, rfl, _⟩ := h; rfl) | (obtain ⟨_, _, _, _, _, _, _, _, _, _, _, rfl, _⟩ := h; rfl) | (obtain ⟨_, _, _, _, _, _, _, _, _, _, _, _, rfl, _⟩ := h; rfl) | (obtain ⟨_, _, _, _, _, _, _, _, _, _, _, _, _, rfl, _⟩ := h; rfl) | (obtain ⟨_, _, _, _, _, _, _, _, _, _, _, _, _, _, rfl, _⟩ := h; rfl) | (obtain ⟨_, _, _, _, _, _, _, _, _, _, _, _, _, _, _, rfl, _⟩ := h; rfl) | (obtain ⟨_, _, _, _, _, _, _, _, _, _, _, _, _, _, _, _, rfl, _⟩ := h; rfl) | (obtain ⟨_, _, _, _, _, _, _, _, _, _, _, _, _, _, _, _, _, rfl, _⟩ := h; rfl) | (obtain ⟨_, _, _, _, _, _, _, _, _, _, _, _, _, _, _, _, _, _, rfl, _⟩ := h; rfl) | (obtain ⟨_, _, _, _, _, _, _, _, _, _, _, _, _, _, _, _, _, _, _, rfl, _⟩ := h; rfl) | (obtain ⟨_, _, _, _, _, _, _, _, _, _, _, _, _, _, _, _, _, _, _, _, rfl, _⟩ := h; rfl) | (obtain ⟨_, _, _, _, _, _, _, _, _, _, _, _, _, _, _, _, _, _, _, _, _, rfl, _⟩ := h; rfl) | (obtain ⟨_, _, _, _, _, _, _, _, _, _, _, _, _, _, _, _, _, _, _, _, _, _, rfl, _⟩ := h; rfl) | (obtain ⟨_, _, _, _, _, _, _, _, _, _, _, _, _, _, _, _, _, _, _, _, _, _, _, rfl, _⟩ := h; rfl) | (obtain ⟨_, _, _, _, _, _, _, _, _, _, _, _, _, _, _, _, _, _, _, _, _, _, _, _, rfl, _⟩ := h; rfl) | (obtain ⟨_, _, _, _, _, _, _, _, _, _, _, _, _, _, _, _, _, _, _, _, _, _, _, _, _, rfl, _⟩ := h; rfl)) (fun X F0 ds L q e h1 h2 h3 h4 h5 cf hr hS => by subst h1 h2 h3 h4 h5; exact b_mended cf T hr C_troubles C_one C_two hS)
  have C_late : Cal P w K mg base 1 "look_late" (["late"] : List Str) (S_look_late K) := cal_of (N := (["late"] : List Str)) (Nc := ([] : List Str)) D12 (g 12 _ rfl) ⟨rfl, rfl, rfl, by decide +kernel, rfl, by decide +kernel, by decide +kernel⟩ (by decide +kernel)
    (D12.bindsN fun _ _ _ _ _ _ us hl => match us, hl with | [_], _ => rfl) (fun ds L q e h => by first | (obtain ⟨rfl, _⟩ := h; rfl) | (obtain ⟨_, rfl, _⟩ := h; rfl) | (obtain ⟨_, _, rfl, _⟩ := h; rfl) | (obtain ⟨_, _, _, rfl, _⟩ := h; rfl) | (obtain ⟨_, _, _, _, rfl, _⟩ := h; rfl) | (obtain ⟨_, _, _, _, _, rfl, _⟩ := h; rfl) | (obtain ⟨_, _, _, _, _, _, rfl, _⟩ := h; rfl) | (obtain ⟨_, _, _, _, _, _, _, rfl, _⟩ := h; rfl) | (obtain ⟨_, _, _, _, _, _, _, _, rfl, _⟩ := h; rfl) | (obtain ⟨_, _, _, _, _, _, _, _, _, rfl, _⟩ := h; rfl) | (obtain ⟨_, _, _, _, _, _, _, _, _, _, rfl, _⟩ := h; rfl) | (obtain ⟨_, _, _, _, _, _, _, _, _, _, _, rfl, _⟩ := h; rfl) | (obtain ⟨_, _, _, _, _, _, _, _, _, _, _, _, rfl, _⟩ := h; rfl) | (obtain ⟨_, _, _, _, _, _, _, _, _, _, _, _, _, rfl, _⟩ := h; rfl) | (obtain ⟨_, _, _, _, _, _, _, _, _, _, _, _, _, _, rfl, _⟩ := h; rfl) | (obtain ⟨_, _, _, _, _, _, _, _, _, _, _, _, _, _, _, rfl, _⟩ := h; rfl) | (obtain ⟨_, _, _, _, _, _, _, _, _, _, _, _, _, _, _, _, rfl, _⟩ := h; rfl) | (obtain ⟨_, _, _, _, _, _, _, _, _, _, _, _, _, _, _, _, _, rfl, _⟩ := h; rfl) | (obtain ⟨_, _, _, _, _, _, _, _, _, _, _, _, _, _, _, _, _, _, rfl, _⟩ := h; rfl) | (obtain ⟨_, _, _, _, _, _, _, _, _, _, _, _, _, _, _, _, _, _, _, rfl, _⟩ := h; rfl) | (obtain ⟨_, _, _, _, _, _, _, _, _, _, _, _, _, _, _, _, _, _, _, _, rfl, _⟩ := h; rfl) | (obtain ⟨_, _, _, _, _, _, _, _, _, _, _, _, _, _, _, _, _, _, _, _, _, rfl, _⟩ := h; rfl) | (obtain ⟨_, _, _, _, _, _, _, _, _, _, _, _, _, _, _, _, _, _, _, _, _, _, rfl, _⟩ := h; rfl) | (obtain ⟨_, _, _, _, _, _, _, _, _, _, _, _, _, _, _, _, _, _, _, _, _, _, _, rfl, _⟩ := h; rfl) | (obtain ⟨_, _, _, _, _, _, _, _, _, _, _, _, _, _, _, _, _, _, _, _, _, _, _, _, rfl, _⟩ := h; rfl) | (obtain ⟨_, _, _, _, _, _, _, _, _, _, _, _, _, _, _, _, _, _, _, _, _, _, _, _, _, rfl, _⟩ := h; rfl)) (fun X F0 ds L q e h1 h2 h3 h4 h5 cf hr hS => by subst h1 h2 h3 h4 h5; exact b_look_late cf T hS)
  have C_measure : Cal P w K mg base 2 "look_measure" (["measure"] : List Str) (S_look_measure K) := cal_of (N := (["measure", "late", "lost"] : List Str)) (Nc := ([] : List Str)) D13 (g 13 _ rfl) ⟨rfl, rfl, rfl, by decide +kernel, rfl, by decide +kernel, by decide +kernel⟩ (by decide +kernel)
    (D13.bindsN fun _ _ _ _ _ _ us hl => match us, hl with | [_], _ => rfl) (fun ds L q e h => by first | (obtain ⟨rfl, _⟩ := h; rfl) | (obtain ⟨_, rfl, _⟩ := h; rfl) | (obtain ⟨_, _, rfl, _⟩ := h; rfl) | (obtain ⟨_, _, _, rfl, _⟩ := h; rfl) | (obtain ⟨_, _, _, _, rfl, _⟩ := h; rfl) | (obtain ⟨_, _, _, _, _, rfl, _⟩ := h; rfl) | (obtain ⟨_, _, _, _, _, _, rfl, _⟩ := h; rfl) | (obtain ⟨_, _, _, _, _, _, _, rfl, _⟩ := h; rfl) | (obtain ⟨_, _, _, _, _, _, _, _, rfl, _⟩ := h; rfl) | (obtain ⟨_, _, _, _, _, _, _, _, _, rfl, _⟩ := h; rfl) | (obtain ⟨_, _, _, _, _, _, _, _, _, _, rfl, _⟩ := h; rfl) | (obtain ⟨_, _, _, _, _, _, _, _, _, _, _, rfl, _⟩ := h; rfl) | (obtain ⟨_, _, _, _, _, _, _, _, _, _, _, _, rfl, _⟩ := h; rfl) | (obtain ⟨_, _, _, _, _, _, _, _, _, _, _, _, _, rfl, _⟩ := h; rfl) | (obtain ⟨_, _, _, _, _, _, _, _, _, _, _, _, _, _, rfl, _⟩ := h; rfl) | (obtain ⟨_, _, _, _, _, _, _, _, _, _, _, _, _, _, _, rfl, _⟩ := h; rfl) | (obtain ⟨_, _, _, _, _, _, _, _, _, _, _, _, _, _, _, _, rfl, _⟩ := h; rfl) | (obtain ⟨_, _, _, _, _, _, _, _, _, _, _, _, _, _, _, _, _, rfl, _⟩ := h; rfl) | (obtain ⟨_, _, _, _, _, _, _, _, _, _, _, _, _, _, _, _, _, _, rfl, _⟩ := h; rfl) | (obtain ⟨_, _, _, _, _, _, _, _, _, _, _, _, _, _, _, _, _, _, _, rfl, _⟩ := h; rfl) | (obtain ⟨_, _, _, _, _, _, _, _, _, _, _, _, _, _, _, _, _, _, _, _, rfl, _⟩ := h; rfl) | (obtain ⟨_, _, _, _, _, _, _, _, _, _, _, _, _, _, _, _, _, _, _, _, _, rfl, _⟩ := h; rfl) | (obtain ⟨_, _, _, _, _, _, _, _, _, _, _, _, _, _, _, _, _, _, _, _, _, _, rfl, _⟩ := h; rfl) | (obtain ⟨_, _, _, _, _, _, _, _, _, _, _, _, _, _, _, _, _, _, _, _, _, _, _, rfl, _⟩ := h; rfl) | (obtain ⟨_, _, _, _, _, _, _, _, _, _, _, _, _, _, _, _, _, _, _, _, _, _, _, _, rfl, _⟩ := h; rfl) | (obtain ⟨_, _, _, _, _, _, _, _, _, _, _, _, _, _, _, _, _, _, _, _, _, _, _, _, _, rfl, _⟩ := h; rfl)) (fun X F0 ds L q e h1 h2 h3 h4 h5 cf hr hS => by subst h1 h2 h3 h4 h5; exact b_look_measure cf T hr C_late hS)
  have C_quiet : Cal P w K mg base 3 "quiet_of" (["measure"] : List Str) (S_quiet_of K) := cal_of (N := (["measure"] : List Str)) (Nc := ([] : List Str)) D14 (g 14 _ rfl) ⟨rfl, rfl, rfl, by decide +kernel, rfl, by decide +kernel, by decide +kernel⟩ (by decide +kernel)
    (D14.bindsN fun _ _ _ _ _ _ us hl => match us, hl with | [_], _ => rfl) (fun ds L q e h => by first | (obtain ⟨rfl, _⟩ := h; rfl) | (obtain ⟨_, rfl, _⟩ := h; rfl) | (obtain ⟨_, _, rfl, _⟩ := h; rfl) | (obtain ⟨_, _, _, rfl, _⟩ := h; rfl) | (obtain ⟨_, _, _, _, rfl, _⟩ := h; rfl) | (obtain ⟨_, _, _, _, _, rfl, _⟩ := h; rfl) | (obtain ⟨_, _, _, _, _, _, rfl, _⟩ := h; rfl) | (obtain ⟨_, _, _, _, _, _, _, rfl, _⟩ := h; rfl) | (obtain ⟨_, _, _, _, _, _, _, _, rfl, _⟩ := h; rfl) | (obtain ⟨_, _, _, _, _, _, _, _, _, rfl, _⟩ := h; rfl) | (obtain ⟨_, _, _, _, _, _, _, _, _, _, rfl, _⟩ := h; rfl) | (obtain ⟨_, _, _, _, _, _, _, _, _, _, _, rfl, _⟩ := h; rfl) | (obtain ⟨_, _, _, _, _, _, _, _, _, _, _, _, rfl, _⟩ := h; rfl) | (obtain ⟨_, _, _, _, _, _, _, _, _, _, _, _, _, rfl, _⟩ := h; rfl) | (obtain ⟨_, _, _, _, _, _, _, _, _, _, _, _, _, _, rfl, _⟩ := h; rfl) | (obtain ⟨_, _, _, _, _, _, _, _, _, _, _, _, _, _, _, rfl, _⟩ := h; rfl) | (obtain ⟨_, _, _, _, _, _, _, _, _, _, _, _, _, _, _, _, rfl, _⟩ := h; rfl) | (obtain ⟨_, _, _, _, _, _, _, _, _, _, _, _, _, _, _, _, _, rfl, _⟩ := h; rfl) | (obtain ⟨_, _, _, _, _, _, _, _, _, _, _, _, _, _, _, _, _, _, rfl, _⟩ := h; rfl) | (obtain ⟨_, _, _, _, _, _, _, _, _, _, _, _, _, _, _, _, _, _, _, rfl, _⟩ := h; rfl) | (obtain ⟨_, _, _, _, _, _, _, _, _, _, _, _, _, _, _, _, _, _, _, _, rfl, _⟩ := h; rfl) | (obtain ⟨_, _, _, _, _, _, _, _, _, _, _, _, _, _, _, _, _, _, _, _, _, rfl, _⟩ := h; rfl) | (obtain ⟨_, _, _, _, _, _, _, _, _, _, _, _, _, _, _, _, _, _, _, _, _, _, rfl, _⟩ := h; rfl) | (obtain ⟨_, _, _, _, _, _, _, _, _, _, _, _, _, _, _, _, _, _, _, _, _, _, _, rfl, _⟩ := h; rfl) | (obtain ⟨_, _, _, _, _, _, _, _, _, _, _, _, _, _, _, _, _, _, _, _, _, _, _, _, rfl, _⟩ := h; rfl) | (obtain ⟨_, _, _, _, _, _, _, _, _, _, _, _, _, _, _, _, _, _, _, _, _, _, _, _, _, rfl, _⟩ := h; rfl)) (fun X F0 ds L q e h1 h2 h3 h4 h5 cf hr hS => by subst h1 h2 h3 h4 h5; exact b_quiet_of cf T hr C_measure hS)
  have C_nsigns : Cal P w K mg base 1 "number_signs" (["number", "many"] : List Str) (S_number_signs K) := cal_of (N := (["number", "many", "signs", "rest", "k"] : List Str)) (Nc := ([] : List Str)) D15 (g 15 _ rfl) ⟨rfl, rfl, rfl, by decide +kernel, rfl, by decide +kernel, by decide +kernel⟩ (by decide +kernel)
    (D15.bindsN fun _ _ _ _ _ _ us hl => match us, hl with | [_, _], _ => rfl) (fun ds L q e h => by first | (obtain ⟨rfl, _⟩ := h; rfl) | (obtain ⟨_, rfl, _⟩ := h; rfl) | (obtain ⟨_, _, rfl, _⟩ := h; rfl) | (obtain ⟨_, _, _, rfl, _⟩ := h; rfl) | (obtain ⟨_, _, _, _, rfl, _⟩ := h; rfl) | (obtain ⟨_, _, _, _, _, rfl, _⟩ := h; rfl) | (obtain ⟨_, _, _, _, _, _, rfl, _⟩ := h; rfl) | (obtain ⟨_, _, _, _, _, _, _, rfl, _⟩ := h; rfl) | (obtain ⟨_, _, _, _, _, _, _, _, rfl, _⟩ := h; rfl) | (obtain ⟨_, _, _, _, _, _, _, _, _, rfl, _⟩ := h; rfl) | (obtain ⟨_, _, _, _, _, _, _, _, _, _, rfl, _⟩ := h; rfl) | (obtain ⟨_, _, _, _, _, _, _, _, _, _, _, rfl, _⟩ := h; rfl) | (obtain ⟨_, _, _, _, _, _, _, _, _, _, _, _, rfl, _⟩ := h; rfl) | (obtain ⟨_, _, _, _, _, _, _, _, _, _, _, _, _, rfl, _⟩ := h; rfl) | (obtain ⟨_, _, _, _, _, _, _, _, _, _, _, _, _, _, rfl, _⟩ := h; rfl) | (obtain ⟨_, _, _, _, _, _, _, _, _, _, _, _, _, _, _, rfl, _⟩ := h; rfl) | (obtain ⟨_, _, _, _, _, _, _, _, _, _, _, _, _, _, _, _, rfl, _⟩ := h; rfl) | (obtain ⟨_, _, _, _, _, _, _, _, _, _, _, _, _, _, _, _, _, rfl, _⟩ := h; rfl) | (obtain ⟨_, _, _, _, _, _, _, _, _, _, _, _, _, _, _, _, _, _, rfl, _⟩ := h; rfl) | (obtain ⟨_, _, _, _, _, _, _, _, _, _, _, _, _, _, _, _, _, _, _, rfl, _⟩ := h; rfl) | (obtain ⟨_, _, _, _, _, _, _, _, _, _, _, _, _, _, _, _, _, _, _, _, rfl, _⟩ := h; rfl) | (obtain ⟨_, _, _, _, _, _, _, _, _, _, _, _, _, _, _, _, _, _, _, _, _, rfl, _⟩ := h; rfl) | (obtain ⟨_, _, _, _, _, _, _, _, _, _, _, _, _, _, _, _, _, _, _, _, _, _, rfl, _⟩ := h; rfl) | (obtain ⟨_, _, _, _, _, _, _, _, _, _, _, _, _, _, _, _, _, _, _, _, _, _, _, rfl, _⟩ := h; rfl) | (obtain ⟨_, _, _, _, _, _, _, _, _, _, _, _, _, _, _, _, _, _, _, _, _, _, _, _, rfl, _⟩ := h; rfl) | (obtain ⟨_, _, _, _, _, _, _, _, _, _, _, _, _, _, _, _, _, _, _, _, _, _, _, _, _, rfl, _⟩ := h; rfl)) (fun X F0 ds L q e h1 h2 h3 h4 h5 cf hr hS => by subst h1 h2 h3 h4 h5; exact b_number_signs cf T hS)
  have C_signsn : Cal P w K mg base 2 "signs_number" (["signs"] : List Str) (S_signs_number K) := cal_of (N := (["signs", "number", "sign"] : List Str)) (Nc := ([] : List Str)) D16 (g 16 _ rfl) ⟨rfl, rfl, rfl, by decide +kernel, rfl, by decide +kernel, by decide +kernel⟩ (by decide +kernel)
    (D16.bindsN fun _ _ _ _ _ _ us hl => match us, hl with | [_], _ => rfl) (fun ds L q e h => by first | (obtain ⟨rfl, _⟩ := h; rfl) | (obtain ⟨_, rfl, _⟩ := h; rfl) | (obtain ⟨_, _, rfl, _⟩ := h; rfl) | (obtain ⟨_, _, _, rfl, _⟩ := h; rfl) | (obtain ⟨_, _, _, _, rfl, _⟩ := h; rfl) | (obtain ⟨_, _, _, _, _, rfl, _⟩ := h; rfl) | (obtain ⟨_, _, _, _, _, _, rfl, _⟩ := h; rfl) | (obtain ⟨_, _, _, _, _, _, _, rfl, _⟩ := h; rfl) | (obtain ⟨_, _, _, _, _, _, _, _, rfl, _⟩ := h; rfl) | (obtain ⟨_, _, _, _, _, _, _, _, _, rfl, _⟩ := h; rfl) | (obtain ⟨_, _, _, _, _, _, _, _, _, _, rfl, _⟩ := h; rfl) | (obtain ⟨_, _, _, _, _, _, _, _, _, _, _, rfl, _⟩ := h; rfl) | (obtain ⟨_, _, _, _, _, _, _, _, _, _, _, _, rfl, _⟩ := h; rfl) | (obtain ⟨_, _, _, _, _, _, _, _, _, _, _, _, _, rfl, _⟩ := h; rfl) | (obtain ⟨_, _, _, _, _, _, _, _, _, _, _, _, _, _, rfl, _⟩ := h; rfl) | (obtain ⟨_, _, _, _, _, _, _, _, _, _, _, _, _, _, _, rfl, _⟩ := h; rfl) | (obtain ⟨_, _, _, _, _, _, _, _, _, _, _, _, _, _, _, _, rfl, _⟩ := h; rfl) | (obtain ⟨_, _, _, _, _, _, _, _, _, _, _, _, _, _, _, _, _, rfl, _⟩ := h; rfl) | (obtain ⟨_, _, _, _, _, _, _, _, _, _, _, _, _, _, _, _, _, _, rfl, _⟩ := h; rfl) | (obtain ⟨_, _, _, _, _, _, _, _, _, _, _, _, _, _, _, _, _, _, _, rfl, _⟩ := h; rfl) | (obtain ⟨_, _, _, _, _, _, _, _, _, _, _, _, _, _, _, _, _, _, _, _, rfl, _⟩ := h; rfl) | (obtain ⟨_, _, _, _, _, _, _, _, _, _, _, _, _, _, _, _, _, _, _, _, _, rfl, _⟩ := h; rfl) | (obtain ⟨_, _, _, _, _, _, _, _, _, _, _, _, _, _, _, _, _, _, _, _, _, _, rfl, _⟩ := h; rfl) | (obtain ⟨_, _, _, _, _, _, _, _, _, _, _, _, _, _, _, _, _, _, _, _, _, _, _, rfl, _⟩ := h; rfl) | (obtain ⟨_, _, _, _, _, _, _, _, _, _, _, _, _, _, _, _, _, _, _, _, _, _, _, _, rfl, _⟩ := h; rfl) | (obtain ⟨_, _, _, _, _, _, _, _, _, _, _, _, _, _, _, _, _, _, _, _, _, _, _, _, _, rfl, _⟩ := h; rfl)) (fun X F0 ds L q e h1 h2 h3 h4 h5 cf hr hS => by subst h1 h2 h3 h4 h5; exact b_signs_number cf T hr C_look hS)
  have C_end_up : Met P w K mg base 1 (He.ga K "LinkEnd") "end_up" (["self"] : List Str) (S_end_up K) := met_of (N := (["self"] : List Str)) (Nc := ([] : List Str)) D17 T.cl_LinkEnd T.me_LinkEnd_end_up ⟨rfl, rfl, rfl, by decide +kernel, rfl, by decide +kernel, by decide +kernel⟩ (by decide +kernel)
    (D17.bindsN fun _ _ _ _ _ _ us hl => match us, hl with | [_], _ => rfl) (fun ds L q e h => by first | (obtain ⟨rfl, _⟩ := h; rfl) | (obtain ⟨_, rfl, _⟩ := h; rfl) | (obtain ⟨_, _, rfl, _⟩ := h; rfl) | (obtain ⟨_, _, _, rfl, _⟩ := h; rfl) | (obtain ⟨_, _, _, _, rfl, _⟩ := h; rfl) | (obtain ⟨_, _, _, _, _, rfl, _⟩ := h; rfl) | (obtain ⟨_, _, _, _, _, _, rfl, _⟩ := h; rfl) | (obtain ⟨_, _, _, _, _, _, _, rfl, _⟩ := h; rfl) | (obtain ⟨_, _, _, _, _, _, _, _, rfl, _⟩ := h; rfl) | (obtain ⟨_, _, _, _, _, _, _, _, _, rfl, _⟩ := h; rfl) | (obtain ⟨_, _, _, _, _, _, _, _, _, _, rfl, _⟩ := h; rfl) | (obtain ⟨_, _, _, _, _, _, _, _, _, _, _, rfl, _⟩ := h; rfl) | (obtain ⟨_, _, _, _, _, _, _, _, _, _, _, _, rfl, _⟩ := h; rfl) | (obtain ⟨_, _, _, _, _, _, _, _, _, _, _, _, _, rfl, _⟩ := h; rfl) | (obtain ⟨_, _, _, _, _, _, _, _, _, _, _, _, _, _, rfl, _⟩ := h; rfl) | (obtain ⟨_, _, _, _, _, _, _, _, _, _, _, _, _, _, _, rfl, _⟩ := h; rfl) | (obtain ⟨_, _, _, _, _, _, _, _, _, _, _, _, _, _, _, _, rfl, _⟩ := h; rfl) | (obtain ⟨_, _, _, _, _, _, _, _, _, _, _, _, _, _, _, _, _, rfl, _⟩ := h; rfl) | (obtain ⟨_, _, _, _, _, _, _, _, _, _, _, _, _, _, _, _, _, _, rfl, _⟩ := h; rfl) | (obtain ⟨_, _, _, _, _, _, _, _, _, _, _, _, _, _, _, _, _, _, _, rfl, _⟩ := h; rfl) | (obtain ⟨_, _, _, _, _, _, _, _, _, _, _, _, _, _, _, _, _, _, _, _, rfl, _⟩ := h; rfl) | (obtain ⟨_, _, _, _, _, _, _, _, _, _, _, _, _, _, _, _, _, _, _, _, _, rfl, _⟩ := h; rfl) | (obtain ⟨_, _, _, _, _, _, _, _, _, _, _, _, _, _, _, _, _, _, _, _, _, _, rfl, _⟩ := h; rfl) | (obtain ⟨_, _, _, _, _, _, _, _, _, _, _, _, _, _, _, _, _, _, _, _, _, _, _, rfl, _⟩ := h; rfl) | (obtain ⟨_, _, _, _, _, _, _, _, _, _, _, _, _, _, _, _, _, _, _, _, _, _, _, _, rfl, _⟩ := h; rfl) | (obtain ⟨_, _, _, _, _, _, _, _, _, _, _, _, _, _, _, _, _, _, _, _, _, _, _, _, _, rfl, _⟩ := h; rfl)) (fun X F0 ds L q e h1 h2 h3 h4 h5 cf hr hS => by subst h1 h2 h3 h4 h5; exact b_end_up cf T hS)
  have C_begin_up : Met P w K mg base 1 (He.ga K "LinkEnd") "begin_up" (["self"] : List Str) (S_begin_up K) := met_of (N := (["self"] : List Str)) (Nc := ([] : List Str)) D18 T.cl_LinkEnd T.me_LinkEnd_begin_up ⟨rfl, rfl, rfl, by decide +kernel, rfl, by decide +kernel, by decide +kernel⟩ (by decide +kernel)
    (D18.bindsN fun _ _ _ _ _ _ us hl => match us, hl with | [_], _ => rfl) (fun ds L q e h => by first | (obtain ⟨rfl, _⟩ := h; rfl) | (obtain ⟨_, rfl, _⟩ := h; rfl) | (obtain ⟨_, _, rfl, _⟩ := h; rfl) | (obtain ⟨_, _, _, rfl, _⟩ := h; rfl) | (obtain ⟨_, _, _, _, rfl, _⟩ := h; rfl) | (obtain ⟨_, _, _, _, _, rfl, _⟩ := h; rfl) | (obtain ⟨_, _, _, _, _, _, rfl, _⟩ := h; rfl) | (obtain ⟨_, _, _, _, _, _, _, rfl, _⟩ := h; rfl) | (obtain ⟨_, _, _, _, _, _, _, _, rfl, _⟩ := h; rfl) | (obtain ⟨_, _, _, _, _, _, _, _, _, rfl, _⟩ := h; rfl) | (obtain ⟨_, _, _, _, _, _, _, _, _, _, rfl, _⟩ := h; rfl) | (obtain ⟨_, _, _, _, _, _, _, _, _, _, _, rfl, _⟩ := h; rfl) | (obtain ⟨_, _, _, _, _, _, _, _, _, _, _, _, rfl, _⟩ := h; rfl) | (obtain ⟨_, _, _, _, _, _, _, _, _, _, _, _, _, rfl, _⟩ := h; rfl) | (obtain ⟨_, _, _, _, _, _, _, _, _, _, _, _, _, _, rfl, _⟩ := h; rfl) | (obtain ⟨_, _, _, _, _, _, _, _, _, _, _, _, _, _, _, rfl, _⟩ := h; rfl) | (obtain ⟨_, _, _, _, _, _, _, _, _, _, _, _, _, _, _, _, rfl, _⟩ := h; rfl) | (obtain ⟨_, _, _, _, _, _, _, _, _, _, _, _, _, _, _, _, _, rfl, _⟩ := h; rfl) | (obtain ⟨_, _, _, _, _, _, _, _, _, _, _, _, _, _, _, _, _, _, rfl, _⟩ := h; rfl) | (obtain ⟨_, _, _, _, _, _, _, _, _, _, _, _, _, _, _, _, _, _, _, rfl, _⟩ := h; rfl) | (obtain ⟨_, _, _, _, _, _, _, _, _, _, _, _, _, _, _, _, _, _, _, _, rfl, _⟩ := h; rfl) | (obtain ⟨_, _, _, _, _, _, _, _, _, _, _, _, _, _, _, _, _, _, _, _, _, rfl, _⟩ := h; rfl) | (obtain ⟨_, _, _, _, _, _, _, _, _, _, _, _, _, _, _, _, _, _, _, _, _, _, rfl, _⟩ := h; rfl) | (obtain ⟨_, _, _, _, _, _, _, _, _, _, _, _, _, _, _, _, _, _, _, _, _, _, _, rfl, _⟩ := h; rfl) | (obtain ⟨_, _, _, _, _, _, _, _, _, _, _, _, _, _, _, _, _, _, _, _, _, _, _, _, rfl, _⟩ := h; rfl) | (obtain ⟨_, _, _, _, _, _, _, _, _, _, _, _, _, _, _, _, _, _, _, _, _, _, _, _, _, rfl, _⟩ := h; rfl)) (fun X F0 ds L q e h1 h2 h3 h4 h5 cf hr hS => by subst h1 h2 h3 h4 h5; exact b_begin_up cf T hS)
  have C_read_piece : Met P w K mg base 2 (He.ga K "LinkEnd") "read_piece" (["self", "signs"] : List Str) (S_read_piece K) := met_of (N := (["self", "signs", "number", "count", "many"] : List Str)) (Nc := ([] : List Str)) D19 T.cl_LinkEnd T.me_LinkEnd_read_piece ⟨rfl, rfl, rfl, by decide +kernel, rfl, by decide +kernel, by decide +kernel⟩ (by decide +kernel)
    (D19.bindsN fun _ _ _ _ _ _ us hl => match us, hl with | [_, _], _ => rfl) (fun ds L q e h => by first | (obtain ⟨rfl, _⟩ := h; rfl) | (obtain ⟨_, rfl, _⟩ := h; rfl) | (obtain ⟨_, _, rfl, _⟩ := h; rfl) | (obtain ⟨_, _, _, rfl, _⟩ := h; rfl) | (obtain ⟨_, _, _, _, rfl, _⟩ := h; rfl) | (obtain ⟨_, _, _, _, _, rfl, _⟩ := h; rfl) | (obtain ⟨_, _, _, _, _, _, rfl, _⟩ := h; rfl) | (obtain ⟨_, _, _, _, _, _, _, rfl, _⟩ := h; rfl) | (obtain ⟨_, _, _, _, _, _, _, _, rfl, _⟩ := h; rfl) | (obtain ⟨_, _, _, _, _, _, _, _, _, rfl, _⟩ := h; rfl) | (obtain ⟨_, _, _, _, _, _, _, _, _, _, rfl, _⟩ := h; rfl) | (obtain ⟨_, _, _, _, _, _, _, _, _, _, _, rfl, _⟩ := h; rfl) | (obtain ⟨_, _, _, _, _, _, _, _, _, _, _, _, rfl, _⟩ := h; rfl) | (obtain ⟨_, _, _, _, _, _, _, _, _, _, _, _, _, rfl, _⟩ := h; rfl) | (obtain ⟨_, _, _, _, _, _, _, _, _, _, _, _, _, _, rfl, _⟩ := h; rfl) | (obtain ⟨_, _, _, _, _, _, _, _, _, _, _, _, _, _, _, rfl, _⟩ := h; rfl) | (obtain ⟨_, _, _, _, _, _, _, _, _, _, _, _, _, _, _, _, rfl, _⟩ := h; rfl) | (obtain ⟨_, _, _, _, _, _, _, _, _, _, _, _, _, _, _, _, _, rfl, _⟩ := h; rfl) | (obtain ⟨_, _, _, _, _, _, _, _, _, _, _, _, _, _, _, _, _, _, rfl, _⟩ := h; rfl) | (obtain ⟨_, _, _, _, _, _, _, _, _, _, _, _, _, _, _, _, _, _, _, rfl, _⟩ := h; rfl) | (obtain ⟨_, _, _, _, _, _, _, _, _, _, _, _, _, _, _, _, _, _, _, _, rfl, _⟩ := h; rfl) | (obtain ⟨_, _, _, _, _, _, _, _, _, _, _, _, _, _, _, _, _, _, _, _, _, rfl, _⟩ := h; rfl) | (obtain ⟨_, _, _, _, _, _, _, _, _, _, _, _, _, _, _, _, _, _, _, _, _, _, rfl, _⟩ := h; rfl) | (obtain ⟨_, _, _, _, _, _, _, _, _, _, _, _, _, _, _, _, _, _, _, _, _, _, _, rfl, _⟩ := h; rfl) | (obtain ⟨_, _, _, _, _, _, _, _, _, _, _, _, _, _, _, _, _, _, _, _, _, _, _, _, rfl, _⟩ := h; rfl) | (obtain ⟨_, _, _, _, _, _, _, _, _, _, _, _, _, _, _, _, _, _, _, _, _, _, _, _, _, rfl, _⟩ := h; rfl)) (fun X F0 ds L q e h1 h2 h3 h4 h5 cf hr hS => by subst h1 h2 h3 h4 h5; exact b_read_piece cf T hr hS)
  have C_fall_silent : Met P w K mg base 2 (He.ga K "LinkEnd") "fall_silent" (["self"] : List Str) (S_fall_silent K) := met_of (N := (["self"] : List Str)) (Nc := ([] : List Str)) D20 T.cl_LinkEnd T.me_LinkEnd_fall_silent ⟨rfl, rfl, rfl, by decide +kernel, rfl, by decide +kernel, by decide +kernel⟩ (by decide +kernel)
    (D20.bindsN fun _ _ _ _ _ _ us hl => match us, hl with | [_], _ => rfl) (fun ds L q e h => by first | (obtain ⟨rfl, _⟩ := h; rfl) | (obtain ⟨_, rfl, _⟩ := h; rfl) | (obtain ⟨_, _, rfl, _⟩ := h; rfl) | (obtain ⟨_, _, _, rfl, _⟩ := h; rfl) | (obtain ⟨_, _, _, _, rfl, _⟩ := h; rfl) | (obtain ⟨_, _, _, _, _, rfl, _⟩ := h; rfl) | (obtain ⟨_, _, _, _, _, _, rfl, _⟩ := h; rfl) | (obtain ⟨_, _, _, _, _, _, _, rfl, _⟩ := h; rfl) | (obtain ⟨_, _, _, _, _, _, _, _, rfl, _⟩ := h; rfl) | (obtain ⟨_, _, _, _, _, _, _, _, _, rfl, _⟩ := h; rfl) | (obtain ⟨_, _, _, _, _, _, _, _, _, _, rfl, _⟩ := h; rfl) | (obtain ⟨_, _, _, _, _, _, _, _, _, _, _, rfl, _⟩ := h; rfl) | (obtain ⟨_, _, _, _, _, _, _, _, _, _, _, _, rfl, _⟩ := h; rfl) | (obtain ⟨_, _, _, _, _, _, _, _, _, _, _, _, _, rfl, _⟩ := h; rfl) | (obtain ⟨_, _, _, _, _, _, _, _, _, _, _, _, _, _, rfl, _⟩ := h; rfl) | (obtain ⟨_, _, _, _, _, _, _, _, _, _, _, _, _, _, _, rfl, _⟩ := h; rfl) | (obtain ⟨_, _, _, _, _, _, _, _, _, _, _, _, _, _, _, _, rfl, _⟩ := h; rfl) | (obtain ⟨_, _, _, _, _, _, _, _, _, _, _, _, _, _, _, _, _, rfl, _⟩ := h; rfl) | (obtain ⟨_, _, _, _, _, _, _, _, _, _, _, _, _, _, _, _, _, _, rfl, _⟩ := h; rfl) | (obtain ⟨_, _, _, _, _, _, _, _, _, _, _, _, _, _, _, _, _, _, _, rfl, _⟩ := h; rfl) | (obtain ⟨_, _, _, _, _, _, _, _, _, _, _, _, _, _, _, _, _, _, _, _, rfl, _⟩ := h; rfl) | (obtain ⟨_, _, _, _, _, _, _, _, _, _, _, _, _, _, _, _, _, _, _, _, _, rfl, _⟩ := h; rfl) | (obtain ⟨_, _, _, _, _, _, _, _, _, _, _, _, _, _, _, _, _, _, _, _, _, _, rfl, _⟩ := h; rfl) | (obtain ⟨_, _, _, _, _, _, _, _, _, _, _, _, _, _, _, _, _, _, _, _, _, _, _, rfl, _⟩ := h; rfl) | (obtain ⟨_, _, _, _, _, _, _, _, _, _, _, _, _, _, _, _, _, _, _, _, _, _, _, _, rfl, _⟩ := h; rfl) | (obtain ⟨_, _, _, _, _, _, _, _, _, _, _, _, _, _, _, _, _, _, _, _, _, _, _, _, _, rfl, _⟩ := h; rfl)) (fun X F0 ds L q e h1 h2 h3 h4 h5 cf hr hS => by subst h1 h2 h3 h4 h5; exact b_fall_silent cf T hr C_end_up hS)
  have C_up : Met P w K mg base 1 (He.ga K "LinkEnd") "up" (["self"] : List Str) (S_up K) := met_of (N := (["self"] : List Str)) (Nc := ([] : List Str)) D21 T.cl_LinkEnd T.me_LinkEnd_up ⟨rfl, rfl, rfl, by decide +kernel, rfl, by decide +kernel, by decide +kernel⟩ (by decide +kernel)
    (D21.bindsN fun _ _ _ _ _ _ us hl => match us, hl with | [_], _ => rfl) (fun ds L q e h => by first | (obtain ⟨rfl, _⟩ := h; rfl) | (obtain ⟨_, rfl, _⟩ := h; rfl) | (obtain ⟨_, _, rfl, _⟩ := h; rfl) | (obtain ⟨_, _, _, rfl, _⟩ := h; rfl) | (obtain ⟨_, _, _, _, rfl, _⟩ := h; rfl) | (obtain ⟨_, _, _, _, _, rfl, _⟩ := h; rfl) | (obtain ⟨_, _, _, _, _, _, rfl, _⟩ := h; rfl) | (obtain ⟨_, _, _, _, _, _, _, rfl, _⟩ := h; rfl) | (obtain ⟨_, _, _, _, _, _, _, _, rfl, _⟩ := h; rfl) | (obtain ⟨_, _, _, _, _, _, _, _, _, rfl, _⟩ := h; rfl) | (obtain ⟨_, _, _, _, _, _, _, _, _, _, rfl, _⟩ := h; rfl) | (obtain ⟨_, _, _, _, _, _, _, _, _, _, _, rfl, _⟩ := h; rfl) | (obtain ⟨_, _, _, _, _, _, _, _, _, _, _, _, rfl, _⟩ := h; rfl) | (obtain ⟨_, _, _, _, _, _, _, _, _, _, _, _, _, rfl, _⟩ := h; rfl) | (obtain ⟨_, _, _, _, _, _, _, _, _, _, _, _, _, _, rfl, _⟩ := h; rfl) | (obtain ⟨_, _, _, _, _, _, _, _, _, _, _, _, _, _, _, rfl, _⟩ := h; rfl) | (obtain ⟨_, _, _, _, _, _, _, _, _, _, _, _, _, _, _, _, rfl, _⟩ := h; rfl) | (obtain ⟨_, _, _, _, _, _, _, _, _, _, _, _, _, _, _, _, _, rfl, _⟩ := h; rfl) | (obtain ⟨_, _, _, _, _, _, _, _, _, _, _, _, _, _, _, _, _, _, rfl, _⟩ := h; rfl) | (obtain ⟨_, _, _, _, _, _, _, _, _, _, _, _, _, _, _, _, _, _, _, rfl, _⟩ := h; rfl) | (obtain ⟨_, _, _, _, _, _, _, _, _, _, _, _, _, _, _, _, _, _, _, _, rfl, _⟩ := h; rfl) | (obtain ⟨_, _, _, _, _, _, _, _, _, _, _, _, _, _, _, _, _, _, _, _, _, rfl, _⟩ := h; rfl) | (obtain ⟨_, _, _, _, _, _, _, _, _, _, _, _, _, _, _, _, _, _, _, _, _, _, rfl, _⟩ := h; rfl) | (obtain ⟨_, _, _, _, _, _, _, _, _, _, _, _, _, _, _, _, _, _, _, _, _, _, _, rfl, _⟩ := h; rfl) | (obtain ⟨_, _, _, _, _, _, _, _, _, _, _, _, _, _, _, _, _, _, _, _, _, _, _, _, rfl, _⟩ := h; rfl) | (obtain ⟨_, _, _, _, _, _, _, _, _, _, _, _, _, _, _, _, _, _, _, _, _, _, _, _, _, rfl, _⟩ := h; rfl)) (fun X F0 ds L q e h1 h2 h3 h4 h5 cf hr hS => by subst h1 h2 h3 h4 h5; exact b_up cf T hS)
  have C_events : Met P w K mg base 1 (He.ga K "LinkEnd") "events" (["self"] : List Str) (S_events K) := met_of (N := (["self", "found"] : List Str)) (Nc := ([] : List Str)) D22 T.cl_LinkEnd T.me_LinkEnd_events ⟨rfl, rfl, rfl, by decide +kernel, rfl, by decide +kernel, by decide +kernel⟩ (by decide +kernel)
    (D22.bindsN fun _ _ _ _ _ _ us hl => match us, hl with | [_], _ => rfl) (fun ds L q e h => by first | (obtain ⟨rfl, _⟩ := h; rfl) | (obtain ⟨_, rfl, _⟩ := h; rfl) | (obtain ⟨_, _, rfl, _⟩ := h; rfl) | (obtain ⟨_, _, _, rfl, _⟩ := h; rfl) | (obtain ⟨_, _, _, _, rfl, _⟩ := h; rfl) | (obtain ⟨_, _, _, _, _, rfl, _⟩ := h; rfl) | (obtain ⟨_, _, _, _, _, _, rfl, _⟩ := h; rfl) | (obtain ⟨_, _, _, _, _, _, _, rfl, _⟩ := h; rfl) | (obtain ⟨_, _, _, _, _, _, _, _, rfl, _⟩ := h; rfl) | (obtain ⟨_, _, _, _, _, _, _, _, _, rfl, _⟩ := h; rfl) | (obtain ⟨_, _, _, _, _, _, _, _, _, _, rfl, _⟩ := h; rfl) | (obtain ⟨_, _, _, _, _, _, _, _, _, _, _, rfl, _⟩ := h; rfl) | (obtain ⟨_, _, _, _, _, _, _, _, _, _, _, _, rfl, _⟩ := h; rfl) | (obtain ⟨_, _, _, _, _, _, _, _, _, _, _, _, _, rfl, _⟩ := h; rfl) | (obtain ⟨_, _, _, _, _, _, _, _, _, _, _, _, _, _, rfl, _⟩ := h; rfl) | (obtain ⟨_, _, _, _, _, _, _, _, _, _, _, _, _, _, _, rfl, _⟩ := h; rfl) | (obtain ⟨_, _, _, _, _, _, _, _, _, _, _, _, _, _, _, _, rfl, _⟩ := h; rfl) | (obtain ⟨_, _, _, _, _, _, _, _, _, _, _, _, _, _, _, _, _, rfl, _⟩ := h; rfl) | (obtain ⟨_, _, _, _, _, _, _, _, _, _, _, _, _, _, _, _, _, _, rfl, _⟩ := h; rfl) | (obtain ⟨_, _, _, _, _, _, _, _, _, _, _, _, _, _, _, _, _, _, _, rfl, _⟩ := h; rfl) | (obtain ⟨_, _, _, _, _, _, _, _, _, _, _, _, _, _, _, _, _, _, _, _, rfl, _⟩ := h; rfl) | (obtain ⟨_, _, _, _, _, _, _, _, _, _, _, _, _, _, _, _, _, _, _, _, _, rfl, _⟩ := h; rfl) | (obtain ⟨_, _, _, _, _, _, _, _, _, _, _, _, _, _, _, _, _, _, _, _, _, _, rfl, _⟩ := h; rfl) | (obtain ⟨_, _, _, _, _, _, _, _, _, _, _, _, _, _, _, _, _, _, _, _, _, _, _, rfl, _⟩ := h; rfl) | (obtain ⟨_, _, _, _, _, _, _, _, _, _, _, _, _, _, _, _, _, _, _, _, _, _, _, _, rfl, _⟩ := h; rfl) | (obtain ⟨_, _, _, _, _, _, _, _, _, _, _, _, _, _, _, _, _, _, _, _, _, _, _, _, _, rfl, _⟩ := h; rfl)) (fun X F0 ds L q e h1 h2 h3 h4 h5 cf hr hS => by subst h1 h2 h3 h4 h5; exact b_events cf T hS)
  have C_signs_now : Met P w K mg base 2 (He.ga K "LinkEnd") "signs_now" (["self"] : List Str) (S_signs_now K) := met_of (N := (["self", "signs", "piece", "number", "count"] : List Str)) (Nc := ([] : List Str)) D23 T.cl_LinkEnd T.me_LinkEnd_signs_now ⟨rfl, rfl, rfl, by decide +kernel, rfl, by decide +kernel, by decide +kernel⟩ (by decide +kernel)
    (D23.bindsN fun _ _ _ _ _ _ us hl => match us, hl with | [_], _ => rfl) (fun ds L q e h => by first | (obtain ⟨rfl, _⟩ := h; rfl) | (obtain ⟨_, rfl, _⟩ := h; rfl) | (obtain ⟨_, _, rfl, _⟩ := h; rfl) | (obtain ⟨_, _, _, rfl, _⟩ := h; rfl) | (obtain ⟨_, _, _, _, rfl, _⟩ := h; rfl) | (obtain ⟨_, _, _, _, _, rfl, _⟩ := h; rfl) | (obtain ⟨_, _, _, _, _, _, rfl, _⟩ := h; rfl) | (obtain ⟨_, _, _, _, _, _, _, rfl, _⟩ := h; rfl) | (obtain ⟨_, _, _, _, _, _, _, _, rfl, _⟩ := h; rfl) | (obtain ⟨_, _, _, _, _, _, _, _, _, rfl, _⟩ := h; rfl) | (obtain ⟨_, _, _, _, _, _, _, _, _, _, rfl, _⟩ := h; rfl) | (obtain ⟨_, _, _, _, _, _, _, _, _, _, _, rfl, _⟩ := h; rfl) | (obtain ⟨_, _, _, _, _, _, _, _, _, _, _, _, rfl, _⟩ := h; rfl) | (obtain ⟨_, _, _, _, _, _, _, _, _, _, _, _, _, rfl, _⟩ := h; rfl) | (obtain ⟨_, _, _, _, _, _, _, _, _, _, _, _, _, _, rfl, _⟩ := h; rfl) | (obtain ⟨_, _, _, _, _, _, _, _, _, _, _, _, _, _, _, rfl, _⟩ := h; rfl) | (obtain ⟨_, _, _, _, _, _, _, _, _, _, _, _, _, _, _, _, rfl, _⟩ := h; rfl) | (obtain ⟨_, _, _, _, _, _, _, _, _, _, _, _, _, _, _, _, _, rfl, _⟩ := h; rfl) | (obtain ⟨_, _, _, _, _, _, _, _, _, _, _, _, _, _, _, _, _, _, rfl, _⟩ := h; rfl) | (obtain ⟨_, _, _, _, _, _, _, _, _, _, _, _, _, _, _, _, _, _, _, rfl, _⟩ := h; rfl) | (obtain ⟨_, _, _, _, _, _, _, _, _, _, _, _, _, _, _, _, _, _, _, _, rfl, _⟩ := h; rfl) | (obtain ⟨_, _, _, _, _, _, _, _, _, _, _, _, _, _, _, _, _, _, _, _, _, rfl, _⟩ := h; rfl) | (obtain ⟨_, _, _, _, _, _, _, _, _, _, _, _, _, _, _, _, _, _, _, _, _, _, rfl, _⟩ := h; rfl) | (obtain ⟨_, _, _, _, _, _, _, _, _, _, _, _, _, _, _, _, _, _, _, _, _, _, _, rfl, _⟩ := h; rfl) | (obtain ⟨_, _, _, _, _, _, _, _, _, _, _, _, _, _, _, _, _, _, _, _, _, _, _, _, rfl, _⟩ := h; rfl) | (obtain ⟨_, _, _, _, _, _, _, _, _, _, _, _, _, _, _, _, _, _, _, _, _, _, _, _, _, rfl, _⟩ := h; rfl)) (fun X F0 ds L q e h1 h2 h3 h4 h5 cf hr hS => by subst h1 h2 h3 h4 h5; exact b_signs_now cf T hr C_nsigns hS)
  have C_read_births : Met P w K mg base 3 (He.ga K "LinkEnd") "read_births" (["self", "cell"] : List Str) (S_read_births K) := met_of (N := (["self", "cell", "birth"] : List Str)) (Nc := ([] : List Str)) D24 T.cl_LinkEnd T.me_LinkEnd_read_births ⟨rfl, rfl, rfl, by decide +kernel, rfl, by decide +kernel, by decide +kernel⟩ (by decide +kernel)
    (D24.bindsN fun _ _ _ _ _ _ us hl => match us, hl with | [_, _], _ => rfl) (fun ds L q e h => by first | (obtain ⟨rfl, _⟩ := h; rfl) | (obtain ⟨_, rfl, _⟩ := h; rfl) | (obtain ⟨_, _, rfl, _⟩ := h; rfl) | (obtain ⟨_, _, _, rfl, _⟩ := h; rfl) | (obtain ⟨_, _, _, _, rfl, _⟩ := h; rfl) | (obtain ⟨_, _, _, _, _, rfl, _⟩ := h; rfl) | (obtain ⟨_, _, _, _, _, _, rfl, _⟩ := h; rfl) | (obtain ⟨_, _, _, _, _, _, _, rfl, _⟩ := h; rfl) | (obtain ⟨_, _, _, _, _, _, _, _, rfl, _⟩ := h; rfl) | (obtain ⟨_, _, _, _, _, _, _, _, _, rfl, _⟩ := h; rfl) | (obtain ⟨_, _, _, _, _, _, _, _, _, _, rfl, _⟩ := h; rfl) | (obtain ⟨_, _, _, _, _, _, _, _, _, _, _, rfl, _⟩ := h; rfl) | (obtain ⟨_, _, _, _, _, _, _, _, _, _, _, _, rfl, _⟩ := h; rfl) | (obtain ⟨_, _, _, _, _, _, _, _, _, _, _, _, _, rfl, _⟩ := h; rfl) | (obtain ⟨_, _, _, _, _, _, _, _, _, _, _, _, _, _, rfl, _⟩ := h; rfl) | (obtain ⟨_, _, _, _, _, _, _, _, _, _, _, _, _, _, _, rfl, _⟩ := h; rfl) | (obtain ⟨_, _, _, _, _, _, _, _, _, _, _, _, _, _, _, _, rfl, _⟩ := h; rfl) | (obtain ⟨_, _, _, _, _, _, _, _, _, _, _, _, _, _, _, _, _, rfl, _⟩ := h; rfl) | (obtain ⟨_, _, _, _, _, _, _, _, _, _, _, _, _, _, _, _, _, _, rfl, _⟩ := h; rfl) | (obtain ⟨_, _, _, _, _, _, _, _, _, _, _, _, _, _, _, _, _, _, _, rfl, _⟩ := h; rfl) | (obtain ⟨_, _, _, _, _, _, _, _, _, _, _, _, _, _, _, _, _, _, _, _, rfl, _⟩ := h; rfl) | (obtain ⟨_, _, _, _, _, _, _, _, _, _, _, _, _, _, _, _, _, _, _, _, _, rfl, _⟩ := h; rfl) | (obtain ⟨_, _, _, _, _, _, _, _, _, _, _, _, _, _, _, _, _, _, _, _, _, _, rfl, _⟩ := h; rfl) | (obtain ⟨_, _, _, _, _, _, _, _, _, _, _, _, _, _, _, _, _, _, _, _, _, _, _, rfl, _⟩ := h; rfl) | (obtain ⟨_, _, _, _, _, _, _, _, _, _, _, _, _, _, _, _, _, _, _, _, _, _, _, _, rfl, _⟩ := h; rfl) | (obtain ⟨_, _, _, _, _, _, _, _, _, _, _, _, _, _, _, _, _, _, _, _, _, _, _, _, _, rfl, _⟩ := h; rfl)) (fun X F0 ds L q e h1 h2 h3 h4 h5 cf hr hS => by subst h1 h2 h3 h4 h5; exact b_read_births cf T hr C_signsn C_end_up C_begin_up C_read_piece hS)
  have C_tick : Met P w K mg base 7 (He.ga K "LinkEnd") "tick" (["self", "cells"] : List Str) (S_tick K) := met_of (N := (["self", "cells", "cell", "found"] : List Str)) (Nc := ([] : List Str)) D25 T.cl_LinkEnd T.me_LinkEnd_tick ⟨rfl, rfl, rfl, by decide +kernel, rfl, by decide +kernel, by decide +kernel⟩ (by decide +kernel)
    (D25.bindsN fun _ _ _ _ _ _ us hl => match us, hl with | [_, _], _ => rfl) (fun ds L q e h => by first | (obtain ⟨rfl, _⟩ := h; rfl) | (obtain ⟨_, rfl, _⟩ := h; rfl) | (obtain ⟨_, _, rfl, _⟩ := h; rfl) | (obtain ⟨_, _, _, rfl, _⟩ := h; rfl) | (obtain ⟨_, _, _, _, rfl, _⟩ := h; rfl) | (obtain ⟨_, _, _, _, _, rfl, _⟩ := h; rfl) | (obtain ⟨_, _, _, _, _, _, rfl, _⟩ := h; rfl) | (obtain ⟨_, _, _, _, _, _, _, rfl, _⟩ := h; rfl) | (obtain ⟨_, _, _, _, _, _, _, _, rfl, _⟩ := h; rfl) | (obtain ⟨_, _, _, _, _, _, _, _, _, rfl, _⟩ := h; rfl) | (obtain ⟨_, _, _, _, _, _, _, _, _, _, rfl, _⟩ := h; rfl) | (obtain ⟨_, _, _, _, _, _, _, _, _, _, _, rfl, _⟩ := h; rfl) | (obtain ⟨_, _, _, _, _, _, _, _, _, _, _, _, rfl, _⟩ := h; rfl) | (obtain ⟨_, _, _, _, _, _, _, _, _, _, _, _, _, rfl, _⟩ := h; rfl) | (obtain ⟨_, _, _, _, _, _, _, _, _, _, _, _, _, _, rfl, _⟩ := h; rfl) | (obtain ⟨_, _, _, _, _, _, _, _, _, _, _, _, _, _, _, rfl, _⟩ := h; rfl) | (obtain ⟨_, _, _, _, _, _, _, _, _, _, _, _, _, _, _, _, rfl, _⟩ := h; rfl) | (obtain ⟨_, _, _, _, _, _, _, _, _, _, _, _, _, _, _, _, _, rfl, _⟩ := h; rfl) | (obtain ⟨_, _, _, _, _, _, _, _, _, _, _, _, _, _, _, _, _, _, rfl, _⟩ := h; rfl) | (obtain ⟨_, _, _, _, _, _, _, _, _, _, _, _, _, _, _, _, _, _, _, rfl, _⟩ := h; rfl) | (obtain ⟨_, _, _, _, _, _, _, _, _, _, _, _, _, _, _, _, _, _, _, _, rfl, _⟩ := h; rfl) | (obtain ⟨_, _, _, _, _, _, _, _, _, _, _, _, _, _, _, _, _, _, _, _, _, rfl, _⟩ := h; rfl) | (obtain ⟨_, _, _, _, _, _, _, _, _, _, _, _, _, _, _, _, _, _, _, _, _, _, rfl, _⟩ := h; rfl) | (obtain ⟨_, _, _, _, _, _, _, _, _, _, _, _, _, _, _, _, _, _, _, _, _, _, _, rfl, _⟩ := h; rfl) | (obtain ⟨_, _, _, _, _, _, _, _, _, _, _, _, _, _, _, _, _, _, _, _, _, _, _, _, rfl, _⟩ := h; rfl) | (obtain ⟨_, _, _, _, _, _, _, _, _, _, _, _, _, _, _, _, _, _, _, _, _, _, _, _, _, rfl, _⟩ := h; rfl)) (fun X F0 ds L q e h1 h2 h3 h4 h5 cf hr hS => by subst h1 h2 h3 h4 h5; exact b_tick cf T hr C_mended C_sealed C_read_births C_fall_silent C_signs_now hS)
  have C_link : Mkr P w K mg base 4 "LinkEnd" (He.ga K "LinkEnd") (["self", "measure", "side"] : List Str) (S_link K) := mkr_of (N := (["self", "measure", "side"] : List Str)) (Nc := ([] : List Str)) D26 T.mg_LinkEnd T.mk_LinkEnd ⟨rfl, rfl, rfl, by decide +kernel, rfl, by decide +kernel, by decide +kernel⟩ (by decide +kernel)
    (D26.bindsN fun _ _ _ _ _ _ us hl => match us, hl with | [_, _, _], _ => rfl) (fun ds L q e h => by first | (obtain ⟨rfl, _⟩ := h; rfl) | (obtain ⟨_, rfl, _⟩ := h; rfl) | (obtain ⟨_, _, rfl, _⟩ := h; rfl) | (obtain ⟨_, _, _, rfl, _⟩ := h; rfl) | (obtain ⟨_, _, _, _, rfl, _⟩ := h; rfl) | (obtain ⟨_, _, _, _, _, rfl, _⟩ := h; rfl) | (obtain ⟨_, _, _, _, _, _, rfl, _⟩ := h; rfl) | (obtain ⟨_, _, _, _, _, _, _, rfl, _⟩ := h; rfl) | (obtain ⟨_, _, _, _, _, _, _, _, rfl, _⟩ := h; rfl) | (obtain ⟨_, _, _, _, _, _, _, _, _, rfl, _⟩ := h; rfl) | (obtain ⟨_, _, _, _, _, _, _, _, _, _, rfl, _⟩ := h; rfl) | (obtain ⟨_, _, _, _, _, _, _, _, _, _, _, rfl, _⟩ := h; rfl) | (obtain ⟨_, _, _, _, _, _, _, _, _, _, _, _, rfl, _⟩ := h; rfl) | (obtain ⟨_, _, _, _, _, _, _, _, _, _, _, _, _, rfl, _⟩ := h; rfl) | (obtain ⟨_, _, _, _, _, _, _, _, _, _, _, _, _, _, rfl, _⟩ := h; rfl) | (obtain ⟨_, _, _, _, _, _, _, _, _, _, _, _, _, _, _, rfl, _⟩ := h; rfl) | (obtain ⟨_, _, _, _, _, _, _, _, _, _, _, _, _, _, _, _, rfl, _⟩ := h; rfl) | (obtain ⟨_, _, _, _, _, _, _, _, _, _, _, _, _, _, _, _, _, rfl, _⟩ := h; rfl) | (obtain ⟨_, _, _, _, _, _, _, _, _, _, _, _, _, _, _, _, _, _, rfl, _⟩ := h; rfl) | (obtain ⟨_, _, _, _, _, _, _, _, _, _, _, _, _, _, _, _, _, _, _, rfl, _⟩ := h; rfl) | (obtain ⟨_, _, _, _, _, _, _, _, _, _, _, _, _, _, _, _, _, _, _, _, rfl, _⟩ := h; rfl) | (obtain ⟨_, _, _, _, _, _, _, _, _, _, _, _, _, _, _, _, _, _, _, _, _, rfl, _⟩ := h; rfl) | (obtain ⟨_, _, _, _, _, _, _, _, _, _, _, _, _, _, _, _, _, _, _, _, _, _, rfl, _⟩ := h; rfl) | (obtain ⟨_, _, _, _, _, _, _, _, _, _, _, _, _, _, _, _, _, _, _, _, _, _, _, rfl, _⟩ := h; rfl) | (obtain ⟨_, _, _, _, _, _, _, _, _, _, _, _, _, _, _, _, _, _, _, _, _, _, _, _, rfl, _⟩ := h; rfl) | (obtain ⟨_, _, _, _, _, _, _, _, _, _, _, _, _, _, _, _, _, _, _, _, _, _, _, _, _, rfl, _⟩ := h; rfl)) (fun X F0 ds L q e h1 h2 h3 h4 h5 cf hr hS => by subst h1 h2 h3 h4 h5; exact b_link cf T hr C_quiet hS)
  have C_lcell : Cal P w K mg base 1 "_law_cell" (["script", "k"] : List Str) S_law_cell := cal_of (N := (["script", "k"] : List Str)) (Nc := ([] : List Str)) D27 (g 17 _ rfl) ⟨rfl, rfl, rfl, by decide +kernel, rfl, by decide +kernel, by decide +kernel⟩ (by decide +kernel)
    (D27.bindsN fun _ _ _ _ _ _ us hl => match us, hl with | [_, _], _ => rfl) (fun ds L q e h => by first | (obtain ⟨rfl, _⟩ := h; rfl) | (obtain ⟨_, rfl, _⟩ := h; rfl) | (obtain ⟨_, _, rfl, _⟩ := h; rfl) | (obtain ⟨_, _, _, rfl, _⟩ := h; rfl) | (obtain ⟨_, _, _, _, rfl, _⟩ := h; rfl) | (obtain ⟨_, _, _, _, _, rfl, _⟩ := h; rfl) | (obtain ⟨_, _, _, _, _, _, rfl, _⟩ := h; rfl) | (obtain ⟨_, _, _, _, _, _, _, rfl, _⟩ := h; rfl) | (obtain ⟨_, _, _, _, _, _, _, _, rfl, _⟩ := h; rfl) | (obtain ⟨_, _, _, _, _, _, _, _, _, rfl, _⟩ := h; rfl) | (obtain ⟨_, _, _, _, _, _, _, _, _, _, rfl, _⟩ := h; rfl) | (obtain ⟨_, _, _, _, _, _, _, _, _, _, _, rfl, _⟩ := h; rfl) | (obtain ⟨_, _, _, _, _, _, _, _, _, _, _, _, rfl, _⟩ := h; rfl) | (obtain ⟨_, _, _, _, _, _, _, _, _, _, _, _, _, rfl, _⟩ := h; rfl) | (obtain ⟨_, _, _, _, _, _, _, _, _, _, _, _, _, _, rfl, _⟩ := h; rfl) | (obtain ⟨_, _, _, _, _, _, _, _, _, _, _, _, _, _, _, rfl, _⟩ := h; rfl) | (obtain ⟨_, _, _, _, _, _, _, _, _, _, _, _, _, _, _, _, rfl, _⟩ := h; rfl) | (obtain ⟨_, _, _, _, _, _, _, _, _, _, _, _, _, _, _, _, _, rfl, _⟩ := h; rfl) | (obtain ⟨_, _, _, _, _, _, _, _, _, _, _, _, _, _, _, _, _, _, rfl, _⟩ := h; rfl) | (obtain ⟨_, _, _, _, _, _, _, _, _, _, _, _, _, _, _, _, _, _, _, rfl, _⟩ := h; rfl) | (obtain ⟨_, _, _, _, _, _, _, _, _, _, _, _, _, _, _, _, _, _, _, _, rfl, _⟩ := h; rfl) | (obtain ⟨_, _, _, _, _, _, _, _, _, _, _, _, _, _, _, _, _, _, _, _, _, rfl, _⟩ := h; rfl) | (obtain ⟨_, _, _, _, _, _, _, _, _, _, _, _, _, _, _, _, _, _, _, _, _, _, rfl, _⟩ := h; rfl) | (obtain ⟨_, _, _, _, _, _, _, _, _, _, _, _, _, _, _, _, _, _, _, _, _, _, _, rfl, _⟩ := h; rfl) | (obtain ⟨_, _, _, _, _, _, _, _, _, _, _, _, _, _, _, _, _, _, _, _, _, _, _, _, rfl, _⟩ := h; rfl) | (obtain ⟨_, _, _, _, _, _, _, _, _, _, _, _, _, _, _, _, _, _, _, _, _, _, _, _, _, rfl, _⟩ := h; rfl)) (fun X F0 ds L q e h1 h2 h3 h4 h5 cf hr hS => by subst h1 h2 h3 h4 h5; exact b_law_cell cf T hS)
  have C_numbers : Cal P w K mg base 1 "_law_numbers" (["cell", "many"] : List Str) S_law_numbers := cal_of (N := (["cell", "many", "told", "left", "k", "stir"] : List Str)) (Nc := ([] : List Str)) D28 (g 18 _ rfl) ⟨rfl, rfl, rfl, by decide +kernel, rfl, by decide +kernel, by decide +kernel⟩ (by decide +kernel)
    (D28.bindsN fun _ _ _ _ _ _ us hl => match us, hl with | [_, _], _ => rfl) (fun ds L q e h => by first | (obtain ⟨rfl, _⟩ := h; rfl) | (obtain ⟨_, rfl, _⟩ := h; rfl) | (obtain ⟨_, _, rfl, _⟩ := h; rfl) | (obtain ⟨_, _, _, rfl, _⟩ := h; rfl) | (obtain ⟨_, _, _, _, rfl, _⟩ := h; rfl) | (obtain ⟨_, _, _, _, _, rfl, _⟩ := h; rfl) | (obtain ⟨_, _, _, _, _, _, rfl, _⟩ := h; rfl) | (obtain ⟨_, _, _, _, _, _, _, rfl, _⟩ := h; rfl) | (obtain ⟨_, _, _, _, _, _, _, _, rfl, _⟩ := h; rfl) | (obtain ⟨_, _, _, _, _, _, _, _, _, rfl, _⟩ := h; rfl) | (obtain ⟨_, _, _, _, _, _, _, _, _, _, rfl, _⟩ := h; rfl) | (obtain ⟨_, _, _, _, _, _, _, _, _, _, _, rfl, _⟩ := h; rfl) | (obtain ⟨_, _, _, _, _, _, _, _, _, _, _, _, rfl, _⟩ := h; rfl) | (obtain ⟨_, _, _, _, _, _, _, _, _, _, _, _, _, rfl, _⟩ := h; rfl) | (obtain ⟨_, _, _, _, _, _, _, _, _, _, _, _, _, _, rfl, _⟩ := h; rfl) | (obtain ⟨_, _, _, _, _, _, _, _, _, _, _, _, _, _, _, rfl, _⟩ := h; rfl) | (obtain ⟨_, _, _, _, _, _, _, _, _, _, _, _, _, _, _, _, rfl, _⟩ := h; rfl) | (obtain ⟨_, _, _, _, _, _, _, _, _, _, _, _, _, _, _, _, _, rfl, _⟩ := h; rfl) | (obtain ⟨_, _, _, _, _, _, _, _, _, _, _, _, _, _, _, _, _, _, rfl, _⟩ := h; rfl) | (obtain ⟨_, _, _, _, _, _, _, _, _, _, _, _, _, _, _, _, _, _, _, rfl, _⟩ := h; rfl) | (obtain ⟨_, _, _, _, _, _, _, _, _, _, _, _, _, _, _, _, _, _, _, _, rfl, _⟩ := h; rfl) | (obtain ⟨_, _, _, _, _, _, _, _, _, _, _, _, _, _, _, _, _, _, _, _, _, rfl, _⟩ := h; rfl) | (obtain ⟨_, _, _, _, _, _, _, _, _, _, _, _, _, _, _, _, _, _, _, _, _, _, rfl, _⟩ := h; rfl) | (obtain ⟨_, _, _, _, _, _, _, _, _, _, _, _, _, _, _, _, _, _, _, _, _, _, _, rfl, _⟩ := h; rfl) | (obtain ⟨_, _, _, _, _, _, _, _, _, _, _, _, _, _, _, _, _, _, _, _, _, _, _, _, rfl, _⟩ := h; rfl) | (obtain ⟨_, _, _, _, _, _, _, _, _, _, _, _, _, _, _, _, _, _, _, _, _, _, _, _, _, rfl, _⟩ := h; rfl)) (fun X F0 ds L q e h1 h2 h3 h4 h5 cf hr hS => by subst h1 h2 h3 h4 h5; exact b_law_numbers cf T hS)
  have C_lmeasure : Cal P w K mg base 1 "_law_measure" (["number"] : List Str) S_law_measure := cal_of (N := (["number"] : List Str)) (Nc := ([] : List Str)) D29 (g 19 _ rfl) ⟨rfl, rfl, rfl, by decide +kernel, rfl, by decide +kernel, by decide +kernel⟩ (by decide +kernel)
    (D29.bindsN fun _ _ _ _ _ _ us hl => match us, hl with | [_], _ => rfl) (fun ds L q e h => by first | (obtain ⟨rfl, _⟩ := h; rfl) | (obtain ⟨_, rfl, _⟩ := h; rfl) | (obtain ⟨_, _, rfl, _⟩ := h; rfl) | (obtain ⟨_, _, _, rfl, _⟩ := h; rfl) | (obtain ⟨_, _, _, _, rfl, _⟩ := h; rfl) | (obtain ⟨_, _, _, _, _, rfl, _⟩ := h; rfl) | (obtain ⟨_, _, _, _, _, _, rfl, _⟩ := h; rfl) | (obtain ⟨_, _, _, _, _, _, _, rfl, _⟩ := h; rfl) | (obtain ⟨_, _, _, _, _, _, _, _, rfl, _⟩ := h; rfl) | (obtain ⟨_, _, _, _, _, _, _, _, _, rfl, _⟩ := h; rfl) | (obtain ⟨_, _, _, _, _, _, _, _, _, _, rfl, _⟩ := h; rfl) | (obtain ⟨_, _, _, _, _, _, _, _, _, _, _, rfl, _⟩ := h; rfl) | (obtain ⟨_, _, _, _, _, _, _, _, _, _, _, _, rfl, _⟩ := h; rfl) | (obtain ⟨_, _, _, _, _, _, _, _, _, _, _, _, _, rfl, _⟩ := h; rfl) | (obtain ⟨_, _, _, _, _, _, _, _, _, _, _, _, _, _, rfl, _⟩ := h; rfl) | (obtain ⟨_, _, _, _, _, _, _, _, _, _, _, _, _, _, _, rfl, _⟩ := h; rfl) | (obtain ⟨_, _, _, _, _, _, _, _, _, _, _, _, _, _, _, _, rfl, _⟩ := h; rfl) | (obtain ⟨_, _, _, _, _, _, _, _, _, _, _, _, _, _, _, _, _, rfl, _⟩ := h; rfl) | (obtain ⟨_, _, _, _, _, _, _, _, _, _, _, _, _, _, _, _, _, _, rfl, _⟩ := h; rfl) | (obtain ⟨_, _, _, _, _, _, _, _, _, _, _, _, _, _, _, _, _, _, _, rfl, _⟩ := h; rfl) | (obtain ⟨_, _, _, _, _, _, _, _, _, _, _, _, _, _, _, _, _, _, _, _, rfl, _⟩ := h; rfl) | (obtain ⟨_, _, _, _, _, _, _, _, _, _, _, _, _, _, _, _, _, _, _, _, _, rfl, _⟩ := h; rfl) | (obtain ⟨_, _, _, _, _, _, _, _, _, _, _, _, _, _, _, _, _, _, _, _, _, _, rfl, _⟩ := h; rfl) | (obtain ⟨_, _, _, _, _, _, _, _, _, _, _, _, _, _, _, _, _, _, _, _, _, _, _, rfl, _⟩ := h; rfl) | (obtain ⟨_, _, _, _, _, _, _, _, _, _, _, _, _, _, _, _, _, _, _, _, _, _, _, _, rfl, _⟩ := h; rfl) | (obtain ⟨_, _, _, _, _, _, _, _, _, _, _, _, _, _, _, _, _, _, _, _, _, _, _, _, _, rfl, _⟩ := h; rfl)) (fun X F0 ds L q e h1 h2 h3 h4 h5 cf hr hS => by subst h1 h2 h3 h4 h5; exact b_law_measure cf T hS)
  have C_lturns : Cal P w K mg base 1 "_law_turns" (["number", "many"] : List Str) S_law_turns := cal_of (N := (["number", "many"] : List Str)) (Nc := (["k"] : List Str)) D30 (g 20 _ rfl) ⟨rfl, rfl, rfl, by decide +kernel, rfl, by decide +kernel, by decide +kernel⟩ (by decide +kernel)
    (D30.bindsN fun _ _ _ _ _ _ us hl => match us, hl with | [_, _], _ => rfl) (fun ds L q e h => by first | (obtain ⟨rfl, _⟩ := h; rfl) | (obtain ⟨_, rfl, _⟩ := h; rfl) | (obtain ⟨_, _, rfl, _⟩ := h; rfl) | (obtain ⟨_, _, _, rfl, _⟩ := h; rfl) | (obtain ⟨_, _, _, _, rfl, _⟩ := h; rfl) | (obtain ⟨_, _, _, _, _, rfl, _⟩ := h; rfl) | (obtain ⟨_, _, _, _, _, _, rfl, _⟩ := h; rfl) | (obtain ⟨_, _, _, _, _, _, _, rfl, _⟩ := h; rfl) | (obtain ⟨_, _, _, _, _, _, _, _, rfl, _⟩ := h; rfl) | (obtain ⟨_, _, _, _, _, _, _, _, _, rfl, _⟩ := h; rfl) | (obtain ⟨_, _, _, _, _, _, _, _, _, _, rfl, _⟩ := h; rfl) | (obtain ⟨_, _, _, _, _, _, _, _, _, _, _, rfl, _⟩ := h; rfl) | (obtain ⟨_, _, _, _, _, _, _, _, _, _, _, _, rfl, _⟩ := h; rfl) | (obtain ⟨_, _, _, _, _, _, _, _, _, _, _, _, _, rfl, _⟩ := h; rfl) | (obtain ⟨_, _, _, _, _, _, _, _, _, _, _, _, _, _, rfl, _⟩ := h; rfl) | (obtain ⟨_, _, _, _, _, _, _, _, _, _, _, _, _, _, _, rfl, _⟩ := h; rfl) | (obtain ⟨_, _, _, _, _, _, _, _, _, _, _, _, _, _, _, _, rfl, _⟩ := h; rfl) | (obtain ⟨_, _, _, _, _, _, _, _, _, _, _, _, _, _, _, _, _, rfl, _⟩ := h; rfl) | (obtain ⟨_, _, _, _, _, _, _, _, _, _, _, _, _, _, _, _, _, _, rfl, _⟩ := h; rfl) | (obtain ⟨_, _, _, _, _, _, _, _, _, _, _, _, _, _, _, _, _, _, _, rfl, _⟩ := h; rfl) | (obtain ⟨_, _, _, _, _, _, _, _, _, _, _, _, _, _, _, _, _, _, _, _, rfl, _⟩ := h; rfl) | (obtain ⟨_, _, _, _, _, _, _, _, _, _, _, _, _, _, _, _, _, _, _, _, _, rfl, _⟩ := h; rfl) | (obtain ⟨_, _, _, _, _, _, _, _, _, _, _, _, _, _, _, _, _, _, _, _, _, _, rfl, _⟩ := h; rfl) | (obtain ⟨_, _, _, _, _, _, _, _, _, _, _, _, _, _, _, _, _, _, _, _, _, _, _, rfl, _⟩ := h; rfl) | (obtain ⟨_, _, _, _, _, _, _, _, _, _, _, _, _, _, _, _, _, _, _, _, _, _, _, _, rfl, _⟩ := h; rfl) | (obtain ⟨_, _, _, _, _, _, _, _, _, _, _, _, _, _, _, _, _, _, _, _, _, _, _, _, _, rfl, _⟩ := h; rfl)) (fun X F0 ds L q e h1 h2 h3 h4 h5 cf hr hS => by subst h1 h2 h3 h4 h5; exact b_law_turns cf T hS)
  have C_lfate : Cal P w K mg base 2 "_law_fate" (["number", "late"] : List Str) S_law_fate := cal_of (N := (["number", "late", "delay", "other", "kind"] : List Str)) (Nc := ([] : List Str)) D31 (g 21 _ rfl) ⟨rfl, rfl, rfl, by decide +kernel, rfl, by decide +kernel, by decide +kernel⟩ (by decide +kernel)
    (D31.bindsN fun _ _ _ _ _ _ us hl => match us, hl with | [_, _], _ => rfl) (fun ds L q e h => by first | (obtain ⟨rfl, _⟩ := h; rfl) | (obtain ⟨_, rfl, _⟩ := h; rfl) | (obtain ⟨_, _, rfl, _⟩ := h; rfl) | (obtain ⟨_, _, _, rfl, _⟩ := h; rfl) | (obtain ⟨_, _, _, _, rfl, _⟩ := h; rfl) | (obtain ⟨_, _, _, _, _, rfl, _⟩ := h; rfl) | (obtain ⟨_, _, _, _, _, _, rfl, _⟩ := h; rfl) | (obtain ⟨_, _, _, _, _, _, _, rfl, _⟩ := h; rfl) | (obtain ⟨_, _, _, _, _, _, _, _, rfl, _⟩ := h; rfl) | (obtain ⟨_, _, _, _, _, _, _, _, _, rfl, _⟩ := h; rfl) | (obtain ⟨_, _, _, _, _, _, _, _, _, _, rfl, _⟩ := h; rfl) | (obtain ⟨_, _, _, _, _, _, _, _, _, _, _, rfl, _⟩ := h; rfl) | (obtain ⟨_, _, _, _, _, _, _, _, _, _, _, _, rfl, _⟩ := h; rfl) | (obtain ⟨_, _, _, _, _, _, _, _, _, _, _, _, _, rfl, _⟩ := h; rfl) | (obtain ⟨_, _, _, _, _, _, _, _, _, _, _, _, _, _, rfl, _⟩ := h; rfl) | (obtain ⟨_, _, _, _, _, _, _, _, _, _, _, _, _, _, _, rfl, _⟩ := h; rfl) | (obtain ⟨_, _, _, _, _, _, _, _, _, _, _, _, _, _, _, _, rfl, _⟩ := h; rfl) | (obtain ⟨_, _, _, _, _, _, _, _, _, _, _, _, _, _, _, _, _, rfl, _⟩ := h; rfl) | (obtain ⟨_, _, _, _, _, _, _, _, _, _, _, _, _, _, _, _, _, _, rfl, _⟩ := h; rfl) | (obtain ⟨_, _, _, _, _, _, _, _, _, _, _, _, _, _, _, _, _, _, _, rfl, _⟩ := h; rfl) | (obtain ⟨_, _, _, _, _, _, _, _, _, _, _, _, _, _, _, _, _, _, _, _, rfl, _⟩ := h; rfl) | (obtain ⟨_, _, _, _, _, _, _, _, _, _, _, _, _, _, _, _, _, _, _, _, _, rfl, _⟩ := h; rfl) | (obtain ⟨_, _, _, _, _, _, _, _, _, _, _, _, _, _, _, _, _, _, _, _, _, _, rfl, _⟩ := h; rfl) | (obtain ⟨_, _, _, _, _, _, _, _, _, _, _, _, _, _, _, _, _, _, _, _, _, _, _, rfl, _⟩ := h; rfl) | (obtain ⟨_, _, _, _, _, _, _, _, _, _, _, _, _, _, _, _, _, _, _, _, _, _, _, _, rfl, _⟩ := h; rfl) | (obtain ⟨_, _, _, _, _, _, _, _, _, _, _, _, _, _, _, _, _, _, _, _, _, _, _, _, _, rfl, _⟩ := h; rfl)) (fun X F0 ds L q e h1 h2 h3 h4 h5 cf hr hS => by subst h1 h2 h3 h4 h5; exact b_law_fate cf T hr C_lturns hS)
  have C_turned : Cal P w K mg base 1 "_law_turned" (["cell", "turns"] : List Str) S_law_turned := cal_of (N := (["cell", "turns", "made", "place", "add"] : List Str)) (Nc := ([] : List Str)) D32 (g 22 _ rfl) ⟨rfl, rfl, rfl, by decide +kernel, rfl, by decide +kernel, by decide +kernel⟩ (by decide +kernel)
    (D32.bindsN fun _ _ _ _ _ _ us hl => match us, hl with | [_, _], _ => rfl) (fun ds L q e h => by first | (obtain ⟨rfl, _⟩ := h; rfl) | (obtain ⟨_, rfl, _⟩ := h; rfl) | (obtain ⟨_, _, rfl, _⟩ := h; rfl) | (obtain ⟨_, _, _, rfl, _⟩ := h; rfl) | (obtain ⟨_, _, _, _, rfl, _⟩ := h; rfl) | (obtain ⟨_, _, _, _, _, rfl, _⟩ := h; rfl) | (obtain ⟨_, _, _, _, _, _, rfl, _⟩ := h; rfl) | (obtain ⟨_, _, _, _, _, _, _, rfl, _⟩ := h; rfl) | (obtain ⟨_, _, _, _, _, _, _, _, rfl, _⟩ := h; rfl) | (obtain ⟨_, _, _, _, _, _, _, _, _, rfl, _⟩ := h; rfl) | (obtain ⟨_, _, _, _, _, _, _, _, _, _, rfl, _⟩ := h; rfl) | (obtain ⟨_, _, _, _, _, _, _, _, _, _, _, rfl, _⟩ := h; rfl) | (obtain ⟨_, _, _, _, _, _, _, _, _, _, _, _, rfl, _⟩ := h; rfl) | (obtain ⟨_, _, _, _, _, _, _, _, _, _, _, _, _, rfl, _⟩ := h; rfl) | (obtain ⟨_, _, _, _, _, _, _, _, _, _, _, _, _, _, rfl, _⟩ := h; rfl) | (obtain ⟨_, _, _, _, _, _, _, _, _, _, _, _, _, _, _, rfl, _⟩ := h; rfl) | (obtain ⟨_, _, _, _, _, _, _, _, _, _, _, _, _, _, _, _, rfl, _⟩ := h; rfl) | (obtain ⟨_, _, _, _, _, _, _, _, _, _, _, _, _, _, _, _, _, rfl, _⟩ := h; rfl) | (obtain ⟨_, _, _, _, _, _, _, _, _, _, _, _, _, _, _, _, _, _, rfl, _⟩ := h; rfl) | (obtain ⟨_, _, _, _, _, _, _, _, _, _, _, _, _, _, _, _, _, _, _, rfl, _⟩ := h; rfl) | (obtain ⟨_, _, _, _, _, _, _, _, _, _, _, _, _, _, _, _, _, _, _, _, rfl, _⟩ := h; rfl) | (obtain ⟨_, _, _, _, _, _, _, _, _, _, _, _, _, _, _, _, _, _, _, _, _, rfl, _⟩ := h; rfl) | (obtain ⟨_, _, _, _, _, _, _, _, _, _, _, _, _, _, _, _, _, _, _, _, _, _, rfl, _⟩ := h; rfl) | (obtain ⟨_, _, _, _, _, _, _, _, _, _, _, _, _, _, _, _, _, _, _, _, _, _, _, rfl, _⟩ := h; rfl) | (obtain ⟨_, _, _, _, _, _, _, _, _, _, _, _, _, _, _, _, _, _, _, _, _, _, _, _, rfl, _⟩ := h; rfl) | (obtain ⟨_, _, _, _, _, _, _, _, _, _, _, _, _, _, _, _, _, _, _, _, _, _, _, _, _, rfl, _⟩ := h; rfl)) (fun X F0 ds L q e h1 h2 h3 h4 h5 cf hr hS => by subst h1 h2 h3 h4 h5; exact b_law_turned cf T hS)
  have C_give : Cal P w K mg base 2 "_law_give" (["coming", "cell", "fate", "tick", "births"] : List Str) S_law_give := cal_of (N := (["coming", "cell", "fate", "tick", "births", "delay", "turns"] : List Str)) (Nc := ([] : List Str)) D33 (g 23 _ rfl) ⟨rfl, rfl, rfl, by decide +kernel, rfl, by decide +kernel, by decide +kernel⟩ (by decide +kernel)
    (D33.bindsN fun _ _ _ _ _ _ us hl => match us, hl with | [_, _, _, _, _], _ => rfl) (fun ds L q e h => by first | (obtain ⟨rfl, _⟩ := h; rfl) | (obtain ⟨_, rfl, _⟩ := h; rfl) | (obtain ⟨_, _, rfl, _⟩ := h; rfl) | (obtain ⟨_, _, _, rfl, _⟩ := h; rfl) | (obtain ⟨_, _, _, _, rfl, _⟩ := h; rfl) | (obtain ⟨_, _, _, _, _, rfl, _⟩ := h; rfl) | (obtain ⟨_, _, _, _, _, _, rfl, _⟩ := h; rfl) | (obtain ⟨_, _, _, _, _, _, _, rfl, _⟩ := h; rfl) | (obtain ⟨_, _, _, _, _, _, _, _, rfl, _⟩ := h; rfl) | (obtain ⟨_, _, _, _, _, _, _, _, _, rfl, _⟩ := h; rfl) | (obtain ⟨_, _, _, _, _, _, _, _, _, _, rfl, _⟩ := h; rfl) | (obtain ⟨_, _, _, _, _, _, _, _, _, _, _, rfl, _⟩ := h; rfl) | (obtain ⟨_, _, _, _, _, _, _, _, _, _, _, _, rfl, _⟩ := h; rfl) | (obtain ⟨_, _, _, _, _, _, _, _, _, _, _, _, _, rfl, _⟩ := h; rfl) | (obtain ⟨_, _, _, _, _, _, _, _, _, _, _, _, _, _, rfl, _⟩ := h; rfl) | (obtain ⟨_, _, _, _, _, _, _, _, _, _, _, _, _, _, _, rfl, _⟩ := h; rfl) | (obtain ⟨_, _, _, _, _, _, _, _, _, _, _, _, _, _, _, _, rfl, _⟩ := h; rfl) | (obtain ⟨_, _, _, _, _, _, _, _, _, _, _, _, _, _, _, _, _, rfl, _⟩ := h; rfl) | (obtain ⟨_, _, _, _, _, _, _, _, _, _, _, _, _, _, _, _, _, _, rfl, _⟩ := h; rfl) | (obtain ⟨_, _, _, _, _, _, _, _, _, _, _, _, _, _, _, _, _, _, _, rfl, _⟩ := h; rfl) | (obtain ⟨_, _, _, _, _, _, _, _, _, _, _, _, _, _, _, _, _, _, _, _, rfl, _⟩ := h; rfl) | (obtain ⟨_, _, _, _, _, _, _, _, _, _, _, _, _, _, _, _, _, _, _, _, _, rfl, _⟩ := h; rfl) | (obtain ⟨_, _, _, _, _, _, _, _, _, _, _, _, _, _, _, _, _, _, _, _, _, _, rfl, _⟩ := h; rfl) | (obtain ⟨_, _, _, _, _, _, _, _, _, _, _, _, _, _, _, _, _, _, _, _, _, _, _, rfl, _⟩ := h; rfl) | (obtain ⟨_, _, _, _, _, _, _, _, _, _, _, _, _, _, _, _, _, _, _, _, _, _, _, _, rfl, _⟩ := h; rfl) | (obtain ⟨_, _, _, _, _, _, _, _, _, _, _, _, _, _, _, _, _, _, _, _, _, _, _, _, _, rfl, _⟩ := h; rfl)) (fun X F0 ds L q e h1 h2 h3 h4 h5 cf hr hS => by subst h1 h2 h3 h4 h5; exact b_law_give cf T hr C_turned hS)
  have C_fit : Cal P w K mg base 1 "is_fit" (["fate"] : List Str) S_is_fit := cal_of (N := (["fate"] : List Str)) (Nc := (["delay", "turns"] : List Str)) D34 (g 24 _ rfl) ⟨rfl, rfl, rfl, by decide +kernel, rfl, by decide +kernel, by decide +kernel⟩ (by decide +kernel)
    (D34.bindsN fun _ _ _ _ _ _ us hl => match us, hl with | [_], _ => rfl) (fun ds L q e h => by first | (obtain ⟨rfl, _⟩ := h; rfl) | (obtain ⟨_, rfl, _⟩ := h; rfl) | (obtain ⟨_, _, rfl, _⟩ := h; rfl) | (obtain ⟨_, _, _, rfl, _⟩ := h; rfl) | (obtain ⟨_, _, _, _, rfl, _⟩ := h; rfl) | (obtain ⟨_, _, _, _, _, rfl, _⟩ := h; rfl) | (obtain ⟨_, _, _, _, _, _, rfl, _⟩ := h; rfl) | (obtain ⟨_, _, _, _, _, _, _, rfl, _⟩ := h; rfl) | (obtain ⟨_, _, _, _, _, _, _, _, rfl, _⟩ := h; rfl) | (obtain ⟨_, _, _, _, _, _, _, _, _, rfl, _⟩ := h; rfl) | (obtain ⟨_, _, _, _, _, _, _, _, _, _, rfl, _⟩ := h; rfl) | (obtain ⟨_, _, _, _, _, _, _, _, _, _, _, rfl, _⟩ := h; rfl) | (obtain ⟨_, _, _, _, _, _, _, _, _, _, _, _, rfl, _⟩ := h; rfl) | (obtain ⟨_, _, _, _, _, _, _, _, _, _, _, _, _, rfl, _⟩ := h; rfl) | (obtain ⟨_, _, _, _, _, _, _, _, _, _, _, _, _, _, rfl, _⟩ := h; rfl) | (obtain ⟨_, _, _, _, _, _, _, _, _, _, _, _, _, _, _, rfl, _⟩ := h; rfl) | (obtain ⟨_, _, _, _, _, _, _, _, _, _, _, _, _, _, _, _, rfl, _⟩ := h; rfl) | (obtain ⟨_, _, _, _, _, _, _, _, _, _, _, _, _, _, _, _, _, rfl, _⟩ := h; rfl) | (obtain ⟨_, _, _, _, _, _, _, _, _, _, _, _, _, _, _, _, _, _, rfl, _⟩ := h; rfl) | (obtain ⟨_, _, _, _, _, _, _, _, _, _, _, _, _, _, _, _, _, _, _, rfl, _⟩ := h; rfl) | (obtain ⟨_, _, _, _, _, _, _, _, _, _, _, _, _, _, _, _, _, _, _, _, rfl, _⟩ := h; rfl) | (obtain ⟨_, _, _, _, _, _, _, _, _, _, _, _, _, _, _, _, _, _, _, _, _, rfl, _⟩ := h; rfl) | (obtain ⟨_, _, _, _, _, _, _, _, _, _, _, _, _, _, _, _, _, _, _, _, _, _, rfl, _⟩ := h; rfl) | (obtain ⟨_, _, _, _, _, _, _, _, _, _, _, _, _, _, _, _, _, _, _, _, _, _, _, rfl, _⟩ := h; rfl) | (obtain ⟨_, _, _, _, _, _, _, _, _, _, _, _, _, _, _, _, _, _, _, _, _, _, _, _, rfl, _⟩ := h; rfl) | (obtain ⟨_, _, _, _, _, _, _, _, _, _, _, _, _, _, _, _, _, _, _, _, _, _, _, _, _, rfl, _⟩ := h; rfl)) (fun X F0 ds L q e h1 h2 h3 h4 h5 cf hr hS => by subst h1 h2 h3 h4 h5; exact b_is_fit cf T hS)
  have C_breach : Cal P w K mg base 3 "breach" (["fates", "measure"] : List Str) (S_breach K) := cal_of (N := (["fates", "measure", "run", "place", "fate"] : List Str)) (Nc := ([] : List Str)) D35 (g 25 _ rfl) ⟨rfl, rfl, rfl, by decide +kernel, rfl, by decide +kernel, by decide +kernel⟩ (by decide +kernel)
    (D35.bindsN fun _ _ _ _ _ _ us hl => match us, hl with | [_, _], _ => rfl) (fun ds L q e h => by first | (obtain ⟨rfl, _⟩ := h; rfl) | (obtain ⟨_, rfl, _⟩ := h; rfl) | (obtain ⟨_, _, rfl, _⟩ := h; rfl) | (obtain ⟨_, _, _, rfl, _⟩ := h; rfl) | (obtain ⟨_, _, _, _, rfl, _⟩ := h; rfl) | (obtain ⟨_, _, _, _, _, rfl, _⟩ := h; rfl) | (obtain ⟨_, _, _, _, _, _, rfl, _⟩ := h; rfl) | (obtain ⟨_, _, _, _, _, _, _, rfl, _⟩ := h; rfl) | (obtain ⟨_, _, _, _, _, _, _, _, rfl, _⟩ := h; rfl) | (obtain ⟨_, _, _, _, _, _, _, _, _, rfl, _⟩ := h; rfl) | (obtain ⟨_, _, _, _, _, _, _, _, _, _, rfl, _⟩ := h; rfl) | (obtain ⟨_, _, _, _, _, _, _, _, _, _, _, rfl, _⟩ := h; rfl) | (obtain ⟨_, _, _, _, _, _, _, _, _, _, _, _, rfl, _⟩ := h; rfl) | (obtain ⟨_, _, _, _, _, _, _, _, _, _, _, _, _, rfl, _⟩ := h; rfl) | (obtain ⟨_, _, _, _, _, _, _, _, _, _, _, _, _, _, rfl, _⟩ := h; rfl) | (obtain ⟨_, _, _, _, _, _, _, _, _, _, _, _, _, _, _, rfl, _⟩ := h; rfl) | (obtain ⟨_, _, _, _, _, _, _, _, _, _, _, _, _, _, _, _, rfl, _⟩ := h; rfl) | (obtain ⟨_, _, _, _, _, _, _, _, _, _, _, _, _, _, _, _, _, rfl, _⟩ := h; rfl) | (obtain ⟨_, _, _, _, _, _, _, _, _, _, _, _, _, _, _, _, _, _, rfl, _⟩ := h; rfl) | (obtain ⟨_, _, _, _, _, _, _, _, _, _, _, _, _, _, _, _, _, _, _, rfl, _⟩ := h; rfl) | (obtain ⟨_, _, _, _, _, _, _, _, _, _, _, _, _, _, _, _, _, _, _, _, rfl, _⟩ := h; rfl) | (obtain ⟨_, _, _, _, _, _, _, _, _, _, _, _, _, _, _, _, _, _, _, _, _, rfl, _⟩ := h; rfl) | (obtain ⟨_, _, _, _, _, _, _, _, _, _, _, _, _, _, _, _, _, _, _, _, _, _, rfl, _⟩ := h; rfl) | (obtain ⟨_, _, _, _, _, _, _, _, _, _, _, _, _, _, _, _, _, _, _, _, _, _, _, rfl, _⟩ := h; rfl) | (obtain ⟨_, _, _, _, _, _, _, _, _, _, _, _, _, _, _, _, _, _, _, _, _, _, _, _, rfl, _⟩ := h; rfl) | (obtain ⟨_, _, _, _, _, _, _, _, _, _, _, _, _, _, _, _, _, _, _, _, _, _, _, _, _, rfl, _⟩ := h; rfl)) (fun X F0 ds L q e h1 h2 h3 h4 h5 cf hr hS => by subst h1 h2 h3 h4 h5; exact b_breach cf T hr C_measure C_fit hS)
  have C_keeps : Cal P w K mg base 4 "keeps" (["fates", "measure"] : List Str) S_keeps := cal_of (N := (["fates", "measure"] : List Str)) (Nc := ([] : List Str)) D36 (g 26 _ rfl) ⟨rfl, rfl, rfl, by decide +kernel, rfl, by decide +kernel, by decide +kernel⟩ (by decide +kernel)
    (D36.bindsN fun _ _ _ _ _ _ us hl => match us, hl with | [_, _], _ => rfl) (fun ds L q e h => by first | (obtain ⟨rfl, _⟩ := h; rfl) | (obtain ⟨_, rfl, _⟩ := h; rfl) | (obtain ⟨_, _, rfl, _⟩ := h; rfl) | (obtain ⟨_, _, _, rfl, _⟩ := h; rfl) | (obtain ⟨_, _, _, _, rfl, _⟩ := h; rfl) | (obtain ⟨_, _, _, _, _, rfl, _⟩ := h; rfl) | (obtain ⟨_, _, _, _, _, _, rfl, _⟩ := h; rfl) | (obtain ⟨_, _, _, _, _, _, _, rfl, _⟩ := h; rfl) | (obtain ⟨_, _, _, _, _, _, _, _, rfl, _⟩ := h; rfl) | (obtain ⟨_, _, _, _, _, _, _, _, _, rfl, _⟩ := h; rfl) | (obtain ⟨_, _, _, _, _, _, _, _, _, _, rfl, _⟩ := h; rfl) | (obtain ⟨_, _, _, _, _, _, _, _, _, _, _, rfl, _⟩ := h; rfl) | (obtain ⟨_, _, _, _, _, _, _, _, _, _, _, _, rfl, _⟩ := h; rfl) | (obtain ⟨_, _, _, _, _, _, _, _, _, _, _, _, _, rfl, _⟩ := h; rfl) | (obtain ⟨_, _, _, _, _, _, _, _, _, _, _, _, _, _, rfl, _⟩ := h; rfl) | (obtain ⟨_, _, _, _, _, _, _, _, _, _, _, _, _, _, _, rfl, _⟩ := h; rfl) | (obtain ⟨_, _, _, _, _, _, _, _, _, _, _, _, _, _, _, _, rfl, _⟩ := h; rfl) | (obtain ⟨_, _, _, _, _, _, _, _, _, _, _, _, _, _, _, _, _, rfl, _⟩ := h; rfl) | (obtain ⟨_, _, _, _, _, _, _, _, _, _, _, _, _, _, _, _, _, _, rfl, _⟩ := h; rfl) | (obtain ⟨_, _, _, _, _, _, _, _, _, _, _, _, _, _, _, _, _, _, _, rfl, _⟩ := h; rfl) | (obtain ⟨_, _, _, _, _, _, _, _, _, _, _, _, _, _, _, _, _, _, _, _, rfl, _⟩ := h; rfl) | (obtain ⟨_, _, _, _, _, _, _, _, _, _, _, _, _, _, _, _, _, _, _, _, _, rfl, _⟩ := h; rfl) | (obtain ⟨_, _, _, _, _, _, _, _, _, _, _, _, _, _, _, _, _, _, _, _, _, _, rfl, _⟩ := h; rfl) | (obtain ⟨_, _, _, _, _, _, _, _, _, _, _, _, _, _, _, _, _, _, _, _, _, _, _, rfl, _⟩ := h; rfl) | (obtain ⟨_, _, _, _, _, _, _, _, _, _, _, _, _, _, _, _, _, _, _, _, _, _, _, _, rfl, _⟩ := h; rfl) | (obtain ⟨_, _, _, _, _, _, _, _, _, _, _, _, _, _, _, _, _, _, _, _, _, _, _, _, _, rfl, _⟩ := h; rfl)) (fun X F0 ds L q e h1 h2 h3 h4 h5 cf hr hS => by subst h1 h2 h3 h4 h5; exact b_keeps cf T hr C_breach hS)
  have C_readable : Cal P w K mg base 6 "is_readable" (["cell"] : List Str) (S_is_readable K) := cal_of (N := (["cell"] : List Str)) (Nc := ([] : List Str)) D37 (g 27 _ rfl) ⟨rfl, rfl, rfl, by decide +kernel, rfl, by decide +kernel, by decide +kernel⟩ (by decide +kernel)
    (D37.bindsN fun _ _ _ _ _ _ us hl => match us, hl with | [_], _ => rfl) (fun ds L q e h => by first | (obtain ⟨rfl, _⟩ := h; rfl) | (obtain ⟨_, rfl, _⟩ := h; rfl) | (obtain ⟨_, _, rfl, _⟩ := h; rfl) | (obtain ⟨_, _, _, rfl, _⟩ := h; rfl) | (obtain ⟨_, _, _, _, rfl, _⟩ := h; rfl) | (obtain ⟨_, _, _, _, _, rfl, _⟩ := h; rfl) | (obtain ⟨_, _, _, _, _, _, rfl, _⟩ := h; rfl) | (obtain ⟨_, _, _, _, _, _, _, rfl, _⟩ := h; rfl) | (obtain ⟨_, _, _, _, _, _, _, _, rfl, _⟩ := h; rfl) | (obtain ⟨_, _, _, _, _, _, _, _, _, rfl, _⟩ := h; rfl) | (obtain ⟨_, _, _, _, _, _, _, _, _, _, rfl, _⟩ := h; rfl) | (obtain ⟨_, _, _, _, _, _, _, _, _, _, _, rfl, _⟩ := h; rfl) | (obtain ⟨_, _, _, _, _, _, _, _, _, _, _, _, rfl, _⟩ := h; rfl) | (obtain ⟨_, _, _, _, _, _, _, _, _, _, _, _, _, rfl, _⟩ := h; rfl) | (obtain ⟨_, _, _, _, _, _, _, _, _, _, _, _, _, _, rfl, _⟩ := h; rfl) | (obtain ⟨_, _, _, _, _, _, _, _, _, _, _, _, _, _, _, rfl, _⟩ := h; rfl) | (obtain ⟨_, _, _, _, _, _, _, _, _, _, _, _, _, _, _, _, rfl, _⟩ := h; rfl) | (obtain ⟨_, _, _, _, _, _, _, _, _, _, _, _, _, _, _, _, _, rfl, _⟩ := h; rfl) | (obtain ⟨_, _, _, _, _, _, _, _, _, _, _, _, _, _, _, _, _, _, rfl, _⟩ := h; rfl) | (obtain ⟨_, _, _, _, _, _, _, _, _, _, _, _, _, _, _, _, _, _, _, rfl, _⟩ := h; rfl) | (obtain ⟨_, _, _, _, _, _, _, _, _, _, _, _, _, _, _, _, _, _, _, _, rfl, _⟩ := h; rfl) | (obtain ⟨_, _, _, _, _, _, _, _, _, _, _, _, _, _, _, _, _, _, _, _, _, rfl, _⟩ := h; rfl) | (obtain ⟨_, _, _, _, _, _, _, _, _, _, _, _, _, _, _, _, _, _, _, _, _, _, rfl, _⟩ := h; rfl) | (obtain ⟨_, _, _, _, _, _, _, _, _, _, _, _, _, _, _, _, _, _, _, _, _, _, _, rfl, _⟩ := h; rfl) | (obtain ⟨_, _, _, _, _, _, _, _, _, _, _, _, _, _, _, _, _, _, _, _, _, _, _, _, rfl, _⟩ := h; rfl) | (obtain ⟨_, _, _, _, _, _, _, _, _, _, _, _, _, _, _, _, _, _, _, _, _, _, _, _, _, rfl, _⟩ := h; rfl)) (fun X F0 ds L q e h1 h2 h3 h4 h5 cf hr hS => by subst h1 h2 h3 h4 h5; exact b_is_readable cf T hr C_mended hS)
  have C_shown : Cal P w K mg base 7 "is_shown" (["came", "quiet", "first", "last"] : List Str) S_is_shown := cal_of (N := (["came", "quiet", "first", "last", "cells", "cell"] : List Str)) (Nc := ([] : List Str)) D38 (g 28 _ rfl) ⟨rfl, rfl, rfl, by decide +kernel, rfl, by decide +kernel, by decide +kernel⟩ (by decide +kernel)
    (D38.bindsN fun _ _ _ _ _ _ us hl => match us, hl with | [_, _, _, _], _ => rfl) (fun ds L q e h => by first | (obtain ⟨rfl, _⟩ := h; rfl) | (obtain ⟨_, rfl, _⟩ := h; rfl) | (obtain ⟨_, _, rfl, _⟩ := h; rfl) | (obtain ⟨_, _, _, rfl, _⟩ := h; rfl) | (obtain ⟨_, _, _, _, rfl, _⟩ := h; rfl) | (obtain ⟨_, _, _, _, _, rfl, _⟩ := h; rfl) | (obtain ⟨_, _, _, _, _, _, rfl, _⟩ := h; rfl) | (obtain ⟨_, _, _, _, _, _, _, rfl, _⟩ := h; rfl) | (obtain ⟨_, _, _, _, _, _, _, _, rfl, _⟩ := h; rfl) | (obtain ⟨_, _, _, _, _, _, _, _, _, rfl, _⟩ := h; rfl) | (obtain ⟨_, _, _, _, _, _, _, _, _, _, rfl, _⟩ := h; rfl) | (obtain ⟨_, _, _, _, _, _, _, _, _, _, _, rfl, _⟩ := h; rfl) | (obtain ⟨_, _, _, _, _, _, _, _, _, _, _, _, rfl, _⟩ := h; rfl) | (obtain ⟨_, _, _, _, _, _, _, _, _, _, _, _, _, rfl, _⟩ := h; rfl) | (obtain ⟨_, _, _, _, _, _, _, _, _, _, _, _, _, _, rfl, _⟩ := h; rfl) | (obtain ⟨_, _, _, _, _, _, _, _, _, _, _, _, _, _, _, rfl, _⟩ := h; rfl) | (obtain ⟨_, _, _, _, _, _, _, _, _, _, _, _, _, _, _, _, rfl, _⟩ := h; rfl) | (obtain ⟨_, _, _, _, _, _, _, _, _, _, _, _, _, _, _, _, _, rfl, _⟩ := h; rfl) | (obtain ⟨_, _, _, _, _, _, _, _, _, _, _, _, _, _, _, _, _, _, rfl, _⟩ := h; rfl) | (obtain ⟨_, _, _, _, _, _, _, _, _, _, _, _, _, _, _, _, _, _, _, rfl, _⟩ := h; rfl) | (obtain ⟨_, _, _, _, _, _, _, _, _, _, _, _, _, _, _, _, _, _, _, _, rfl, _⟩ := h; rfl) | (obtain ⟨_, _, _, _, _, _, _, _, _, _, _, _, _, _, _, _, _, _, _, _, _, rfl, _⟩ := h; rfl) | (obtain ⟨_, _, _, _, _, _, _, _, _, _, _, _, _, _, _, _, _, _, _, _, _, _, rfl, _⟩ := h; rfl) | (obtain ⟨_, _, _, _, _, _, _, _, _, _, _, _, _, _, _, _, _, _, _, _, _, _, _, rfl, _⟩ := h; rfl) | (obtain ⟨_, _, _, _, _, _, _, _, _, _, _, _, _, _, _, _, _, _, _, _, _, _, _, _, rfl, _⟩ := h; rfl) | (obtain ⟨_, _, _, _, _, _, _, _, _, _, _, _, _, _, _, _, _, _, _, _, _, _, _, _, _, rfl, _⟩ := h; rfl)) (fun X F0 ds L q e h1 h2 h3 h4 h5 cf hr hS => by subst h1 h2 h3 h4 h5; exact b_is_shown cf T hr C_readable hS)
  have C_broken : Cal P w K mg base 2 "broken_by" (["fates", "measure", "first", "last"] : List Str) S_broken_by := cal_of (N := (["fates", "measure", "first", "last", "late", "lost", "begin", "end"] : List Str)) (Nc := (["fate"] : List Str)) D39 (g 29 _ rfl) ⟨rfl, rfl, rfl, by decide +kernel, rfl, by decide +kernel, by decide +kernel⟩ (by decide +kernel)
    (D39.bindsN fun _ _ _ _ _ _ us hl => match us, hl with | [_, _, _, _], _ => rfl) (fun ds L q e h => by first | (obtain ⟨rfl, _⟩ := h; rfl) | (obtain ⟨_, rfl, _⟩ := h; rfl) | (obtain ⟨_, _, rfl, _⟩ := h; rfl) | (obtain ⟨_, _, _, rfl, _⟩ := h; rfl) | (obtain ⟨_, _, _, _, rfl, _⟩ := h; rfl) | (obtain ⟨_, _, _, _, _, rfl, _⟩ := h; rfl) | (obtain ⟨_, _, _, _, _, _, rfl, _⟩ := h; rfl) | (obtain ⟨_, _, _, _, _, _, _, rfl, _⟩ := h; rfl) | (obtain ⟨_, _, _, _, _, _, _, _, rfl, _⟩ := h; rfl) | (obtain ⟨_, _, _, _, _, _, _, _, _, rfl, _⟩ := h; rfl) | (obtain ⟨_, _, _, _, _, _, _, _, _, _, rfl, _⟩ := h; rfl) | (obtain ⟨_, _, _, _, _, _, _, _, _, _, _, rfl, _⟩ := h; rfl) | (obtain ⟨_, _, _, _, _, _, _, _, _, _, _, _, rfl, _⟩ := h; rfl) | (obtain ⟨_, _, _, _, _, _, _, _, _, _, _, _, _, rfl, _⟩ := h; rfl) | (obtain ⟨_, _, _, _, _, _, _, _, _, _, _, _, _, _, rfl, _⟩ := h; rfl) | (obtain ⟨_, _, _, _, _, _, _, _, _, _, _, _, _, _, _, rfl, _⟩ := h; rfl) | (obtain ⟨_, _, _, _, _, _, _, _, _, _, _, _, _, _, _, _, rfl, _⟩ := h; rfl) | (obtain ⟨_, _, _, _, _, _, _, _, _, _, _, _, _, _, _, _, _, rfl, _⟩ := h; rfl) | (obtain ⟨_, _, _, _, _, _, _, _, _, _, _, _, _, _, _, _, _, _, rfl, _⟩ := h; rfl) | (obtain ⟨_, _, _, _, _, _, _, _, _, _, _, _, _, _, _, _, _, _, _, rfl, _⟩ := h; rfl) | (obtain ⟨_, _, _, _, _, _, _, _, _, _, _, _, _, _, _, _, _, _, _, _, rfl, _⟩ := h; rfl) | (obtain ⟨_, _, _, _, _, _, _, _, _, _, _, _, _, _, _, _, _, _, _, _, _, rfl, _⟩ := h; rfl) | (obtain ⟨_, _, _, _, _, _, _, _, _, _, _, _, _, _, _, _, _, _, _, _, _, _, rfl, _⟩ := h; rfl) | (obtain ⟨_, _, _, _, _, _, _, _, _, _, _, _, _, _, _, _, _, _, _, _, _, _, _, rfl, _⟩ := h; rfl) | (obtain ⟨_, _, _, _, _, _, _, _, _, _, _, _, _, _, _, _, _, _, _, _, _, _, _, _, rfl, _⟩ := h; rfl) | (obtain ⟨_, _, _, _, _, _, _, _, _, _, _, _, _, _, _, _, _, _, _, _, _, _, _, _, _, rfl, _⟩ := h; rfl)) (fun X F0 ds L q e h1 h2 h3 h4 h5 cf hr hS => by subst h1 h2 h3 h4 h5; exact b_broken_by cf T hr C_fit hS)
  have C_dead : Cal P w K mg base 1 "_law_dead" (["numbers", "side", "tick"] : List Str) S_law_dead := cal_of (N := (["numbers", "side", "tick", "begin"] : List Str)) (Nc := ([] : List Str)) D40 (g 30 _ rfl) ⟨rfl, rfl, rfl, by decide +kernel, rfl, by decide +kernel, by decide +kernel⟩ (by decide +kernel)
    (D40.bindsN fun _ _ _ _ _ _ us hl => match us, hl with | [_, _, _], _ => rfl) (fun ds L q e h => by first | (obtain ⟨rfl, _⟩ := h; rfl) | (obtain ⟨_, rfl, _⟩ := h; rfl) | (obtain ⟨_, _, rfl, _⟩ := h; rfl) | (obtain ⟨_, _, _, rfl, _⟩ := h; rfl) | (obtain ⟨_, _, _, _, rfl, _⟩ := h; rfl) | (obtain ⟨_, _, _, _, _, rfl, _⟩ := h; rfl) | (obtain ⟨_, _, _, _, _, _, rfl, _⟩ := h; rfl) | (obtain ⟨_, _, _, _, _, _, _, rfl, _⟩ := h; rfl) | (obtain ⟨_, _, _, _, _, _, _, _, rfl, _⟩ := h; rfl) | (obtain ⟨_, _, _, _, _, _, _, _, _, rfl, _⟩ := h; rfl) | (obtain ⟨_, _, _, _, _, _, _, _, _, _, rfl, _⟩ := h; rfl) | (obtain ⟨_, _, _, _, _, _, _, _, _, _, _, rfl, _⟩ := h; rfl) | (obtain ⟨_, _, _, _, _, _, _, _, _, _, _, _, rfl, _⟩ := h; rfl) | (obtain ⟨_, _, _, _, _, _, _, _, _, _, _, _, _, rfl, _⟩ := h; rfl) | (obtain ⟨_, _, _, _, _, _, _, _, _, _, _, _, _, _, rfl, _⟩ := h; rfl) | (obtain ⟨_, _, _, _, _, _, _, _, _, _, _, _, _, _, _, rfl, _⟩ := h; rfl) | (obtain ⟨_, _, _, _, _, _, _, _, _, _, _, _, _, _, _, _, rfl, _⟩ := h; rfl) | (obtain ⟨_, _, _, _, _, _, _, _, _, _, _, _, _, _, _, _, _, rfl, _⟩ := h; rfl) | (obtain ⟨_, _, _, _, _, _, _, _, _, _, _, _, _, _, _, _, _, _, rfl, _⟩ := h; rfl) | (obtain ⟨_, _, _, _, _, _, _, _, _, _, _, _, _, _, _, _, _, _, _, rfl, _⟩ := h; rfl) | (obtain ⟨_, _, _, _, _, _, _, _, _, _, _, _, _, _, _, _, _, _, _, _, rfl, _⟩ := h; rfl) | (obtain ⟨_, _, _, _, _, _, _, _, _, _, _, _, _, _, _, _, _, _, _, _, _, rfl, _⟩ := h; rfl) | (obtain ⟨_, _, _, _, _, _, _, _, _, _, _, _, _, _, _, _, _, _, _, _, _, _, rfl, _⟩ := h; rfl) | (obtain ⟨_, _, _, _, _, _, _, _, _, _, _, _, _, _, _, _, _, _, _, _, _, _, _, rfl, _⟩ := h; rfl) | (obtain ⟨_, _, _, _, _, _, _, _, _, _, _, _, _, _, _, _, _, _, _, _, _, _, _, _, rfl, _⟩ := h; rfl) | (obtain ⟨_, _, _, _, _, _, _, _, _, _, _, _, _, _, _, _, _, _, _, _, _, _, _, _, _, rfl, _⟩ := h; rfl)) (fun X F0 ds L q e h1 h2 h3 h4 h5 cf hr hS => by subst h1 h2 h3 h4 h5; exact b_law_dead cf T hS)
  have C_kept : Cal P w K mg base 1 "_law_kept" (["fate", "fates", "measure", "number"] : List Str) S_law_kept := cal_of (N := (["fate", "fates", "measure", "number", "behind", "one"] : List Str)) (Nc := (["delay", "turns"] : List Str)) D41 (g 31 _ rfl) ⟨rfl, rfl, rfl, by decide +kernel, rfl, by decide +kernel, by decide +kernel⟩ (by decide +kernel)
    (D41.bindsN fun _ _ _ _ _ _ us hl => match us, hl with | [_, _, _, _], _ => rfl) (fun ds L q e h => by first | (obtain ⟨rfl, _⟩ := h; rfl) | (obtain ⟨_, rfl, _⟩ := h; rfl) | (obtain ⟨_, _, rfl, _⟩ := h; rfl) | (obtain ⟨_, _, _, rfl, _⟩ := h; rfl) | (obtain ⟨_, _, _, _, rfl, _⟩ := h; rfl) | (obtain ⟨_, _, _, _, _, rfl, _⟩ := h; rfl) | (obtain ⟨_, _, _, _, _, _, rfl, _⟩ := h; rfl) | (obtain ⟨_, _, _, _, _, _, _, rfl, _⟩ := h; rfl) | (obtain ⟨_, _, _, _, _, _, _, _, rfl, _⟩ := h; rfl) | (obtain ⟨_, _, _, _, _, _, _, _, _, rfl, _⟩ := h; rfl) | (obtain ⟨_, _, _, _, _, _, _, _, _, _, rfl, _⟩ := h; rfl) | (obtain ⟨_, _, _, _, _, _, _, _, _, _, _, rfl, _⟩ := h; rfl) | (obtain ⟨_, _, _, _, _, _, _, _, _, _, _, _, rfl, _⟩ := h; rfl) | (obtain ⟨_, _, _, _, _, _, _, _, _, _, _, _, _, rfl, _⟩ := h; rfl) | (obtain ⟨_, _, _, _, _, _, _, _, _, _, _, _, _, _, rfl, _⟩ := h; rfl) | (obtain ⟨_, _, _, _, _, _, _, _, _, _, _, _, _, _, _, rfl, _⟩ := h; rfl) | (obtain ⟨_, _, _, _, _, _, _, _, _, _, _, _, _, _, _, _, rfl, _⟩ := h; rfl) | (obtain ⟨_, _, _, _, _, _, _, _, _, _, _, _, _, _, _, _, _, rfl, _⟩ := h; rfl) | (obtain ⟨_, _, _, _, _, _, _, _, _, _, _, _, _, _, _, _, _, _, rfl, _⟩ := h; rfl) | (obtain ⟨_, _, _, _, _, _, _, _, _, _, _, _, _, _, _, _, _, _, _, rfl, _⟩ := h; rfl) | (obtain ⟨_, _, _, _, _, _, _, _, _, _, _, _, _, _, _, _, _, _, _, _, rfl, _⟩ := h; rfl) | (obtain ⟨_, _, _, _, _, _, _, _, _, _, _, _, _, _, _, _, _, _, _, _, _, rfl, _⟩ := h; rfl) | (obtain ⟨_, _, _, _, _, _, _, _, _, _, _, _, _, _, _, _, _, _, _, _, _, _, rfl, _⟩ := h; rfl) | (obtain ⟨_, _, _, _, _, _, _, _, _, _, _, _, _, _, _, _, _, _, _, _, _, _, _, rfl, _⟩ := h; rfl) | (obtain ⟨_, _, _, _, _, _, _, _, _, _, _, _, _, _, _, _, _, _, _, _, _, _, _, _, rfl, _⟩ := h; rfl) | (obtain ⟨_, _, _, _, _, _, _, _, _, _, _, _, _, _, _, _, _, _, _, _, _, _, _, _, _, rfl, _⟩ := h; rfl)) (fun X F0 ds L q e h1 h2 h3 h4 h5 cf hr hS => by subst h1 h2 h3 h4 h5; exact b_law_kept cf T hS)
  have C_sright : Cal P w K mg base 8 "_law_silent_right" (["event", "pair", "tick", "came", "fates", "measure"] : List Str) S_law_silent_right := cal_of (N := (["event", "pair", "tick", "came", "fates", "measure", "first", "last", "quiet"] : List Str)) (Nc := ([] : List Str)) D42 (g 32 _ rfl) ⟨rfl, rfl, rfl, by decide +kernel, rfl, by decide +kernel, by decide +kernel⟩ (by decide +kernel)
    (D42.bindsN fun _ _ _ _ _ _ us hl => match us, hl with | [_, _, _, _, _, _], _ => rfl) (fun ds L q e h => by first | (obtain ⟨rfl, _⟩ := h; rfl) | (obtain ⟨_, rfl, _⟩ := h; rfl) | (obtain ⟨_, _, rfl, _⟩ := h; rfl) | (obtain ⟨_, _, _, rfl, _⟩ := h; rfl) | (obtain ⟨_, _, _, _, rfl, _⟩ := h; rfl) | (obtain ⟨_, _, _, _, _, rfl, _⟩ := h; rfl) | (obtain ⟨_, _, _, _, _, _, rfl, _⟩ := h; rfl) | (obtain ⟨_, _, _, _, _, _, _, rfl, _⟩ := h; rfl) | (obtain ⟨_, _, _, _, _, _, _, _, rfl, _⟩ := h; rfl) | (obtain ⟨_, _, _, _, _, _, _, _, _, rfl, _⟩ := h; rfl) | (obtain ⟨_, _, _, _, _, _, _, _, _, _, rfl, _⟩ := h; rfl) | (obtain ⟨_, _, _, _, _, _, _, _, _, _, _, rfl, _⟩ := h; rfl) | (obtain ⟨_, _, _, _, _, _, _, _, _, _, _, _, rfl, _⟩ := h; rfl) | (obtain ⟨_, _, _, _, _, _, _, _, _, _, _, _, _, rfl, _⟩ := h; rfl) | (obtain ⟨_, _, _, _, _, _, _, _, _, _, _, _, _, _, rfl, _⟩ := h; rfl) | (obtain ⟨_, _, _, _, _, _, _, _, _, _, _, _, _, _, _, rfl, _⟩ := h; rfl) | (obtain ⟨_, _, _, _, _, _, _, _, _, _, _, _, _, _, _, _, rfl, _⟩ := h; rfl) | (obtain ⟨_, _, _, _, _, _, _, _, _, _, _, _, _, _, _, _, _, rfl, _⟩ := h; rfl) | (obtain ⟨_, _, _, _, _, _, _, _, _, _, _, _, _, _, _, _, _, _, rfl, _⟩ := h; rfl) | (obtain ⟨_, _, _, _, _, _, _, _, _, _, _, _, _, _, _, _, _, _, _, rfl, _⟩ := h; rfl) | (obtain ⟨_, _, _, _, _, _, _, _, _, _, _, _, _, _, _, _, _, _, _, _, rfl, _⟩ := h; rfl) | (obtain ⟨_, _, _, _, _, _, _, _, _, _, _, _, _, _, _, _, _, _, _, _, _, rfl, _⟩ := h; rfl) | (obtain ⟨_, _, _, _, _, _, _, _, _, _, _, _, _, _, _, _, _, _, _, _, _, _, rfl, _⟩ := h; rfl) | (obtain ⟨_, _, _, _, _, _, _, _, _, _, _, _, _, _, _, _, _, _, _, _, _, _, _, rfl, _⟩ := h; rfl) | (obtain ⟨_, _, _, _, _, _, _, _, _, _, _, _, _, _, _, _, _, _, _, _, _, _, _, _, rfl, _⟩ := h; rfl) | (obtain ⟨_, _, _, _, _, _, _, _, _, _, _, _, _, _, _, _, _, _, _, _, _, _, _, _, _, rfl, _⟩ := h; rfl)) (fun X F0 ds L q e h1 h2 h3 h4 h5 cf hr hS => by subst h1 h2 h3 h4 h5; exact b_law_silent_right cf T hr C_shown C_broken hS)
  have C_eright : Cal P w K mg base 9 "_law_events_right" (["events", "side", "pairs", "silent", "tick", "came", "fates", "measure"] : List Str) S_law_events_right := cal_of (N := (["events", "side", "pairs", "silent", "tick", "came", "fates", "measure", "event"] : List Str)) (Nc := ([] : List Str)) D43 (g 33 _ rfl) ⟨rfl, rfl, rfl, by decide +kernel, rfl, by decide +kernel, by decide +kernel⟩ (by decide +kernel)
    (D43.bindsN fun _ _ _ _ _ _ us hl => match us, hl with | [_, _, _, _, _, _, _, _], _ => rfl) (fun ds L q e h => by first | (obtain ⟨rfl, _⟩ := h; rfl) | (obtain ⟨_, rfl, _⟩ := h; rfl) | (obtain ⟨_, _, rfl, _⟩ := h; rfl) | (obtain ⟨_, _, _, rfl, _⟩ := h; rfl) | (obtain ⟨_, _, _, _, rfl, _⟩ := h; rfl) | (obtain ⟨_, _, _, _, _, rfl, _⟩ := h; rfl) | (obtain ⟨_, _, _, _, _, _, rfl, _⟩ := h; rfl) | (obtain ⟨_, _, _, _, _, _, _, rfl, _⟩ := h; rfl) | (obtain ⟨_, _, _, _, _, _, _, _, rfl, _⟩ := h; rfl) | (obtain ⟨_, _, _, _, _, _, _, _, _, rfl, _⟩ := h; rfl) | (obtain ⟨_, _, _, _, _, _, _, _, _, _, rfl, _⟩ := h; rfl) | (obtain ⟨_, _, _, _, _, _, _, _, _, _, _, rfl, _⟩ := h; rfl) | (obtain ⟨_, _, _, _, _, _, _, _, _, _, _, _, rfl, _⟩ := h; rfl) | (obtain ⟨_, _, _, _, _, _, _, _, _, _, _, _, _, rfl, _⟩ := h; rfl) | (obtain ⟨_, _, _, _, _, _, _, _, _, _, _, _, _, _, rfl, _⟩ := h; rfl) | (obtain ⟨_, _, _, _, _, _, _, _, _, _, _, _, _, _, _, rfl, _⟩ := h; rfl) | (obtain ⟨_, _, _, _, _, _, _, _, _, _, _, _, _, _, _, _, rfl, _⟩ := h; rfl) | (obtain ⟨_, _, _, _, _, _, _, _, _, _, _, _, _, _, _, _, _, rfl, _⟩ := h; rfl) | (obtain ⟨_, _, _, _, _, _, _, _, _, _, _, _, _, _, _, _, _, _, rfl, _⟩ := h; rfl) | (obtain ⟨_, _, _, _, _, _, _, _, _, _, _, _, _, _, _, _, _, _, _, rfl, _⟩ := h; rfl) | (obtain ⟨_, _, _, _, _, _, _, _, _, _, _, _, _, _, _, _, _, _, _, _, rfl, _⟩ := h; rfl) | (obtain ⟨_, _, _, _, _, _, _, _, _, _, _, _, _, _, _, _, _, _, _, _, _, rfl, _⟩ := h; rfl) | (obtain ⟨_, _, _, _, _, _, _, _, _, _, _, _, _, _, _, _, _, _, _, _, _, _, rfl, _⟩ := h; rfl) | (obtain ⟨_, _, _, _, _, _, _, _, _, _, _, _, _, _, _, _, _, _, _, _, _, _, _, rfl, _⟩ := h; rfl) | (obtain ⟨_, _, _, _, _, _, _, _, _, _, _, _, _, _, _, _, _, _, _, _, _, _, _, _, rfl, _⟩ := h; rfl) | (obtain ⟨_, _, _, _, _, _, _, _, _, _, _, _, _, _, _, _, _, _, _, _, _, _, _, _, _, rfl, _⟩ := h; rfl)) (fun X F0 ds L q e h1 h2 h3 h4 h5 cf hr hS => by subst h1 h2 h3 h4 h5; exact b_law_events_right cf T hr C_sright hS)
  exact fn_ok (N := (["script", "numbers", "measure", "quiet", "ticks", "ends", "pairs", "came", "fates", "silent", "coming", "tick", "cell", "drawn", "side", "given", "fate"] : List Str)) (Nc := (["k", "row"] : List Str)) D44 ⟨rfl, rfl, rfl, by decide +kernel, rfl, by decide +kernel, by decide +kernel⟩ (by decide +kernel) (fun ds L q e h => by obtain ⟨_, rfl, _⟩ := h; rfl) (fun X F0 ds L q e h1 h2 h3 h4 h5 cf hr hS => by subst h1 h2 h3 h4 h5; exact b_law cf T hr C_numbers C_lmeasure C_lcell C_lfate C_give C_dead C_kept C_eright C_shown C_keeps C_link C_tick C_events hS)
end K34
open PySem PySem.W PySem.Calls PyProof.Rows
theorem PySem.Challenge.cw_stormpost_k34_whole_silence_is_a_breach_holds : PySem.Challenge.rw_stormpost_k34_whole_silence_is_a_breach.Holds := by
  w_on; o_law
  refine HandSHeadRun.head_any (r := OpenLaw.row PySem.Challenge.rw_stormpost_k34_whole_silence_is_a_breach) (q := view (OpenLaw.row PySem.Challenge.rw_stormpost_k34_whole_silence_is_a_breach).prog [61]) (H := K34.hk) (ob := K34.ob) (M := 8000) (loose := K34.loose) (d := HandSHeadRun.topDef (OpenLaw.row PySem.Challenge.rw_stormpost_k34_whole_silence_is_a_breach).prog 61) (kwd := []) K34.ob_eq
    (by kernel_rfl) (fun s => by kernel_rfl) K34.run (by kernel_rfl) (by kernel_rfl) (by kernel_rfl) (by rfl) (by first | assumption | decide +kernel) (by decide +kernel) ⟨rfl, rfl, rfl, rfl, rfl, by decide +kernel⟩ ?hw ?hc
  case hw => w_witness2
  case hc =>
    refine Vs.walk_ofV (l := PySem.Challenge.rw_stormpost_k34_whole_silence_is_a_breach) (n := 63) (k := 10) (x := "script") (CX := fun w => L2.CX PySem.Challenge.rw_stormpost_k34_whole_silence_is_a_breach.prog w) rfl (by decide) (by kernel_rfl) ⟨rfl, by decide, by decide⟩ ?F (fun w H s e s' h => Vs.noCX H s e s' h)
    intro w mg fa h Y G hmg0
    obtain ⟨K, KX, c⟩ := Y
    have hmg : mg ("law" : PySem.Str) = some (.ref fa) := by
      have e : (HandSHeadRun.topDef (OpenLaw.row PySem.Challenge.rw_stormpost_k34_whole_silence_is_a_breach).prog 61).name = ("law" : PySem.Str) := by kernel_rfl
      rw [← e]
      exact hmg0
    obtain ⟨fd, hb, hF⟩ := K34.facts (P := PySem.Challenge.rw_stormpost_k34_whole_silence_is_a_breach.prog) (w := w) KX G hmg c
    exact ⟨K, fd, Vs.spOf K (K34.S_law K), KX, hb, fun H a ns hl hO hS => Vs.law_sp (S := (K34.S_law K)) (fun ns hn q e hq => ⟨ns, rfl, hn, hq⟩) H a ns hl hO hS, hF⟩


