import PyProof.Rows.All
import Wide.All
import OpenK.AllK
import Wide.FinOn
import HandS.ForMost
import HandS.ForExc
import HandS.Wide
import HandS.IsInst
import HandS.ExcIs
import HandS.Conv
import HandS.HeadHook1
import HandS.Defaults
import HandS.Zip
import HandS.Rev
import HandS.TupLe
import HandS.TupAny
import HandS.TupMul
import HandS.Deep
import HandS.Sort
import HandS.Dict
import HandS.Iter
import HandS.WordsDict
import HandS.Style
import HandS.Head0
import HandS.Head1
import HandS.Head2
import HandS.HeadEnd
import HandS.HeadHook2
import PySem.Challenge.RW_stormpost_k21_whole_quiet_ticks
set_option Elab.async false
set_option linter.all false
set_option maxRecDepth 100000
set_option maxHeartbeats 4000000
/-! A layer of my own over the hand layer: expressions and statements read on plain data (D), with a ledger of the objects that change. -/
namespace Vs
open PySem PySem.Spec PyProof.Rows L2

/-- plain data: lists and tuples that nobody changes any more by what they hold; ref: an object by its address -/
inductive D where
  | non | bl (b : Bool) | int (i : Int) | str (x : Str) | lst (ds : List D) | tup (ds : List D) | ref (a : Addr) | ty (n : String) | rng (lo hi : Int)
/-- what stands in the ledger: an object that may be changed -/
inductive C where
  | lst (ds : List D) | obj (c : Addr) (fs : List (Str × D)) | dic (kvs : List (Key × D)) | dit (kvs : List (List Key × D))
abbrev Gm := List (Option D)
abbrev Lg := List (Addr × C)
abbrev dI (xs : List Int) : List D := xs.map D.int

mutual
inductive Rep (K : PySem.W.Frag) (F : Hp) : D → V → Prop
  | non : Rep K F .non .non
  | bl {b : Bool} : Rep K F (.bl b) (.bl b)
  | int {i : Int} : Rep K F (.int i) (.int i)
  | str {x : Str} : Rep K F (.str x) (.str x)
  | lst {ds : List D} {a : Addr} {xs : List V} : SqL K F a xs → Reps K F ds xs → Rep K F (.lst ds) (.ref a)
  | tup {ds : List D} {a : Addr} {xs : List V} : SqT K F a xs → Reps K F ds xs → Rep K F (.tup ds) (.ref a)
  | ref {a : Addr} : Rep K F (.ref a) (.ref a)
  | ty {n : String} : Rep K F (.ty n) (.ty n)
  | rng {lo hi : Int} {a : Addr} : F a = some (.rng lo hi) → Rep K F (.rng lo hi) (.ref a)
inductive Reps (K : PySem.W.Frag) (F : Hp) : List D → List V → Prop
  | nil : Reps K F [] []
  | cons {d : D} {v : V} {ds : List D} {vs : List V} : Rep K F d v → Reps K F ds vs → Reps K F (d :: ds) (v :: vs)
end
section
variable {K : PySem.W.Frag} {F F' : Hp}
theorem seqT (e : Same F F') {a : Addr} {xs : List V} (h : SqT K F a xs) : SqT K F' a xs := by
  rcases h with (h | ⟨o, h⟩) | h
  · exact .inl (.inl (e _ _ h))
  · exact .inl (.inr ⟨o, e _ _ h⟩)
  · exact .inr h
mutual
theorem Rep.mono (s : Same F F') : ∀ {d : D} {v : V}, Rep K F d v → Rep K F' d v
  | _, _, .non => .non
  | _, _, .bl => .bl
  | _, _, .int => .int
  | _, _, .str => .str
  | _, _, .lst h r => .lst (s.seq h) (Reps.mono s r)
  | _, _, .tup h r => .tup (seqT s h) (Reps.mono s r)
  | _, _, .ref => .ref
  | _, _, .ty => .ty
  | _, _, .rng h => .rng (s _ _ h)
theorem Reps.mono (s : Same F F') : ∀ {ds : List D} {vs : List V}, Reps K F ds vs → Reps K F' ds vs
  | _, _, .nil => .nil
  | _, _, .cons r t => .cons (Rep.mono s r) (Reps.mono s t)
end
theorem Reps.length : ∀ {ds : List D} {vs : List V}, Reps K F ds vs → ds.length = vs.length
  | _, _, .nil => rfl
  | _, _, .cons _ t => by rw [List.length_cons, List.length_cons, Reps.length t]
theorem Reps.append : ∀ {ds es : List D} {vs us : List V}, Reps K F ds vs → Reps K F es us → Reps K F (ds ++ es) (vs ++ us)
  | _, _, _, _, .nil, s => s
  | _, _, _, _, .cons r t, s => .cons r (Reps.append t s)
theorem Reps.get : ∀ {ds : List D} {vs : List V} {i : Nat} {d : D}, Reps K F ds vs → ds[i]? = some d → ∃ v, vs[i]? = some v ∧ Rep K F d v
  | _, _, _, _, .nil, e => by simp at e
  | _, _, 0, _, .cons r _, e => by simp at e; subst e; exact ⟨_, rfl, r⟩
  | _, _, i + 1, d, .cons _ t, e => by
    obtain ⟨u, h1, h2⟩ := Reps.get (i := i) (d := d) t (by simpa using e)
    exact ⟨u, by simpa using h1, h2⟩
theorem Reps.got : ∀ {ds : List D} {vs : List V} {i : Nat} {v : V}, Reps K F ds vs → vs[i]? = some v → ∃ d, ds[i]? = some d ∧ Rep K F d v
  | _, _, _, _, .nil, e => by simp at e
  | _, _, 0, _, .cons r _, e => by simp at e; subst e; exact ⟨_, rfl, r⟩
  | _, _, i + 1, v, .cons _ t, e => by
    obtain ⟨u, h1, h2⟩ := Reps.got (i := i) (v := v) t (by simpa using e)
    exact ⟨u, by simpa using h1, h2⟩
theorem Reps.set {x : D} {u : V} (r : Rep K F x u) : ∀ {ds : List D} {vs : List V} (i : Nat), Reps K F ds vs → Reps K F (ds.set i x) (vs.set i u)
  | _, _, _, .nil => .nil
  | _, _, 0, .cons _ t => .cons r t
  | _, _, i + 1, .cons q t => .cons q (Reps.set r i t)
theorem Reps.take : ∀ {ds : List D} {vs : List V} (n : Nat), Reps K F ds vs → Reps K F (ds.take n) (vs.take n)
  | _, _, 0, _ => .nil
  | _, _, _ + 1, .nil => .nil
  | _, _, n + 1, .cons r t => .cons r (Reps.take n t)
theorem Reps.drop : ∀ {ds : List D} {vs : List V} (n : Nat), Reps K F ds vs → Reps K F (ds.drop n) (vs.drop n)
  | _, _, 0, r => r
  | _, _, _ + 1, .nil => .nil
  | _, _, n + 1, .cons r t => Reps.drop n t
theorem Reps.rev : ∀ {ds : List D} {vs : List V}, Reps K F ds vs → Reps K F ds.reverse vs.reverse
  | _, _, .nil => .nil
  | _, _, .cons r t => by
    rw [List.reverse_cons, List.reverse_cons]
    exact Reps.append (Reps.rev t) (.cons r .nil)
theorem reps_il : ∀ {xs : List Int}, Reps K F (dI xs) (xs.map V.int)
  | [] => .nil
  | _ :: _ => .cons .int reps_il
theorem il_reps : ∀ {xs : List Int} {vs : List V}, Reps K F (dI xs) vs → vs = xs.map V.int
  | [], _, .nil => rfl
  | x :: xs, _, .cons r t => by
    cases r
    rw [il_reps t]
    rfl
theorem bls_reps : ∀ {xs : List Bool} {vs : List V}, Reps K F (xs.map D.bl) vs → vs = xs.map V.bl
  | [], _, .nil => rfl
  | x :: xs, _, .cons r t => by
    cases r
    rw [bls_reps t]
    rfl
theorem strs_reps : ∀ {xs : List Str} {vs : List V}, Reps K F (xs.map D.str) vs → vs = xs.map V.str
  | [], _, .nil => rfl
  | x :: xs, _, .cons r t => by
    cases r
    rw [strs_reps t]
    rfl
end

/-- pairs of a key and a datum -/
inductive RepP (K : PySem.W.Frag) (F : Hp) {κ : Type} : List (κ × D) → List (κ × V) → Prop
  | nil : RepP K F [] []
  | cons {k : κ} {d : D} {v : V} {ds : List (κ × D)} {vs : List (κ × V)} : Rep K F d v → RepP K F ds vs → RepP K F ((k, d) :: ds) ((k, v) :: vs)
theorem RepP.mono {K : PySem.W.Frag} {F F' : Hp} {κ : Type} (s : Same F F') : ∀ {ds : List (κ × D)} {vs : List (κ × V)}, RepP K F ds vs → RepP K F' ds vs
  | _, _, .nil => .nil
  | _, _, .cons r t => .cons (r.mono s) (RepP.mono s t)
/-- an object of the ledger, as H tracks it -/
def CRep (K : PySem.W.Frag) (F H : Hp) (a : Addr) : C → Prop
  | .lst ds => ∃ xs, H a = some (.lst xs) ∧ Reps K F ds xs
  | .obj c fs => ∃ dx ps, H a = some (.ins c dx ps) ∧ RepP K F fs ps
  | .dic kvs => ∃ ps, H a = some (.dK ps) ∧ RepP K F kvs ps
  | .dit kvs => ∃ ps, H a = some (.dT ps) ∧ RepP K F kvs ps
theorem CRep.mono {K : PySem.W.Frag} {F F' H H' : Hp} {a : Addr} {c : C} (s : Same F F') (e : H' a = H a) (h : CRep K F H a c) : CRep K F' H' a c := by
  cases c with
  | lst ds => obtain ⟨xs, h1, h2⟩ := h; exact ⟨xs, e.trans h1, h2.mono s⟩
  | obj c fs => obtain ⟨dx, ps, h1, h2⟩ := h; exact ⟨dx, ps, e.trans h1, h2.mono s⟩
  | dic kvs => obtain ⟨ps, h1, h2⟩ := h; exact ⟨ps, e.trans h1, h2.mono s⟩
  | dit kvs => obtain ⟨ps, h1, h2⟩ := h; exact ⟨ps, e.trans h1, h2.mono s⟩
theorem CRep.there {K : PySem.W.Frag} {F H : Hp} {a : Addr} {c : C} (h : CRep K F H a c) : ∃ o, H a = some o := by
  cases c with
  | lst ds => obtain ⟨xs, h1, _⟩ := h; exact ⟨_, h1⟩
  | obj c fs => obtain ⟨dx, vs, h1, _⟩ := h; exact ⟨_, h1⟩
  | dic kvs => obtain ⟨vs, h1, _⟩ := h; exact ⟨_, h1⟩
  | dit kvs => obtain ⟨vs, h1, _⟩ := h; exact ⟨_, h1⟩

/-- F: what stands still; L: what may be changed; both in H -/
structure Led (K : PySem.W.Frag) (F : Hp) (L : Lg) (H : Hp) : Prop where
  sub : Same F H
  nod : (L.map (·.1)).Nodup
  ent : ∀ p ∈ L, F p.1 = none ∧ CRep K F H p.1 p.2
theorem same_new {H : Hp} {q : Addr} {o : HO} (h : H q = none) : Same H (upd H q o) := fun b u e => by
  rw [upd_ne (ne_of_none e h)]
  exact e
section
variable {K : PySem.W.Frag} {F F' : Hp} {L : Lg} {H : Hp} {q : Addr}
theorem Led.free (e : Led K F L H) (h : H q = none) : F q = none := e.sub.free h
theorem Led.nofr (e : Led K F L H) (h : H q = none) : ∀ p ∈ L, p.1 ≠ q := fun p hp z => by
  obtain ⟨o, ho⟩ := (e.ent p hp).2.there
  rw [z, h] at ho
  cases ho
/-- a new object that stands still -/
theorem Led.new {o : HO} (e : Led K F L H) (h : H q = none) : Led K (upd F q o) L (upd H q o) where
  sub := fun b u x => by
    by_cases hb : b = q
    · subst hb; rw [upd_same] at x ⊢; exact x
    · rw [upd_ne hb] at x ⊢; exact e.sub b u x
  nod := e.nod
  ent := fun p hp => by
    have ne := e.nofr h p hp
    obtain ⟨h1, h2⟩ := e.ent p hp
    exact ⟨(upd_ne ne).trans h1, h2.mono (same_new (e.free h)) (upd_ne ne)⟩
/-- a new list in the ledger -/
theorem Led.newL {ds : List D} {xs : List V} (e : Led K F L H) (h : H q = none) (r : Reps K F ds xs) : Led K F ((q, .lst ds) :: L) (upd H q (.lst xs)) where
  sub := e.sub.trans (same_new h)
  nod := by
    rw [List.map_cons]
    refine List.nodup_cons.mpr ⟨fun z => ?_, e.nod⟩
    obtain ⟨p, hp, z⟩ := List.mem_map.mp z
    exact e.nofr h p hp z
  ent := fun p hp => by
    rcases List.mem_cons.mp hp with rfl | hp
    · exact ⟨e.free h, xs, upd_same, r⟩
    · have ne := e.nofr h p hp
      obtain ⟨h1, h2⟩ := e.ent p hp
      exact ⟨h1, h2.mono (Same.refl F) (upd_ne ne)⟩
end

inductive Slots (K : PySem.W.Frag) (F : Hp) : Gm → L2.St → Prop
  | nil : Slots K F [] []
  | no {x : Option V} {Γ : Gm} {σ : L2.St} : Slots K F Γ σ → Slots K F (none :: Γ) (x :: σ)
  | so {d : D} {v : V} {Γ : Gm} {σ : L2.St} : Rep K F d v → Slots K F Γ σ → Slots K F (some d :: Γ) (some v :: σ)
/-- place i of the list holds x | .. is put to x -/
inductive Get {α : Type} : List α → Nat → α → Prop
  | z {x : α} {xs : List α} : Get (x :: xs) 0 x
  | s {x y : α} {xs : List α} {i : Nat} : Get xs i y → Get (x :: xs) (i + 1) y
inductive Put {α : Type} : List α → Nat → α → List α → Prop
  | z {x y : α} {xs : List α} : Put (x :: xs) 0 y (y :: xs)
  | s {x y : α} {xs ys : List α} {i : Nat} : Put xs i y ys → Put (x :: xs) (i + 1) y (x :: ys)
section
variable {K : PySem.W.Frag} {F F' : Hp}
theorem Slots.mono (s : Same F F') : ∀ {Γ : Gm} {σ : L2.St}, Slots K F Γ σ → Slots K F' Γ σ
  | _, _, .nil => .nil
  | _, _, .no t => .no (Slots.mono s t)
  | _, _, .so r t => .so (r.mono s) (Slots.mono s t)
theorem Slots.get : ∀ {Γ : Gm} {σ : L2.St} {i : Nat} {d : D}, Slots K F Γ σ → Get Γ i (some d) → ∃ v, σ[i]? = some (some v) ∧ Rep K F d v
  | _, _, _, _, .so r _, .z => ⟨_, rfl, r⟩
  | _, _, _, _, .no t, .s g => by
    obtain ⟨v, h1, h2⟩ := Slots.get t g
    exact ⟨v, h1, h2⟩
  | _, _, _, _, .so _ t, .s g => by
    obtain ⟨v, h1, h2⟩ := Slots.get t g
    exact ⟨v, h1, h2⟩
theorem Slots.put {d : D} {v : V} (r : Rep K F d v) : ∀ {Γ Γ' : Gm} {σ : L2.St} {i : Nat}, Slots K F Γ σ → Put Γ i (some d) Γ' → Slots K F Γ' (σ.set i (some v))
  | _, _, _, _, .so _ t, .z => .so r t
  | _, _, _, _, .no t, .z => .so r t
  | _, _, _, _, .no t, .s g => .no (Slots.put r t g)
  | _, _, _, _, .so q t, .s g => .so q (Slots.put r t g)
theorem Slots.out {x : Option V} : ∀ {Γ Γ' : Gm} {σ : L2.St} {i : Nat}, Slots K F Γ σ → Put Γ i none Γ' → Slots K F Γ' (σ.set i x)
  | _, _, _, _, .so _ t, .z => .no t
  | _, _, _, _, .no t, .z => .no t
  | _, _, _, _, .no t, .s g => .no (Slots.out t g)
  | _, _, _, _, .so q t, .s g => .so q (Slots.out t g)
/-- forget -/
theorem Slots.forget : ∀ {Γ Γ' : Gm} {σ : L2.St} {i : Nat}, Slots K F Γ σ → Put Γ i none Γ' → Slots K F Γ' σ
  | _, _, _, _, .so _ t, .z => .no t
  | _, _, _, _, .no t, .z => .no t
  | _, _, _, _, .no t, .s g => .no (Slots.forget t g)
  | _, _, _, _, .so q t, .s g => .so q (Slots.forget t g)
end
/-- what holds of the place, at F -/
structure At (K : PySem.W.Frag) (F0 F : Hp) (Γ : Gm) (L : Lg) (σ : L2.St) (H : Hp) : Prop where
  ge : Same F0 F
  led : Led K F L H
  sl : Slots K F Γ σ

/-! ### expressions -/
section
variable {X : Cx}
def wpE (X : Cx) (e : Expr) : TE := fun σ H Q => ∀ pins s, Inv X pins σ H s → wpAny (model X.prog X.w) X.A (eval e X.env) (EP X pins σ Q) X.xe s
def wpA (X : Cx) (es : List Expr) : TA := fun σ H Q => ∀ pos pins s, Inv X pins σ H s → wpAny (model X.prog X.w) X.A (spliced (backTo pos (starEach es X.env))) (AP X pins σ Q) X.xe s
def wpT (X : Cx) (e : Expr) : TT := fun σ H Q => ∀ pins s, Inv X pins σ H s → wpAny (model X.prog X.w) X.A (isTrue e X.env (eval e X.env)) (TP X pins σ Q) X.xe s
def wpW (X : Cx) (e : Expr) : TT := fun σ H Q => ∀ whole pins s, Inv X pins σ H s → wpAny (model X.prog X.w) X.A (isTrue e X.env whole) (TP X pins σ Q) X.xe s
def wpS (X : Cx) (st : Stmt) : TS := fun Dn σ H => ∀ pins s, Inv X pins σ H s → wpAny (model X.prog X.w) X.A (exec st X.env) (SP X pins Dn) X.xe s
def wpB (X : Cx) (ss : List Stmt) : TS := fun Dn σ H => ∀ pins s, Inv X pins σ H s → wpAny (model X.prog X.w) X.A (execs ss X.env) (SP X pins Dn) X.xe s
theorem we {e : Expr} : PE X e (wpE X e) := ⟨fun pins s _ _ _ I h => h pins s I⟩
theorem wa {es : List Expr} : PA X es (wpA X es) := ⟨fun pos pins s _ _ _ I h => h pos pins s I⟩
theorem wt {e : Expr} : PT X e (wpT X e) := ⟨fun pins s _ _ _ I h => h pins s I⟩
theorem ww {e : Expr} : PW X e (wpW X e) := ⟨fun wh pins s _ _ _ I h => h wh pins s I⟩
theorem ws {st : Stmt} : PS X st (wpS X st) := ⟨fun pins s _ _ _ I h => h pins s I⟩
theorem wb {ss : List Stmt} : PSs X ss (wpB X ss) := ⟨fun pins s _ _ _ I h => h pins s I⟩
theorem wpE.of {e : Expr} {t : TE} {σ : L2.St} {H : Hp} {Q : VK} (p : PE X e t) (h : t σ H Q) : wpE X e σ H Q := fun pins s I => p.run pins s σ H Q I h
theorem wpA.of {es : List Expr} {t : TA} {σ : L2.St} {H : Hp} {Q : List V → Hp → Prop} (p : PA X es t) (h : t σ H Q) : wpA X es σ H Q := fun pos pins s I => p.run pos pins s σ H Q I h
theorem wpT.of {e : Expr} {t : TT} {σ : L2.St} {H : Hp} {Q : Bool → Hp → Prop} (p : PT X e t) (h : t σ H Q) : wpT X e σ H Q := fun pins s I => p.run pins s σ H Q I h
theorem wpW.of {e : Expr} {t : TT} {σ : L2.St} {H : Hp} {Q : Bool → Hp → Prop} (p : PW X e t) (h : t σ H Q) : wpW X e σ H Q := fun wh pins s I => p.run wh pins s σ H Q I h
theorem wpS.of {st : Stmt} {t : TS} {σ : L2.St} {H : Hp} {Dn : Ends} (p : PS X st t) (h : t Dn σ H) : wpS X st Dn σ H := fun pins s I => p.run pins s σ H Dn I h
theorem wpB.of {ss : List Stmt} {t : TS} {σ : L2.St} {H : Hp} {Dn : Ends} (p : PSs X ss t) (h : t Dn σ H) : wpB X ss Dn σ H := fun pins s I => p.run pins s σ H Dn I h
end

/-- e, at Γ and L, gives a datum and a ledger of which k holds -/
def EvK (X : Cx) (F0 : Hp) (e : Expr) (Γ : Gm) (L : Lg) (k : D → Lg → Prop) : Prop := ∀ (F : Hp) (σ : L2.St) (H : Hp) (Q : VK), At X.K F0 F Γ L σ H →
  (∀ (d : D) (L' : Lg) (F' : Hp) (v : V) (H' : Hp), k d L' → At X.K F0 F' Γ L' σ H' → Same F F' → Rep X.K F' d v → Q v H') → wpE X e σ H Q
def EaK (X : Cx) (F0 : Hp) (es : List Expr) (Γ : Gm) (L : Lg) (k : List D → Lg → Prop) : Prop := ∀ (F : Hp) (σ : L2.St) (H : Hp) (Q : List V → Hp → Prop), At X.K F0 F Γ L σ H →
  (∀ (ds : List D) (L' : Lg) (F' : Hp) (vs : List V) (H' : Hp), k ds L' → At X.K F0 F' Γ L' σ H' → Same F F' → Reps X.K F' ds vs → Q vs H') → wpA X es σ H Q
def EtK (X : Cx) (F0 : Hp) (e : Expr) (Γ : Gm) (L : Lg) (k : Bool → Lg → Prop) : Prop := ∀ (F : Hp) (σ : L2.St) (H : Hp) (Q : Bool → Hp → Prop), At X.K F0 F Γ L σ H →
  (∀ (b : Bool) (L' : Lg) (F' : Hp) (H' : Hp), k b L' → At X.K F0 F' Γ L' σ H' → Same F F' → Q b H') → wpT X e σ H Q
def EwK (X : Cx) (F0 : Hp) (e : Expr) (Γ : Gm) (L : Lg) (k : Bool → Lg → Prop) : Prop := ∀ (F : Hp) (σ : L2.St) (H : Hp) (Q : Bool → Hp → Prop), At X.K F0 F Γ L σ H →
  (∀ (b : Bool) (L' : Lg) (F' : Hp) (H' : Hp), k b L' → At X.K F0 F' Γ L' σ H' → Same F F' → Q b H') → wpW X e σ H Q
/-- what is wanted behind a block -/
structure Ks where
  nx : Gm → Lg → Prop
  rt : D → Lg → Prop
  bk : Gm → Lg → Prop := fun _ _ => False
  ct : Gm → Lg → Prop := fun _ _ => False
structure Ek (X : Cx) (F0 : Hp) (Dn : Ends) (k : Ks) : Prop where
  nx : ∀ Γ L F σ H, k.nx Γ L → At X.K F0 F Γ L σ H → Dn.nx σ H
  rt : ∀ d L F v H, k.rt d L → Same F0 F → Led X.K F L H → Rep X.K F d v → Dn.rt v H
  bk : ∀ Γ L F σ H, k.bk Γ L → At X.K F0 F Γ L σ H → Dn.bk σ H
  ct : ∀ Γ L F σ H, k.ct Γ L → At X.K F0 F Γ L σ H → Dn.ct σ H
def SK (X : Cx) (F0 : Hp) (st : Stmt) (Γ : Gm) (L : Lg) (k : Ks) : Prop := ∀ (F : Hp) (σ : L2.St) (H : Hp) (Dn : Ends), At X.K F0 F Γ L σ H → Ek X F0 Dn k → wpS X st Dn σ H
def BK (X : Cx) (F0 : Hp) (ss : List Stmt) (Γ : Gm) (L : Lg) (k : Ks) : Prop := ∀ (F : Hp) (σ : L2.St) (H : Hp) (Dn : Ends), At X.K F0 F Γ L σ H → Ek X F0 Dn k → wpB X ss Dn σ H

section
variable {X : Cx} {F0 : Hp} {Γ : Gm} {L : Lg} {k : D → Lg → Prop} {ka : List D → Lg → Prop} {kt : Bool → Lg → Prop} {e a b c : Expr} {es rest : List Expr} {pos : Pos}
/-! constants and names -/
theorem ek_c {d : D} {v : V} (p : PE X e (tC v)) (r : ∀ F, Rep X.K F d v) (h : k d L) : EvK X F0 e Γ L k := fun F σ H Q E q => wpE.of p (q d L F v H h E (Same.refl F) (r F))
theorem ek_int {i : Int} {j : Nat} (h : k (.int i) L) : EvK X F0 (.Constant (.int i) j pos) Γ L k := ek_c pe_int (fun _ => .int) h
theorem ek_bl {i : Bool} {j : Nat} (h : k (.bl i) L) : EvK X F0 (.Constant (.bool i) j pos) Γ L k := ek_c pe_bl (fun _ => .bl) h
theorem ek_non {j : Nat} (h : k .non L) : EvK X F0 (.Constant .none j pos) Γ L k := ek_c pe_non (fun _ => .non) h
theorem ek_str {x : Str} {j : Nat} (h : k (.str x) L) : EvK X F0 (.Constant (.str x) j pos) Γ L k := ek_c pe_str (fun _ => .str) h
theorem ek_v {i : Nat} {d : D} (p : PE X e (tVar i)) (g : Get Γ i (some d)) (h : k d L) : EvK X F0 e Γ L k := fun F σ H Q E q => by
  obtain ⟨v, h1, h2⟩ := E.sl.get g
  exact wpE.of p ⟨v, h1, q d L F v H h E (Same.refl F) h2⟩
/-- a list, a tuple, a number of the module's top -/
theorem ek_glob {x : Str} {d : D} {v : V} {u : Value} (hm : X.mg x = some u) (r : RelV v u) (hr : ∀ F, Rep X.K F d v) (h : k d L) (hg : Gl X x := by rfl) (hd : (x == ("__debug__" : Str)) = false := by decide) : EvK X F0 (.Name x pos) Γ L k :=
  ek_c (pe_glob hg hm r hd) hr h
/-! operators -/
def CMulX (i j : Int) : Prop := CMul i j ∨ CMulW i j
theorem op_mulX : OpR X (binaryOp .Mult) (rI CMulX fun i j => .int (i * j)) := fun pins s σ H x y v u Q I rx ry ⟨i, j, e1, e2, hc, q⟩ => by
  rcases hc with hc | hc
  · exact op_mul pins s σ H x y v u Q I rx ry ⟨i, j, e1, e2, hc, q⟩
  · exact op_mulW pins s σ H x y v u Q I rx ry ⟨i, j, e1, e2, hc, q⟩
theorem mulL {i j : Int} (h : -(18446744073709551616) < i ∧ i < 18446744073709551616) : CMulX i j := .inl (.inl h)
theorem mulR {i j : Int} (h : -(18446744073709551616) < j ∧ j < 18446744073709551616) : CMulX i j := .inl (.inr h)
theorem ek_op {op : Operator} {r : R2} (ho : OpR X (binaryOp op) r) {P : D → D → (D → Prop) → Prop}
    (hr : ∀ F L' σ H x y v u (kk : D → Prop) (Q : VK), At X.K F0 F Γ L' σ H → Rep X.K F x v → Rep X.K F y u → P x y kk →
      (∀ d F' v' H', kk d → At X.K F0 F' Γ L' σ H' → Same F F' → Rep X.K F' d v' → Q v' H') → r v u H Q)
    (h : EvK X F0 a Γ L fun x L1 => EvK X F0 b Γ L1 fun y L2 => P x y fun d => k d L2) : EvK X F0 (.BinOp a op b pos) Γ L k := fun F σ H Q E q =>
  wpE.of (pe_op ho we we) (h F σ H _ E fun x L1 F1 v H1 h1 E1 s1 r1 => h1 F1 σ H1 _ E1 fun y L2 F2 u H2 h2 E2 s2 r2 =>
    hr F2 L2 σ H2 x y v u _ Q E2 (r1.mono s2) r2 h2 fun d F3 v3 H3 h3 E3 s3 r3 => q d L2 F3 v3 H3 h3 E3 (s1.trans (s2.trans s3)) r3)
theorem ek_opI {op : Operator} {C : Int → Int → Prop} {g : Int → Int → Int} (ho : OpR X (binaryOp op) (rI C fun i j => .int (g i j)))
    (h : EvK X F0 a Γ L fun x L1 => ∃ i, x = .int i ∧ EvK X F0 b Γ L1 fun y L2 => ∃ j, y = .int j ∧ C i j ∧ k (.int (g i j)) L2) : EvK X F0 (.BinOp a op b pos) Γ L k := fun F σ H Q E q =>
  wpE.of (pe_op ho we we) (h F σ H _ E fun x L1 F1 v H1 ⟨i, e1, h1⟩ E1 s1 r1 => h1 F1 σ H1 _ E1 fun y L2 F2 u H2 ⟨j, e2, hc, h2⟩ E2 s2 r2 => by
    subst e1 e2
    cases r1
    cases r2
    exact ⟨i, j, rfl, rfl, hc, q _ L2 F2 _ H2 h2 E2 (s1.trans s2) .int⟩)
theorem ek_add (h : EvK X F0 a Γ L fun x L1 => ∃ i, x = .int i ∧ EvK X F0 b Γ L1 fun y L2 => ∃ j, y = .int j ∧ k (.int (i + j)) L2) : EvK X F0 (.BinOp a .Add b pos) Γ L k := fun F σ H Q E q =>
  wpE.of (pe_op op_add we we) (h F σ H _ E fun x L1 F1 v H1 ⟨i, e1, h1⟩ E1 s1 r1 => h1 F1 σ H1 _ E1 fun y L2 F2 u H2 ⟨j, e2, h2⟩ E2 s2 r2 => by
    subst e1 e2
    cases r1
    cases r2
    exact ⟨i, j, rfl, rfl, q _ L2 F2 _ H2 h2 E2 (s1.trans s2) .int⟩)
theorem ek_sub (h : EvK X F0 a Γ L fun x L1 => ∃ i, x = .int i ∧ EvK X F0 b Γ L1 fun y L2 => ∃ j, y = .int j ∧ k (.int (i - j)) L2) : EvK X F0 (.BinOp a .Sub b pos) Γ L k := fun F σ H Q E q =>
  wpE.of (pe_op op_sub we we) (h F σ H _ E fun x L1 F1 v H1 ⟨i, e1, h1⟩ E1 s1 r1 => h1 F1 σ H1 _ E1 fun y L2 F2 u H2 ⟨j, e2, h2⟩ E2 s2 r2 => by
    subst e1 e2
    cases r1
    cases r2
    exact ⟨i, j, rfl, rfl, q _ L2 F2 _ H2 h2 E2 (s1.trans s2) .int⟩)
theorem ek_mul (h : EvK X F0 a Γ L fun x L1 => ∃ i, x = .int i ∧ EvK X F0 b Γ L1 fun y L2 => ∃ j, y = .int j ∧ CMulX i j ∧ k (.int (i * j)) L2) : EvK X F0 (.BinOp a .Mult b pos) Γ L k := ek_opI op_mulX h
theorem ek_mod (h : EvK X F0 a Γ L fun x L1 => ∃ i, x = .int i ∧ EvK X F0 b Γ L1 fun y L2 => ∃ j, y = .int j ∧ 0 < j ∧ k (.int (i % j)) L2) : EvK X F0 (.BinOp a .Mod b pos) Γ L k := ek_opI op_mod h
theorem ek_fdiv (h : EvK X F0 a Γ L fun x L1 => ∃ i, x = .int i ∧ EvK X F0 b Γ L1 fun y L2 => ∃ j, y = .int j ∧ CDiv i j ∧ k (.int (i / j)) L2) : EvK X F0 (.BinOp a .FloorDiv b pos) Γ L k := ek_opI op_fdiv h
theorem ek_pow (h : EvK X F0 a Γ L fun x L1 => ∃ i, x = .int i ∧ EvK X F0 b Γ L1 fun y L2 => ∃ j, y = .int j ∧ CPow i j ∧ k (.int (i ^ j.toNat)) L2) : EvK X F0 (.BinOp a .Pow b pos) Γ L k := ek_opI op_pow h
theorem ek_neg (h : EvK X F0 a Γ L fun x L1 => ∃ i, x = .int i ∧ k (.int (-i)) L1) : EvK X F0 (.UnaryOp .USub a pos) Γ L k := fun F σ H Q E q =>
  wpE.of (pe_un un_neg we) (h F σ H _ E fun x L1 F1 v H1 ⟨i, e1, h1⟩ E1 s1 r1 => by
    subst e1
    cases r1
    exact ⟨i, rfl, q _ L1 F1 _ H1 h1 E1 s1 .int⟩)
end
end Vs

set_option Elab.async false
set_option linter.all false
set_option maxRecDepth 100000
set_option maxHeartbeats 4000000
namespace Vs
open PySem PySem.Spec PyProof.Rows L2
/-! ### promises -/
structure Xc where
  c : Value
  fs : Option (List (Str × D)) := none
abbrev SpD := List D → Lg → (D → Lg → Prop) → (Xc → Lg → Prop) → Prop
def XRep (K : PySem.W.Frag) (F H : Hp) (x : Xc) (od : Option Addr) : Prop := match x.fs with
  | none => od = none
  | some fs => ∃ d vs, od = some d ∧ H d = some (.xd ((fs.map (·.1)).zip vs)) ∧ Reps K F (fs.map (·.2)) vs
def spOf (K : PySem.W.Frag) (S : SpD) : Sp := fun vs H Q E => ∃ (F : Hp) (ds : List D) (L : Lg) (q : D → Lg → Prop) (e : Xc → Lg → Prop), Led K F L H ∧ Reps K F ds vs ∧ S ds L q e ∧
  (∀ r L' F' v H', q r L' → Same F F' → Led K F' L' H' → Rep K F' r v → Q v H') ∧ (∀ x L' F' od H', e x L' → Same F F' → Led K F' L' H' → XRep K F' H' x od → E x.c od H')
def ZW (K : PySem.W.Frag) (F0 : Hp) (Z : Xc → Gm → Lg → Prop) : WX := fun cls od σ H => ∃ x Γ L F, x.c = cls ∧ Z x Γ L ∧ At K F0 F Γ L σ H ∧ XRep K F H x od
abbrev Z0 : Xc → Gm → Lg → Prop := fun _ _ _ => False
theorem takesZ0 {X : Cx} {F0 : Hp} : Takes X (ZW X.K F0 Z0) := takes0.imp fun _ _ _ _ ⟨_, _, _, _, _, z, _⟩ => z
/-- a def of the module, by its name -/
structure Cal (P : Program) (w : World) (K : PySem.W.Frag) (mg : Str → Option Value) (base : Heap) (n : Nat) (x : Str) (ps : List Str) (S : SpD) : Prop where
  ex : ∃ f fd, mg x = some (.ref f) ∧ PySem.W.keepIn K (.ref f) = true ∧ Binds K fd ps [] ∧ FnOk P w K mg base (L2.CX P w) n f fd ps (spOf K S)
abbrev CalX (X : Cx) (n : Nat) (x : Str) (ps : List Str) (S : SpD) : Prop := Cal X.prog X.w X.K X.mg X.base n x ps S

/-- the names of a def's frame -/
structure Cn (X : Cx) (N Nc : List Str) (sc : Scope) : Prop where
  n : X.N = N ++ Nc
  nd : (N ++ Nc).Nodup
  scp : X.env.scope = sc
  loc : ∀ x ∈ N, L2.Loc sc x
  fn : ∀ x, X.fn x = true
/-- a def's frame, not within an except suite; what an exception is to meet: Z -/
structure Cf (X : Cx) (N Nc : List Str) (sc : Scope) (F0 : Hp) (Z : Xc → Gm → Lg → Prop) : Prop extends Cn X N Nc sc where
  calm : X.calm = true
  own : PassesOwn (model X.prog X.w) X.A X.env X.xe
  tk : Takes X (ZW X.K F0 Z)
  stk : X.stack = X.env :: X.outer
  fr : X.env.frame = some X.env.locals
section
variable {X : Cx} {F0 : Hp} {Γ : Gm} {L : Lg} {k : D → Lg → Prop} {ka : List D → Lg → Prop} {kt : Bool → Lg → Prop} {e a b c : Expr} {es rest : List Expr} {pos : Pos} {N Nc : List Str} {sc : Scope} {Z : Xc → Gm → Lg → Prop}
theorem get_app {α : Type} {N Nc : List α} {i : Nat} {x : α} (h : N[i]? = some x) : (N ++ Nc)[i]? = some x := by
  obtain ⟨hl, _⟩ := List.getElem?_eq_some_iff.mp h
  rw [List.getElem?_append_left hl]
  exact h
theorem Cn.ne (c : Cn X N Nc sc) {i : Nat} {x : Str} (hi : N[i]? = some x) (hd : (x == ("__debug__" : Str)) = false) (hcd : (x == ("__classdict__" : Str)) = false) : PE X (.Name x pos) (tVar i) := by
  refine pe_var (by rw [c.n]; exact get_app hi) ?_ hd hcd
  rw [c.scp]
  rcases c.loc x (List.mem_of_getElem? hi) with h | h
  · exact .inl h
  · exact .inr (.inl h)
/-- a name of the def -/
theorem ek_n (c : Cn X N Nc sc) {i : Nat} {x : Str} {d : D} (g : Get Γ i (some d)) (h : k d L) (hi : N[i]? = some x := by rfl) (hd : (x == ("__debug__" : Str)) = false := by decide) (hcd : (x == ("__classdict__" : Str)) = false := by decide) : EvK X F0 (.Name x pos) Γ L k :=
  ek_v (c.ne hi hd hcd) g h
/-! arguments -/
theorem ea_nil (h : ka [] L) : EaK X F0 [] Γ L ka := fun F σ H Q E q => wpA.of pa_nil (q [] L F [] H h E (Same.refl F) .nil)
theorem ea_cons (h : EvK X F0 e Γ L fun d L1 => EaK X F0 es Γ L1 fun ds L2 => ka (d :: ds) L2) (hs : starEach (e :: es) X.env = (false, eval e X.env) :: starEach es X.env := by rfl) : EaK X F0 (e :: es) Γ L ka := fun F σ H Q E q =>
  wpA.of (pa_cons we wa hs) (h F σ H _ E fun d L1 F1 v H1 h1 E1 s1 r1 => h1 F1 σ H1 _ E1 fun ds L2 F2 vs H2 h2 E2 s2 r2 => q (d :: ds) L2 F2 (v :: vs) H2 h2 E2 (s1.trans s2) (.cons (r1.mono s2) r2))
/-! displays -/
theorem ek_tup {x1} (h : EaK X F0 es Γ L fun ds L' => ds.length ≤ sizeLine ∧ k (.tup ds) L') : EvK X F0 (.Tuple es x1 pos) Γ L k := fun F σ H Q E q =>
  wpE.of (pe_tup wa) (h F σ H _ E fun ds L1 F1 vs H1 ⟨hz, h1⟩ E1 s1 r1 => ⟨by rw [← r1.length]; exact hz, fun p hp =>
    have s2 : Same F1 (upd F1 p (.tup vs)) := same_new (E1.led.free hp)
    q _ L1 _ _ _ h1 ⟨E1.ge.trans s2, E1.led.new hp, E1.sl.mono s2⟩ (s1.trans s2) (.tup (.inl (.inl upd_same)) (r1.mono s2))⟩)
theorem ek_lst (h : EaK X F0 es Γ L fun ds L' => ds.length ≤ sizeLine ∧ k (.lst ds) L') : EvK X F0 (.List es pos) Γ L k := fun F σ H Q E q =>
  wpE.of (pe_lst wa) (h F σ H _ E fun ds L1 F1 vs H1 ⟨hz, h1⟩ E1 s1 r1 => ⟨by rw [← r1.length]; exact hz, fun p hp =>
    have s2 : Same F1 (upd F1 p (.lst vs)) := same_new (E1.led.free hp)
    q _ L1 _ _ _ h1 ⟨E1.ge.trans s2, E1.led.new hp, E1.sl.mono s2⟩ (s1.trans s2) (.lst (.inl (.inl upd_same)) (r1.mono s2))⟩)
/-- a list that will be changed -/
theorem ek_lstO (h : EaK X F0 es Γ L fun ds L' => ds.length ≤ sizeLine ∧ ∀ p, k (.ref p) ((p, .lst ds) :: L')) : EvK X F0 (.List es pos) Γ L k := fun F σ H Q E q =>
  wpE.of (pe_lst wa) (h F σ H _ E fun ds L1 F1 vs H1 ⟨hz, h1⟩ E1 s1 r1 => ⟨by rw [← r1.length]; exact hz, fun p hp =>
    q _ _ F1 _ _ (h1 p) ⟨E1.ge, E1.led.newL hp r1, E1.sl⟩ s1 .ref⟩)
/-! a def of the module -/
theorem ek_call {x : Str} {n : Nat} {ps : List Str} {S : SpD} {p : Pos} (tk : Takes X (ZW X.K F0 Z)) (G : CalX X n x ps S) (hr : Room n X.A) (h : EaK X F0 (e :: es) Γ L fun ds L1 => S ds L1 k fun x L2 => Z x Γ L2) (hg : Gl X x)
    (hdb : (x == ("__debug__" : Str)) = false := by decide) (he : starEach (e :: es) X.env = (false, eval e X.env) :: starEach es X.env := by rfl) (hpl : (backTo pos (starEach es X.env)).any (·.1) = false := by rfl) :
    EvK X F0 (.Call (.Name x p) (e :: es) [] pos) Γ L k := fun F σ H Q E q => by
  obtain ⟨f, fd, hm, hk, hb, G⟩ := G.ex
  refine wpE.of (pe_callS (E := L2.WE (ZW X.K F0 Z)) G hr hg hm hk hb (fun σ => passAt tk σ) wa hdb he hpl) ?_
  refine h F σ H _ E fun ds L1 F1 vs H1 h1 E1 s1 r1 => ?_
  exact ⟨F1, ds, L1, k, fun x L2 => Z x Γ L2, E1.led, r1, h1, fun r L' F' v H' hq s2 l2 r2 => q r L' F' v H' hq ⟨E1.ge.trans s2, l2, E1.sl.mono s2⟩ (s1.trans s2) r2,
    fun x L' F' od H' he s2 l2 x2 => ⟨x, Γ, L', F', rfl, he, ⟨E1.ge.trans s2, l2, E1.sl.mono s2⟩, x2⟩⟩
theorem ek_call0 {x : Str} {n : Nat} {ps : List Str} {S : SpD} {p : Pos} (G : CalX X n x ps S) (hr : Room n X.A) (h : S [] L k fun _ _ => False) (hg : Gl X x)
    (hdb : (x == ("__debug__" : Str)) = false := by decide) : EvK X F0 (.Call (.Name x p) [] [] pos) Γ L k := fun F σ H Q E q => by
  obtain ⟨f, fd, hm, hk, hb, G⟩ := G.ex
  refine wpE.of (pe_call0 G hr hg hm hk hb .nil passL hdb) ?_
  exact ⟨F, [], L, k, fun _ _ => False, E.led, .nil, h, fun r L' F' v H' hq s2 l2 r2 => q r L' F' v H' hq ⟨E.ge.trans s2, l2, E.sl.mono s2⟩ s2 r2, fun _ _ _ _ _ he => he.elim⟩
/-! a built-in's call -/
theorem ek_cb {x : Str} {id : String} {r : List V → Hp → VK → Prop} {p : Pos} (hc : CallR X (.builtin id) r) (hm : X.mg x = none) (hv : bootBuiltins x = some (.builtin id))
    {P : List D → Lg → (D → Prop) → Prop}
    (hr : ∀ F L' σ H ds vs (kk : D → Prop) (Q : VK), At X.K F0 F Γ L' σ H → Reps X.K F ds vs → P ds L' kk →
      (∀ d F' v' H', kk d → At X.K F0 F' Γ L' σ H' → Same F F' → Rep X.K F' d v' → Q v' H') → r vs H Q)
    (h : EaK X F0 (e :: es) Γ L fun ds L1 => P ds L1 fun d => k d L1) (hg : Gl X x) (hn : x ≠ "__name__" := by decide) (hdb : (x == ("__debug__" : Str)) = false := by decide)
    (he : starEach (e :: es) X.env = (false, eval e X.env) :: starEach es X.env := by rfl) (hpl : (backTo pos (starEach es X.env)).any (·.1) = false := by rfl) : EvK X F0 (.Call (.Name x p) (e :: es) [] pos) Γ L k := fun F σ H Q E q =>
  wpE.of (pe_callB hc hg hm hv wa hn hdb he hpl) (h F σ H _ E fun ds L1 F1 vs H1 h1 E1 s1 r1 => hr F1 L1 σ H1 ds vs _ Q E1 r1 h1 fun d F2 v H2 h2 E2 s2 r2 => q d L1 F2 v H2 h2 E2 (s1.trans s2) r2)
theorem ek_ct {x : Str} {T : String} {r : List V → Hp → VK → Prop} {p : Pos} (hc : CallR X (.type T) r) (hm : X.mg x = none) (hv : bootBuiltins x = some (.type T))
    {P : List D → Lg → (D → Prop) → Prop}
    (hr : ∀ F L' σ H ds vs (kk : D → Prop) (Q : VK), At X.K F0 F Γ L' σ H → Reps X.K F ds vs → P ds L' kk →
      (∀ d F' v' H', kk d → At X.K F0 F' Γ L' σ H' → Same F F' → Rep X.K F' d v' → Q v' H') → r vs H Q)
    (h : EaK X F0 (e :: es) Γ L fun ds L1 => P ds L1 fun d => k d L1) (hg : Gl X x) (hn : x ≠ "__name__" := by decide) (hdb : (x == ("__debug__" : Str)) = false := by decide)
    (he : starEach (e :: es) X.env = (false, eval e X.env) :: starEach es X.env := by rfl) (hpl : (backTo pos (starEach es X.env)).any (·.1) = false := by rfl) : EvK X F0 (.Call (.Name x p) (e :: es) [] pos) Γ L k := fun F σ H Q E q =>
  wpE.of (pe_callTy hc hg hm hv wa hn hdb he hpl) (h F σ H _ E fun ds L1 F1 vs H1 h1 E1 s1 r1 => hr F1 L1 σ H1 ds vs _ Q E1 r1 h1 fun d F2 v H2 h2 E2 s2 r2 => q d L1 F2 v H2 h2 E2 (s1.trans s2) r2)
/-! tests and truth values -/
theorem et_v (h : EvK X F0 e Γ L fun d L' => ∃ b, d = .bl b ∧ kt b L') (he : ∀ whole, isTrue e X.env whole = (do let v ← whole; standAt e.pos; holding [v] (truthy v)) := by intro _; rfl) : EtK X F0 e Γ L kt := fun F σ H Q E q =>
  wpT.of (pt_val we he) (h F σ H _ E fun d L1 F1 v H1 ⟨b, e1, h1⟩ E1 s1 r1 => by
    subst e1
    cases r1
    exact ⟨b, rfl, q b L1 F1 H1 h1 E1 s1⟩)
theorem et_and1 (h : EtK X F0 a Γ L kt) : EwK X F0 (.BoolOp .And [a] pos) Γ L kt := fun F σ H Q E q => wpW.of (pw_and1 wt) (h F σ H Q E q)
theorem et_or1 (h : EtK X F0 a Γ L kt) : EwK X F0 (.BoolOp .Or [a] pos) Γ L kt := fun F σ H Q E q => wpW.of (pw_or1 wt) (h F σ H Q E q)
theorem et_andw (h : EtK X F0 a Γ L fun x L1 => (x = true → EwK X F0 (.BoolOp .And (b :: rest) pos) Γ L1 kt) ∧ (x = false → kt false L1)) : EwK X F0 (.BoolOp .And (a :: b :: rest) pos) Γ L kt := fun F σ H Q E q =>
  wpW.of (pw_and wt ww) (h F σ H _ E fun x L1 F1 H1 ⟨h1, h2⟩ E1 s1 => by
    cases x with
    | true => exact h1 rfl F1 σ H1 Q E1 fun b L2 F2 H2 h3 E2 s2 => q b L2 F2 H2 h3 E2 (s1.trans s2)
    | false => exact q false L1 F1 H1 (h2 rfl) E1 s1)
theorem et_orw (h : EtK X F0 a Γ L fun x L1 => (x = true → kt true L1) ∧ (x = false → EwK X F0 (.BoolOp .Or (b :: rest) pos) Γ L1 kt)) : EwK X F0 (.BoolOp .Or (a :: b :: rest) pos) Γ L kt := fun F σ H Q E q =>
  wpW.of (pw_or wt ww) (h F σ H _ E fun x L1 F1 H1 ⟨h1, h2⟩ E1 s1 => by
    cases x with
    | true => exact q true L1 F1 H1 (h1 rfl) E1 s1
    | false => exact h2 rfl F1 σ H1 Q E1 fun b L2 F2 H2 h3 E2 s2 => q b L2 F2 H2 h3 E2 (s1.trans s2))
theorem et_w (h : EwK X F0 e Γ L kt) : EtK X F0 e Γ L kt := fun F σ H Q E q => wpT.of (PW.pt ww) (h F σ H Q E q)
theorem et_not (h : EtK X F0 a Γ L fun b L' => kt (!b) L') : EtK X F0 (.UnaryOp .Not a pos) Γ L kt := fun F σ H Q E q =>
  wpT.of (pt_not wt) (h F σ H _ E fun b L1 F1 H1 h1 E1 s1 => q _ L1 F1 H1 h1 E1 s1)
theorem ek_and {op} (h : EvK X F0 a Γ L k) : EvK X F0 (.BoolOp op [a] pos) Γ L k := fun F σ H Q E q => wpE.of (pe_one we) (h F σ H Q E q)
theorem ek_andv (h : EvK X F0 a Γ L fun x L1 => ∃ t, x = .bl t ∧ (t = true → EvK X F0 (.BoolOp .And (b :: rest) pos) Γ L1 k) ∧ (t = false → k (.bl false) L1)) : EvK X F0 (.BoolOp .And (a :: b :: rest) pos) Γ L k := fun F σ H Q E q =>
  wpE.of (pe_and we we) (h F σ H _ E fun x L1 F1 v H1 ⟨t, e1, h1, h2⟩ E1 s1 r1 => by
    subst e1
    cases r1
    refine ⟨t, rfl, ?_⟩
    cases t with
    | true =>
      rw [if_pos rfl]
      exact h1 rfl F1 σ H1 Q E1 fun d L2 F2 v2 H2 h3 E2 s2 r2 => q d L2 F2 v2 H2 h3 E2 (s1.trans s2) r2
    | false =>
      rw [if_neg Bool.false_ne_true]
      exact q _ L1 F1 _ H1 (h2 rfl) E1 s1 .bl)
theorem ek_orv (h : EvK X F0 a Γ L fun x L1 => ∃ t, x = .bl t ∧ (t = true → k (.bl true) L1) ∧ (t = false → EvK X F0 (.BoolOp .Or (b :: rest) pos) Γ L1 k)) : EvK X F0 (.BoolOp .Or (a :: b :: rest) pos) Γ L k := fun F σ H Q E q =>
  wpE.of (pe_or we we) (h F σ H _ E fun x L1 F1 v H1 ⟨t, e1, h1, h2⟩ E1 s1 r1 => by
    subst e1
    cases r1
    refine ⟨t, rfl, ?_⟩
    cases t with
    | true =>
      rw [if_pos rfl]
      exact q _ L1 F1 _ H1 (h1 rfl) E1 s1 .bl
    | false =>
      rw [if_neg Bool.false_ne_true]
      exact h2 rfl F1 σ H1 Q E1 fun d L2 F2 v2 H2 h3 E2 s2 r2 => q d L2 F2 v2 H2 h3 E2 (s1.trans s2) r2)
theorem ek_not (h : EvK X F0 a Γ L fun x L1 => ∃ t, x = .bl t ∧ k (.bl (!t)) L1) : EvK X F0 (.UnaryOp .Not a pos) Γ L k := fun F σ H Q E q =>
  wpE.of (pe_not we) (h F σ H _ E fun x L1 F1 v H1 ⟨t, e1, h1⟩ E1 s1 r1 => by
    subst e1
    cases r1
    exact ⟨t, rfl, q _ L1 F1 _ H1 h1 E1 s1 .bl⟩)
theorem ek_if {c : Expr} (h : EtK X F0 c Γ L fun t L1 => (t = true → EvK X F0 a Γ L1 k) ∧ (t = false → EvK X F0 b Γ L1 k)) : EvK X F0 (.IfExp c a b pos) Γ L k := fun F σ H Q E q =>
  wpE.of (pe_ifExp wt we we) (h F σ H _ E fun t L1 F1 H1 ⟨h1, h2⟩ E1 s1 => by
    cases t with
    | true =>
      rw [if_pos rfl]
      exact h1 rfl F1 σ H1 Q E1 fun d L2 F2 v2 H2 h3 E2 s2 r2 => q d L2 F2 v2 H2 h3 E2 (s1.trans s2) r2
    | false =>
      rw [if_neg Bool.false_ne_true]
      exact h2 rfl F1 σ H1 Q E1 fun d L2 F2 v2 H2 h3 E2 s2 r2 => q d L2 F2 v2 H2 h3 E2 (s1.trans s2) r2)
/-! comparisons -/
theorem ek_cmp {op : CmpOp} {r : R2} (ho : OpR X (compareOp op) r) {P : D → D → Lg → (D → Prop) → Prop}
    (hr : ∀ F L' σ H x y v u (kk : D → Prop) (Q : VK), At X.K F0 F Γ L' σ H → Rep X.K F x v → Rep X.K F y u → P x y L' kk →
      (∀ d F' v' H', kk d → At X.K F0 F' Γ L' σ H' → Same F F' → Rep X.K F' d v' → Q v' H') → r v u H Q)
    (h : EvK X F0 a Γ L fun x L1 => EvK X F0 b Γ L1 fun y L2 => P x y L2 fun d => k d L2) (hm : behindInMarks op b = false) : EvK X F0 (.Compare a [op] [b] pos) Γ L k := fun F σ H Q E q =>
  wpE.of (pe_cmpR ho we we hm) (h F σ H _ E fun x L1 F1 v H1 h1 E1 s1 r1 => h1 F1 σ H1 _ E1 fun y L2 F2 u H2 h2 E2 s2 r2 =>
    hr F2 L2 σ H2 x y v u _ Q E2 (r1.mono s2) r2 h2 fun d F3 v3 H3 h3 E3 s3 r3 => q d L2 F3 v3 H3 h3 E3 (s1.trans (s2.trans s3)) r3)
end

/-! ### statements -/
section
variable {X : Cx} {F0 : Hp} {Γ : Gm} {L : Lg} {k : Ks} {e a b c : Expr} {st : Stmt} {rest body orelse : List Stmt} {pos p' : Pos} {N Nc : List Str} {sc : Scope} {Z : Xc → Gm → Lg → Prop}
theorem bk_nil (h : k.nx Γ L) : BK X F0 [] Γ L k := fun F σ H Dn E q => wpB.of pss_nil (q.nx Γ L F σ H h E)
theorem bk_cons (h : SK X F0 st Γ L { k with nx := fun Γ' L' => BK X F0 rest Γ' L' k }) : BK X F0 (st :: rest) Γ L k := fun F σ H Dn E q =>
  wpB.of (pss_cons ws wb) (h F σ H _ E ⟨fun Γ' L' F' σ' H' h' E' => h' F' σ' H' Dn E' q, q.rt, q.bk, q.ct⟩)
/-- a cut: what holds behind the first statement is told -/
theorem bk_cut (P : Gm → Lg → Prop) (h : SK X F0 st Γ L { k with nx := P }) (h2 : ∀ Γ' L', P Γ' L' → BK X F0 rest Γ' L' k) : BK X F0 (st :: rest) Γ L k := fun F σ H Dn E q =>
  wpB.of (pss_cons ws wb) (h F σ H _ E ⟨fun Γ' L' F' σ' H' h' E' => h2 Γ' L' h' F' σ' H' Dn E' q, q.rt, q.bk, q.ct⟩)
theorem bk_one (h : SK X F0 st Γ L k) : BK X F0 [st] Γ L k := fun F σ H Dn E q => wpB.of (pss_one ws) (h F σ H Dn E q)
theorem sk_pass (h : k.nx Γ L) : SK X F0 (.Pass pos) Γ L k := fun F σ H Dn E q => wpS.of ps_pass (q.nx Γ L F σ H h E)
theorem sk_break (h : k.bk Γ L) : SK X F0 (.Break pos) Γ L k := fun F σ H Dn E q => wpS.of ps_break (q.bk Γ L F σ H h E)
theorem sk_continue (h : k.ct Γ L) : SK X F0 (.Continue pos) Γ L k := fun F σ H Dn E q => wpS.of ps_continue (q.ct Γ L F σ H h E)
theorem sk_ret (h : EvK X F0 e Γ L k.rt) : SK X F0 (.Return (some e) pos) Γ L k := fun F σ H Dn E q =>
  wpS.of (ps_ret we) (h F σ H _ E fun d L1 F1 v H1 h1 E1 s1 r1 => q.rt d L1 F1 v H1 h1 E1.ge E1.led r1)
theorem sk_retN (h : k.rt .non L) : SK X F0 (.Return none pos) Γ L k := fun F σ H Dn E q => wpS.of ps_retN (q.rt .non L F .non H h E.ge E.led .non)
theorem sk_expr (h : EvK X F0 e Γ L fun _ L' => k.nx Γ L') (hs : swapsWith e none pos.line X.env = pure false := by rfl) : SK X F0 (.Expr e pos) Γ L k := fun F σ H Dn E q =>
  wpS.of (ps_expr we hs) (h F σ H _ E fun d L1 F1 v H1 h1 E1 s1 r1 => q.nx Γ L1 F1 σ H1 h1 E1)
theorem sk_if (h : EtK X F0 c Γ L fun t L1 => (t = true → BK X F0 body Γ L1 k) ∧ (t = false → BK X F0 orelse Γ L1 k)) : SK X F0 (.If c body orelse pos) Γ L k := fun F σ H Dn E q =>
  wpS.of (ps_if wt wb wb) (h F σ H _ E fun t L1 F1 H1 ⟨h1, h2⟩ E1 s1 => by
    cases t with
    | true =>
      rw [if_pos rfl]
      exact h1 rfl F1 σ H1 Dn E1 q
    | false =>
      rw [if_neg Bool.false_ne_true]
      exact h2 rfl F1 σ H1 Dn E1 q)
theorem sk_set (c : Cn X N Nc sc) {i : Nat} {x : Str} (h : EvK X F0 e Γ L fun d L' => ∃ Γ', Put Γ i (some d) Γ' ∧ k.nx Γ' L') (hi : N[i]? = some x := by rfl)
    (hs : swapsWith e (some (.Name x p')) pos.line X.env = pure false := by rfl) (hw : swappedStores [.Name x p'] e X.env = pure none := by rfl) : SK X F0 (.Assign [.Name x p'] e pos) Γ L k := fun F σ H Dn E q =>
  wpS.of (ps_set (i := i) (by rw [c.n]; exact c.nd) (by rw [c.n]; exact get_app hi) (by rw [c.scp]; exact c.loc x (List.mem_of_getElem? hi)) we hs (.inl (c.fn x)))
    (h F σ H _ E fun d L1 F1 v H1 ⟨Γ', hp, h1⟩ E1 s1 r1 => q.nx Γ' L1 F1 _ H1 h1 ⟨E1.ge, E1.led, E1.sl.put r1 hp⟩)
theorem sk_while (own : PassesOwn (model X.prog X.w) X.A X.env X.xe) (W : Nat → Gm → Lg → Prop) (m : Nat) (h0 : W m Γ L)
    (h : ∀ m Γ L, W m Γ L → EtK X F0 c Γ L fun t L1 => (t = true → BK X F0 body Γ L1 { k with nx := fun Γ' L' => ∃ m', m' < m ∧ W m' Γ' L', ct := fun Γ' L' => ∃ m', m' < m ∧ W m' Γ' L', bk := k.nx }) ∧ (t = false → k.nx Γ L1)) :
    SK X F0 (.While c body [] pos) Γ L k := fun F σ H Dn E q =>
  wpS.of (ps_while own wt wb) ⟨fun m σ H => ∃ F Γ L, W m Γ L ∧ At X.K F0 F Γ L σ H, ⟨m, F, Γ, L, h0, E⟩, fun m σ H ⟨F, Γ, L, hW, E⟩ => h m Γ L hW F σ H _ E fun t L1 F1 H1 ⟨h1, h2⟩ E1 s1 => by
    cases t with
    | true =>
      rw [if_pos rfl]
      refine ⟨fun σ' H' => ∃ m', m' < m ∧ ∃ F Γ L, W m' Γ L ∧ At X.K F0 F Γ L σ' H', fun σ' H' ⟨m', hm, x⟩ => ⟨m', hm, x⟩, ?_⟩
      exact h1 rfl F1 σ H1 _ E1 ⟨fun Γ L F σ H ⟨m', hm, hW⟩ E => ⟨m', hm, F, Γ, L, hW, E⟩, q.rt, q.nx, fun Γ L F σ H ⟨m', hm, hW⟩ E => ⟨m', hm, F, Γ, L, hW, E⟩⟩
    | false =>
      rw [if_neg Bool.false_ne_true]
      exact q.nx Γ L1 F1 σ H1 (h2 rfl) E1⟩
/-- raise B('..') -/
theorem sk_raise {x m : Str} {j : Nat} {p p2 pos2 : Pos} {C : Addr} (hc : X.calm = true) (tk : Takes X (ZW X.K F0 Z)) (q : PySem.W.excIn X.K C He.veBase "ValueError.__new__" = true) (gC : X.mg x = some (.ref C)) (kC : PySem.W.keepIn X.K (.ref C) = true) (r : Raises X (.ref C)) (hg : Gl X x)
    (h : Z ⟨.ref C, none⟩ Γ L) (hdb : (x == ("__debug__" : Str)) = false := by decide) : SK X F0 (.Raise (some (.Call (.Name x p) [.Constant (.str m) j p2] [] pos)) none pos2) Γ L k := fun F σ H Dn E _ =>
  wpS.of (ps_raise hc tk (pmk_own PySem.F.excBase_ValueError q gC kC r hg hdb)) ⟨⟨.ref C, none⟩, Γ, L, F, rfl, h, E, rfl⟩
/-- try: body except x as n: suite -/
theorem sk_try_as {x n : Str} {cv : Value} {i : Nat} {b₀ : Stmt} {suite : List Stmt} {np pos' : Pos} (cf : Cf X N Nc sc F0 Z) (hi : N[i]? = some n) (hln : sc.names.lookup n = some .local) (hc : Names X x cv)
    (hb : ∀ (pn : List (Addr × Obj)) (xe : Value → Shared → Prop) (Z' : Xc → Gm → Lg → Prop), Cf (X.tr pn xe) N Nc sc F0 Z' →
      (∀ y Γ' L', (∃ b, PySem.W.exmOne X.K y.c cv = some b ∧
        (b = true → ∀ (a : Addr) (oe : Obj) (pn : List (Addr × Obj)), (y.fs = none → Zc y.c none oe) → (∃ vs, oe.data = .fields vs) → Cn (X.suite a ((a, oe) :: pn)) N Nc sc → ∃ Γ1, Put Γ' i (some (.ref a)) Γ1 ∧ BK (X.suite a ((a, oe) :: pn)) F0 (b₀ :: suite) Γ1 L'
          { nx := fun Γ2 L2 => ∃ Γ3, Put Γ2 i none Γ3 ∧ k.nx Γ3 L2, rt := k.rt, bk := fun Γ2 L2 => ∃ Γ3, Put Γ2 i none Γ3 ∧ k.bk Γ3 L2, ct := fun Γ2 L2 => ∃ Γ3, Put Γ2 i none Γ3 ∧ k.ct Γ3 L2 }) ∧
        (b = false → Z y Γ' L')) → Z' y Γ' L') → BK (X.tr pn xe) F0 body Γ L k) :
    SK X F0 (.Try body [.ExceptHandler (some (.Name x np)) (some n) (b₀ :: suite) pos'] [] [] pos) Γ L k := fun F σ H Dn E q => by
  have hi' : X.N[i]? = some n := by rw [cf.n]; exact get_app hi
  refine wpS.of (ps_try_as (i := i) (Wout := ZW X.K F0 Z)
    (tb := fun W Dn σ H => ∀ (pn : List (Addr × Obj)) (xe : Value → Shared → Prop), Takes (X.tr pn xe) W → PassesOwn (model X.prog X.w) X.A X.env xe → wpB (X.tr pn xe) body Dn σ H)
    (ts := fun a cls d Dn σ H => ∀ (oe : Obj) (pn : List (Addr × Obj)), Zc cls d oe → (∃ vs, oe.data = .fields vs) → wpB (X.suite a ((a, oe) :: pn)) (b₀ :: suite) Dn σ H)
    cf.stk cf.fr (by rw [cf.n]; exact cf.nd) hi' (by show X.env.scope.names.lookup n = _; rw [cf.scp]; exact hln) hc cf.tk
    (fun W pn xe tk own => ⟨fun pins s σ H Dn I h => h pn xe tk own pins s I⟩) (fun a oe cls d pn hz hf => ⟨fun pins s σ H Dn I h => h oe pn hz hf pins s I⟩)) ?_
  intro pn xe tk own
  refine hb pn xe (fun y Γ' L' => ∃ b, PySem.W.exmOne X.K y.c cv = some b ∧
        (b = true → ∀ (a : Addr) (oe : Obj) (pn : List (Addr × Obj)), (y.fs = none → Zc y.c none oe) → (∃ vs, oe.data = .fields vs) → Cn (X.suite a ((a, oe) :: pn)) N Nc sc → ∃ Γ1, Put Γ' i (some (.ref a)) Γ1 ∧ BK (X.suite a ((a, oe) :: pn)) F0 (b₀ :: suite) Γ1 L'
          { nx := fun Γ2 L2 => ∃ Γ3, Put Γ2 i none Γ3 ∧ k.nx Γ3 L2, rt := k.rt, bk := fun Γ2 L2 => ∃ Γ3, Put Γ2 i none Γ3 ∧ k.bk Γ3 L2, ct := fun Γ2 L2 => ∃ Γ3, Put Γ2 i none Γ3 ∧ k.ct Γ3 L2 }) ∧
        (b = false → Z y Γ' L')) ⟨⟨cf.n, cf.nd, cf.scp, cf.loc, cf.fn⟩, cf.calm, own, tk.imp ?_, cf.stk, cf.fr⟩ (fun _ _ _ h => h) F σ H Dn E ⟨q.nx, q.rt, q.bk, q.ct⟩
  rintro cls od σ' H' ⟨y, Γ', L', F', rfl, ⟨b, h1, h2, h3⟩, E', x'⟩
  refine ⟨b, h1, fun hb a na => ?_, fun hb => ⟨y, Γ', L', F', rfl, h3 hb, E', x'⟩⟩
  intro oe pn hz hf
  obtain ⟨Γ1, p1, h4⟩ := h2 hb a oe pn (fun hn => by
    have e : od = none := by
      unfold XRep at x'
      rw [hn] at x'
      exact x'
    rw [e] at hz
    exact hz) hf ⟨cf.n, cf.nd, cf.scp, cf.loc, cf.fn⟩
  refine h4 F' _ H' _ ⟨E'.ge, E'.led, E'.sl.put .ref p1⟩ ⟨?_, q.rt, ?_, ?_⟩
  · rintro Γ2 L2 F2 σ2 H2 ⟨Γ3, p3, h5⟩ E2
    exact q.nx Γ3 L2 F2 _ H2 h5 ⟨E2.ge, E2.led, E2.sl.out p3⟩
  · rintro Γ2 L2 F2 σ2 H2 ⟨Γ3, p3, h5⟩ E2
    exact q.bk Γ3 L2 F2 _ H2 h5 ⟨E2.ge, E2.led, E2.sl.out p3⟩
  · rintro Γ2 L2 F2 σ2 H2 ⟨Γ3, p3, h5⟩ E2
    exact q.ct Γ3 L2 F2 _ H2 h5 ⟨E2.ge, E2.led, E2.sl.out p3⟩
end
/-! ### a def -/
theorem reps_slots {K : PySem.W.Frag} {F : Hp} : ∀ {ds : List D} {vs : List V} (n : Nat), Reps K F ds vs → Slots K F (ds.map some ++ List.replicate n none) (vs.map some ++ List.replicate n none)
  | _, _, n, .nil => by
    induction n with
    | zero => exact .nil
    | succ n ih => exact .no ih
  | _, _, n, .cons r t => .so r (reps_slots n t)
def locs (N : List Str) (sc : Scope) : Bool := N.all fun x => decide (sc.names.lookup x = some .local) || decide (sc.names.lookup x = some .cell)
theorem locs_ok {N : List Str} {sc : Scope} (h : locs N sc = true) : ∀ x ∈ N, L2.Loc sc x := fun x hx => by
  have := List.all_eq_true.mp h x hx
  simp only [Bool.or_eq_true, decide_eq_true_eq] at this
  exact this
/-- the def at f keeps the promise S -/
theorem fn_ok {P : Program} {w : World} {K : PySem.W.Frag} {mg : Str → Option Value} {base : Heap} {x qual : Str} {params : Arguments} {body : List Stmt} {scope : Scope} {f : Addr} {fd : FuncData} {N Nc ps : List Str} {n : Nat} {S : SpD}
    (F : FunD K x qual params body scope [] [] f fd) (Sc : FnScope (N ++ Nc) ps scope) (hl : locs N scope = true) (hlen : ∀ ds L q e, S ds L q e → ds.length = ps.length)
    (hb : ∀ (X : Cx) (F0 : Hp) (ds : List D) (L : Lg) (q : D → Lg → Prop) (e : Xc → Lg → Prop), X.prog = P → X.w = w → X.K = K → X.mg = mg → X.base = base → Cf X N Nc scope F0 (fun y _ L' => e y L') → Room n X.A → S ds L q e →
      BK X F0 body (ds.map some ++ List.replicate ((N ++ Nc).length - ps.length) none) L { nx := fun _ L' => q .non L', rt := q }) :
    FnOk P w K mg base (L2.CX P w) (n + 1) f fd ps (spOf K S) := by
  refine F.ok Sc (fun vs H Q E h => ?_) (fun cdv A outer s H vs Q E hr h => ?_)
  · obtain ⟨F, ds, L, q, e, l, r, hS, _⟩ := h
    rw [← r.length]
    exact hlen _ _ _ _ hS
  · obtain ⟨F1, ds, L, q, e, l, r, hS, k1, k2⟩ := h
    have hlen' := hlen _ _ _ _ hS
    refine ⟨_, wb, ?_⟩
    have tk : Takes (cxOf (L2.CX P w) P w K mg base (N ++ Nc) qual scope f cdv A outer s H E) (fun cls d _ H => E cls d H) := takes_of rfl rfl rfl rfl
    have cf : Cf (cxOf (L2.CX P w) P w K mg base (N ++ Nc) qual scope f cdv A outer s H E) N Nc scope F1 (fun y _ L' => e y L') :=
      ⟨⟨rfl, Sc.nd, rfl, locs_ok hl, fun _ => rfl⟩, rfl, passes_of rfl, tk.imp (fun cls od σ H' ⟨y, Γ, L', F', ec, he, E', x'⟩ => by
        subst ec
        exact k2 y L' F' od H' he E'.ge E'.led x'), rfl, rfl⟩
    have E1 : At K F1 F1 (ds.map some ++ List.replicate ((N ++ Nc).length - ps.length) none) L (L2.start (N ++ Nc) vs) H := ⟨Same.refl F1, l, by
      have hv : (N ++ Nc).length - ps.length = (N ++ Nc).length - vs.length := by rw [← r.length, hlen']
      unfold L2.start
      rw [hv]
      exact reps_slots _ r⟩
    exact hb (cxOf (L2.CX P w) P w K mg base (N ++ Nc) qual scope f cdv A outer s H E) F1 ds L q e rfl rfl rfl rfl rfl cf hr hS F1 _ H _ E1
      ⟨fun Γ L' F' σ H' h' E' => k1 .non L' F' .non H' h' E'.ge E'.led .non, fun d L' F' v H' h' s' l' r' => k1 d L' F' v H' h' s' l' r', fun _ _ _ _ _ h' _ => h'.elim, fun _ _ _ _ _ h' _ => h'.elim⟩
end Vs

set_option Elab.async false
set_option linter.all false
set_option maxRecDepth 100000
set_option maxHeartbeats 4000000
namespace Vs
open PySem PySem.Spec PyProof.Rows L2
/-! ### lists that are read: standing still, or of the ledger -/
inductive AsL (L : Lg) : D → List D → Prop
  | lst {ds : List D} : AsL L (.lst ds) ds
  | own {p : Addr} {ds : List D} {j : Nat} : Get L j (p, C.lst ds) → AsL L (.ref p) ds
theorem Get.mem {α : Type} {x : α} : ∀ {xs : List α} {i : Nat}, Get xs i x → x ∈ xs
  | _, _, .z => List.mem_cons_self
  | _, _, .s g => List.mem_cons_of_mem _ g.mem
section
variable {K : PySem.W.Frag} {F F' H : Hp} {L : Lg} {x : D} {v : V} {ds : List D}
theorem AsL.read (a : AsL L x ds) (l : Led K F L H) (r : Rep K F x v) : ∃ p xs, v = .ref p ∧ SqL K H p xs ∧ Reps K F ds xs := by
  cases a with
  | lst =>
    cases r with
    | lst h r => exact ⟨_, _, rfl, l.sub.seq h, r⟩
  | own g =>
    cases r
    obtain ⟨_, xs, h1, h2⟩ := l.ent _ g.mem
    exact ⟨_, xs, rfl, .inl (.inl h1), h2⟩
theorem Reps.at {i : Int} {d : D} {vs : List V} (r : Reps K F ds vs) (h : atI ds i = some d) : ∃ v, atI vs i = some v ∧ Rep K F d v := by
  unfold atI at h ⊢
  rw [r.length] at h
  cases e : ixN vs.length i with
  | none => rw [e] at h; cases h
  | some j =>
    rw [e] at h
    exact r.get h
def cutD (xs : List D) (lo hi : Option Int) : List D := (xs.drop (HT.sIx xs.length 0 lo)).take (HT.sIx xs.length xs.length hi - HT.sIx xs.length 0 lo)
theorem Reps.cut {vs : List V} {lo hi : Option Int} (r : Reps K F ds vs) : Reps K F (cutD ds lo hi) (cutV vs lo hi) := by
  unfold cutD cutV
  rw [r.length]
  exact (r.drop _).take _
end
theorem op_catQ {X : Cx} : OpR X (binaryOp .Add) (fun x y H Q => ∃ l b xs zs, x = .ref l ∧ y = .ref b ∧ SqL X.K H l xs ∧ SqL X.K H b zs ∧ xs.length + zs.length ≤ sizeLine ∧ ∀ p, H p = none → Q (.ref p) (upd H p (.lst (xs ++ zs)))) := by
  intro pins s σ H x y v u Q I rx ry h
  obtain ⟨l, b, xs, zs, rfl, rfl, hH, hB, hz, q⟩ := h
  cases rx
  cases ry
  obtain ⟨its, r, ⟨o1, n1, g1, c1, d1, e1⟩, hl⟩ := I.list hH
  obtain ⟨its2, r2, ⟨o2, n2, g2, c2, d2, e2⟩, hl2⟩ := I.list hB
  obtain ⟨oc, od, dt, sl⟩ := o1
  obtain ⟨oc2, od2, dt2, sl2⟩ := o2
  dsimp only at c1 e1 c2 e2
  subst c1 e1 c2 e2
  have hn1 := r.length
  have hn2 := r2.length
  have e : its.toArray ++ its2.toArray = (its ++ its2).toArray := by simp
  refine concat_meets ⟨_, g1, rfl⟩ ⟨_, g2, rfl⟩ noFill_list_add seq_list_add PySem.F.slot_list_add PySem.F.entry_list_add (PySem.F.args_list_add_2 _ _) (list_addW l b its.toArray its2.toArray n1 n2 od od2 sl sl2 (by simp only [List.size_toArray]; omega)) ⟨g1, g2, ?_⟩
  rw [e]
  exact ⟨.ref _, _, I.lnew (t' := s.toks) (r.append r2) (by rw [List.length_append]; omega), rfl, q _ I.fresh⟩
section
variable {X : Cx} {F0 : Hp} {Γ : Gm} {L : Lg} {k : D → Lg → Prop} {ka : List D → Lg → Prop} {kt : Bool → Lg → Prop} {e a b c : Expr} {es rest : List Expr} {pos p2 : Pos} {lo hi : Option Expr}
theorem At.new {K : PySem.W.Frag} {F0 F H : Hp} {Γ : Gm} {L : Lg} {σ : L2.St} {p : Addr} {o : HO} (E : At K F0 F Γ L σ H) (hp : H p = none) : At K F0 (upd F p o) Γ L σ (upd H p o) :=
  ⟨E.ge.trans (same_new (E.led.free hp)), E.led.new hp, E.sl.mono (same_new (E.led.free hp))⟩
theorem At.to {K : PySem.W.Frag} {F0 F F' H : Hp} {Γ : Gm} {L : Lg} {σ : L2.St} (E : At K F0 F Γ L σ H) (s : Same F F') {L' : Lg} {H' : Hp} (l : Led K F' L' H') : At K F0 F' Γ L' σ H' := ⟨E.ge.trans s, l, E.sl.mono s⟩
/-- xs + ys, lists -/
theorem ek_cat (h : EvK X F0 a Γ L fun x L1 => EvK X F0 b Γ L1 fun y L2 => ∃ ds es, AsL L2 x ds ∧ AsL L2 y es ∧ ds.length + es.length ≤ sizeLine ∧ k (.lst (ds ++ es)) L2) : EvK X F0 (.BinOp a .Add b pos) Γ L k := fun F σ H Q E q =>
  wpE.of (pe_op op_catQ we we) (h F σ H _ E fun x L1 F1 v H1 h1 E1 s1 r1 => h1 F1 σ H1 _ E1 fun y L2 F2 u H2 ⟨ds, es, a1, a2, hz, h2⟩ E2 s2 r2 => by
    obtain ⟨p, xs, rfl, hx, rx⟩ := a1.read E2.led (r1.mono s2)
    obtain ⟨p', ys, rfl, hy, ry⟩ := a2.read E2.led r2
    refine ⟨p, p', xs, ys, rfl, rfl, hx, hy, by rw [← rx.length, ← ry.length]; exact hz, fun n hn => ?_⟩
    have s3 : Same F2 (upd F2 n (.lst (xs ++ ys))) := same_new (E2.led.free hn)
    exact q _ L2 _ _ _ h2 (E2.new hn) (s1.trans (s2.trans s3)) (.lst (.inl (.inl upd_same)) ((rx.append ry).mono s3)))
theorem ek_catO (h : EvK X F0 a Γ L fun x L1 => EvK X F0 b Γ L1 fun y L2 => ∃ ds es, AsL L2 x ds ∧ AsL L2 y es ∧ ds.length + es.length ≤ sizeLine ∧ ∀ p, k (.ref p) ((p, .lst (ds ++ es)) :: L2)) : EvK X F0 (.BinOp a .Add b pos) Γ L k := fun F σ H Q E q =>
  wpE.of (pe_op op_catQ we we) (h F σ H _ E fun x L1 F1 v H1 h1 E1 s1 r1 => h1 F1 σ H1 _ E1 fun y L2 F2 u H2 ⟨ds, es, a1, a2, hz, h2⟩ E2 s2 r2 => by
    obtain ⟨p, xs, rfl, hx, rx⟩ := a1.read E2.led (r1.mono s2)
    obtain ⟨p', ys, rfl, hy, ry⟩ := a2.read E2.led r2
    refine ⟨p, p', xs, ys, rfl, rfl, hx, hy, by rw [← rx.length, ← ry.length]; exact hz, fun n hn => ?_⟩
    exact q _ _ F2 _ _ (h2 n) (E2.to (Same.refl F2) (E2.led.newL hn (rx.append ry))) (s1.trans s2) .ref)
theorem ek_cats (h : EvK X F0 a Γ L fun x L1 => ∃ i, x = .str i ∧ EvK X F0 b Γ L1 fun y L2 => ∃ j, y = .str j ∧ i.length + j.length ≤ sizeLine ∧ k (.str (i ++ j)) L2) : EvK X F0 (.BinOp a .Add b pos) Γ L k := fun F σ H Q E q =>
  wpE.of (pe_op op_add_str we we) (h F σ H _ E fun x L1 F1 v H1 ⟨i, e1, h1⟩ E1 s1 r1 => h1 F1 σ H1 _ E1 fun y L2 F2 u H2 ⟨j, e2, hc, h2⟩ E2 s2 r2 => by
    subst e1 e2
    cases r1
    cases r2
    exact ⟨i, j, rfl, rfl, hc, q _ L2 F2 _ H2 h2 E2 (s1.trans s2) .str⟩)
/-- xs[i] of a list, of a tuple, of a text -/
theorem ek_ix (h : EvK X F0 a Γ L fun x L1 => EvK X F0 b Γ L1 fun y L2 => ∃ ds i d, AsL L2 x ds ∧ y = .int i ∧ atI ds i = some d ∧ k d L2) (hs : PlainIx b) : EvK X F0 (.Subscript a b pos) Γ L k := fun F σ H Q E q =>
  wpE.of (pe_ix ix_list we we hs) (h F σ H _ E fun x L1 F1 v H1 h1 E1 s1 r1 => h1 F1 σ H1 _ E1 fun y L2 F2 u H2 ⟨ds, i, d, a1, e2, hd, h2⟩ E2 s2 r2 => by
    subst e2
    cases r2
    obtain ⟨p, xs, rfl, hx, rx⟩ := a1.read E2.led (r1.mono s2)
    obtain ⟨w, hw, rw_⟩ := rx.at hd
    exact ⟨p, xs, i, w, rfl, rfl, hx, hw, q d L2 F2 w H2 h2 E2 (s1.trans s2) rw_⟩)
theorem ek_ixT (h : EvK X F0 a Γ L fun x L1 => EvK X F0 b Γ L1 fun y L2 => ∃ ds i d, x = .tup ds ∧ y = .int i ∧ atI ds i = some d ∧ k d L2) (hs : PlainIx b) : EvK X F0 (.Subscript a b pos) Γ L k := fun F σ H Q E q =>
  wpE.of (pe_ix ix_tup we we hs) (h F σ H _ E fun x L1 F1 v H1 h1 E1 s1 r1 => h1 F1 σ H1 _ E1 fun y L2 F2 u H2 ⟨ds, i, d, e1, e2, hd, h2⟩ E2 s2 r2 => by
    subst e1 e2
    cases r2
    cases r1 with
    | tup hx rx =>
      obtain ⟨w, hw, rw_⟩ := rx.at hd
      exact ⟨_, _, i, w, rfl, rfl, seqT E2.led.sub (seqT s2 hx), hw, q d L2 F2 w H2 h2 E2 (s1.trans s2) (rw_.mono s2)⟩)
theorem ek_ixS (h : EvK X F0 a Γ L fun x L1 => EvK X F0 b Γ L1 fun y L2 => ∃ z i c, x = .str z ∧ y = .int i ∧ z.length ≤ sizeLine ∧ atI z.cps.toList i = some c ∧ k (.str ⟨#[c]⟩) L2) (hs : PlainIx b) : EvK X F0 (.Subscript a b pos) Γ L k := fun F σ H Q E q =>
  wpE.of (pe_ix ix_str we we hs) (h F σ H _ E fun x L1 F1 v H1 h1 E1 s1 r1 => h1 F1 σ H1 _ E1 fun y L2 F2 u H2 ⟨z, i, c, e1, e2, hz, hd, h2⟩ E2 s2 r2 => by
    subst e1 e2
    cases r2
    cases r1
    exact ⟨z, i, c, rfl, rfl, hz, hd, q _ L2 F2 _ H2 h2 E2 (s1.trans s2) .str⟩)
/-! slices -/
def wpO (X : Cx) (o : Option Expr) : TO := fun σ H Q => ∀ pins s, Inv X pins σ H s → wpAny (model X.prog X.w) X.A (evalPart o X.env) (fun u s' => ∃ o H', Inv X pins σ H' s' ∧ IsPart u o ∧ Q o H') X.xe s
theorem wo {o : Option Expr} : PO X o (wpO X o) := ⟨fun pins s _ _ _ I h => h pins s I⟩
theorem wpO.of {o : Option Expr} {t : TO} {σ : L2.St} {H : Hp} {Q : Option Int → Hp → Prop} (p : PO X o t) (h : t σ H Q) : wpO X o σ H Q := fun pins s I => p.run pins s σ H Q I h
def EoK (X : Cx) (F0 : Hp) (o : Option Expr) (Γ : Gm) (L : Lg) (k : Option Int → Lg → Prop) : Prop := ∀ (F : Hp) (σ : L2.St) (H : Hp) (Q : Option Int → Hp → Prop), At X.K F0 F Γ L σ H →
  (∀ (i : Option Int) (L' : Lg) (F' : Hp) (H' : Hp), k i L' → At X.K F0 F' Γ L' σ H' → Same F F' → Q i H') → wpO X o σ H Q
theorem eo_n {k : Option Int → Lg → Prop} (h : k none L) : EoK X F0 none Γ L k := fun F σ H Q E q => wpO.of po_none (q none L F H h E (Same.refl F))
theorem eo_s {k : Option Int → Lg → Prop} (h : EvK X F0 a Γ L fun x L1 => ∃ i, x = .int i ∧ k (some i) L1) : EoK X F0 (some a) Γ L k := fun F σ H Q E q =>
  wpO.of (po_some we) (h F σ H _ E fun x L1 F1 v H1 ⟨i, e1, h1⟩ E1 s1 r1 => by
    subst e1
    cases r1
    exact ⟨i, rfl, q (some i) L1 F1 H1 h1 E1 s1⟩)
theorem ek_sl (h : EvK X F0 a Γ L fun x L1 => EoK X F0 lo Γ L1 fun i L2 => EoK X F0 hi Γ L2 fun j L3 => ∃ ds, AsL L3 x ds ∧ k (.lst (cutD ds i j)) L3) : EvK X F0 (.Subscript a (.Slice lo hi none p2) pos) Γ L k := fun F σ H Q E q =>
  wpE.of (pe_slice sl_list we wo wo) (h F σ H _ E fun x L1 F1 v H1 h1 E1 s1 r1 => h1 F1 σ H1 _ E1 fun i L2 F2 H2 h2 E2 s2 => h2 F2 σ H2 _ E2 fun j L3 F3 H3 ⟨ds, a1, h3⟩ E3 s3 => by
    obtain ⟨p, xs, rfl, hx, rx⟩ := a1.read E3.led (r1.mono (s2.trans s3))
    refine ⟨p, xs, rfl, hx, fun n hn => ?_⟩
    have s4 : Same F3 (upd F3 n (.lst (cutV xs i j))) := same_new (E3.led.free hn)
    exact q _ L3 _ _ _ h3 (E3.new hn) (s1.trans (s2.trans (s3.trans s4))) (.lst (.inl (.inl upd_same)) (rx.cut.mono s4)))
theorem ek_slO (h : EvK X F0 a Γ L fun x L1 => EoK X F0 lo Γ L1 fun i L2 => EoK X F0 hi Γ L2 fun j L3 => ∃ ds, AsL L3 x ds ∧ ∀ p, k (.ref p) ((p, .lst (cutD ds i j)) :: L3)) : EvK X F0 (.Subscript a (.Slice lo hi none p2) pos) Γ L k := fun F σ H Q E q =>
  wpE.of (pe_slice sl_list we wo wo) (h F σ H _ E fun x L1 F1 v H1 h1 E1 s1 r1 => h1 F1 σ H1 _ E1 fun i L2 F2 H2 h2 E2 s2 => h2 F2 σ H2 _ E2 fun j L3 F3 H3 ⟨ds, a1, h3⟩ E3 s3 => by
    obtain ⟨p, xs, rfl, hx, rx⟩ := a1.read E3.led (r1.mono (s2.trans s3))
    refine ⟨p, xs, rfl, hx, fun n hn => ?_⟩
    exact q _ _ F3 _ _ (h3 n) (E3.to (Same.refl F3) (E3.led.newL hn rx.cut)) (s1.trans (s2.trans s3)) .ref)
theorem ek_slS (h : EvK X F0 a Γ L fun x L1 => ∃ z, x = .str z ∧ z.length ≤ sizeLine ∧ EoK X F0 lo Γ L1 fun i L2 => EoK X F0 hi Γ L2 fun j L3 => k (.str (cutS z i j)) L3) : EvK X F0 (.Subscript a (.Slice lo hi none p2) pos) Γ L k := fun F σ H Q E q =>
  wpE.of (pe_slice sl_str we wo wo) (h F σ H _ E fun x L1 F1 v H1 ⟨z, e1, hz, h1⟩ E1 s1 r1 => h1 F1 σ H1 _ E1 fun i L2 F2 H2 h2 E2 s2 => h2 F2 σ H2 _ E2 fun j L3 F3 H3 h3 E3 s3 => by
    subst e1
    cases r1
    exact ⟨z, rfl, hz, q _ L3 F3 _ H3 h3 E3 (s1.trans (s2.trans s3)) .str⟩)
end
end Vs

set_option Elab.async false
set_option linter.all false
set_option maxRecDepth 100000
set_option maxHeartbeats 4000000
namespace Vs
open PySem PySem.Spec PyProof.Rows L2
/-- a reading -/
def RdK (X : Cx) (F0 : Hp) (t : TE) (Γ : Gm) (L : Lg) (k : D → Lg → Prop) : Prop := ∀ (F : Hp) (σ : L2.St) (H : Hp) (Q : VK), At X.K F0 F Γ L σ H →
  (∀ (d : D) (L' : Lg) (F' : Hp) (v : V) (H' : Hp), k d L' → At X.K F0 F' Γ L' σ H' → Same F F' → Rep X.K F' d v → Q v H') → t σ H Q
section
variable {X : Cx} {F0 : Hp} {Γ : Gm} {L : Lg} {k : D → Lg → Prop} {kt : Bool → Lg → Prop} {e : Expr} {t : TE}
theorem RdK.ev (r : RdK X F0 t Γ L k) (p : PE X e t) : EvK X F0 e Γ L k := fun F σ H Q E q => wpE.of p (r F σ H Q E q)
theorem RdK.tst (r : RdK X F0 t Γ L fun d L' => ∃ b, d = .bl b ∧ kt b L') (p : PT X e (tTest t)) : EtK X F0 e Γ L kt := fun F σ H Q E q =>
  wpT.of p (r F σ H _ E fun d L' F' v H' ⟨b, e1, h⟩ E' s r => by
    subst e1
    cases r
    exact ⟨b, rfl, q b L' F' H' h E' s⟩)
end
section
variable {X : Cx} {F0 : Hp} {Γ : Gm} {L : Lg} {k : D → Lg → Prop} {ka : List D → Lg → Prop} {kt : Bool → Lg → Prop} {e a b c : Expr} {es rest : List Expr} {pos p2 : Pos}
/-! comparisons of numbers -/
theorem rd_cmpI {g : Int → Int → Bool} (h : EvK X F0 a Γ L fun x L1 => ∃ i, x = .int i ∧ EvK X F0 b Γ L1 fun y L2 => ∃ j, y = .int j ∧ k (.bl (g i j)) L2) : RdK X F0 (tOp (rI0 fun i j => .bl (g i j)) (wpE X a) (wpE X b)) Γ L k := fun F σ H Q E q =>
  h F σ H _ E fun x L1 F1 v H1 ⟨i, e1, h1⟩ E1 s1 r1 => h1 F1 σ H1 _ E1 fun y L2 F2 u H2 ⟨j, e2, h2⟩ E2 s2 r2 => by
    subst e1 e2
    cases r1
    cases r2
    exact ⟨i, j, rfl, rfl, q _ L2 F2 _ H2 h2 E2 (s1.trans s2) .bl⟩
theorem ek_cmpI {op : CmpOp} {g : Int → Int → Bool} (ho : OpR X (compareOp op) (rI0 fun i j => .bl (g i j)))
    (h : EvK X F0 a Γ L fun x L1 => ∃ i, x = .int i ∧ EvK X F0 b Γ L1 fun y L2 => ∃ j, y = .int j ∧ k (.bl (g i j)) L2) (hm : behindInMarks op b = false) : EvK X F0 (.Compare a [op] [b] pos) Γ L k := (rd_cmpI h).ev (pe_cmpR ho we we hm)
theorem et_cmpI {op : CmpOp} {g : Int → Int → Bool} (ho : OpR X (compareOp op) (rI0 fun i j => .bl (g i j)))
    (h : EvK X F0 a Γ L fun x L1 => ∃ i, x = .int i ∧ EvK X F0 b Γ L1 fun y L2 => ∃ j, y = .int j ∧ kt (g i j) L2) (hm : behindInMarks op b = false) : EtK X F0 (.Compare a [op] [b] pos) Γ L kt := (rd_cmpI (k := fun d L' => ∃ b, d = .bl b ∧ kt b L') (by
  exact fun F σ H Q E q => h F σ H Q E fun x L1 F1 v H1 ⟨i, e1, h1⟩ E1 s1 r1 => q x L1 F1 v H1 ⟨i, e1, fun F σ H Q E q => h1 F σ H Q E fun y L2 F2 u H2 ⟨j, e2, h2⟩ E2 s2 r2 => q y L2 F2 u H2 ⟨j, e2, _, rfl, h2⟩ E2 s2 r2⟩ E1 s1 r1)).tst (pt_cmpR ho we we hm)
theorem ek_lt (h : EvK X F0 a Γ L fun x L1 => ∃ i, x = .int i ∧ EvK X F0 b Γ L1 fun y L2 => ∃ j, y = .int j ∧ k (.bl (decide (i < j))) L2) (hm : behindInMarks .Lt b = false := by rfl) : EvK X F0 (.Compare a [.Lt] [b] pos) Γ L k := ek_cmpI op_lt h hm
theorem et_lt (h : EvK X F0 a Γ L fun x L1 => ∃ i, x = .int i ∧ EvK X F0 b Γ L1 fun y L2 => ∃ j, y = .int j ∧ kt (decide (i < j)) L2) (hm : behindInMarks .Lt b = false := by rfl) : EtK X F0 (.Compare a [.Lt] [b] pos) Γ L kt := et_cmpI op_lt h hm
theorem ek_le (h : EvK X F0 a Γ L fun x L1 => ∃ i, x = .int i ∧ EvK X F0 b Γ L1 fun y L2 => ∃ j, y = .int j ∧ k (.bl (decide (i ≤ j))) L2) (hm : behindInMarks .LtE b = false := by rfl) : EvK X F0 (.Compare a [.LtE] [b] pos) Γ L k := ek_cmpI op_le h hm
theorem et_le (h : EvK X F0 a Γ L fun x L1 => ∃ i, x = .int i ∧ EvK X F0 b Γ L1 fun y L2 => ∃ j, y = .int j ∧ kt (decide (i ≤ j)) L2) (hm : behindInMarks .LtE b = false := by rfl) : EtK X F0 (.Compare a [.LtE] [b] pos) Γ L kt := et_cmpI op_le h hm
theorem ek_gt (h : EvK X F0 a Γ L fun x L1 => ∃ i, x = .int i ∧ EvK X F0 b Γ L1 fun y L2 => ∃ j, y = .int j ∧ k (.bl (decide (j < i))) L2) (hm : behindInMarks .Gt b = false := by rfl) : EvK X F0 (.Compare a [.Gt] [b] pos) Γ L k := ek_cmpI op_gt h hm
theorem et_gt (h : EvK X F0 a Γ L fun x L1 => ∃ i, x = .int i ∧ EvK X F0 b Γ L1 fun y L2 => ∃ j, y = .int j ∧ kt (decide (j < i)) L2) (hm : behindInMarks .Gt b = false := by rfl) : EtK X F0 (.Compare a [.Gt] [b] pos) Γ L kt := et_cmpI op_gt h hm
theorem ek_ge (h : EvK X F0 a Γ L fun x L1 => ∃ i, x = .int i ∧ EvK X F0 b Γ L1 fun y L2 => ∃ j, y = .int j ∧ k (.bl (decide (j ≤ i))) L2) (hm : behindInMarks .GtE b = false := by rfl) : EvK X F0 (.Compare a [.GtE] [b] pos) Γ L k := ek_cmpI op_ge h hm
theorem et_ge (h : EvK X F0 a Γ L fun x L1 => ∃ i, x = .int i ∧ EvK X F0 b Γ L1 fun y L2 => ∃ j, y = .int j ∧ kt (decide (j ≤ i)) L2) (hm : behindInMarks .GtE b = false := by rfl) : EtK X F0 (.Compare a [.GtE] [b] pos) Γ L kt := et_cmpI op_ge h hm
theorem rd_eqI (h : EvK X F0 a Γ L fun x L1 => ∃ i, x = .int i ∧ EvK X F0 b Γ L1 fun y L2 => ∃ j, y = .int j ∧ k (.bl (decide (i = j))) L2) : RdK X F0 (tOp rEq (wpE X a) (wpE X b)) Γ L k := fun F σ H Q E q =>
  h F σ H _ E fun x L1 F1 v H1 ⟨i, e1, h1⟩ E1 s1 r1 => h1 F1 σ H1 _ E1 fun y L2 F2 u H2 ⟨j, e2, h2⟩ E2 s2 r2 => by
    subst e1 e2
    cases r1
    cases r2
    refine ⟨rfl, ?_⟩
    have z : decide (V.int i = V.int j) = decide (i = j) := by rw [dec_int]; by_cases h : i = j <;> simp [h]
    rw [z]
    exact q _ L2 F2 _ H2 h2 E2 (s1.trans s2) .bl
theorem ek_eqI (h : EvK X F0 a Γ L fun x L1 => ∃ i, x = .int i ∧ EvK X F0 b Γ L1 fun y L2 => ∃ j, y = .int j ∧ k (.bl (decide (i = j))) L2) (hm : behindInMarks .Eq b = false := by rfl) : EvK X F0 (.Compare a [.Eq] [b] pos) Γ L k := (rd_eqI h).ev (pe_cmpR op_eq we we hm)
theorem et_eqI (h : EvK X F0 a Γ L fun x L1 => ∃ i, x = .int i ∧ EvK X F0 b Γ L1 fun y L2 => ∃ j, y = .int j ∧ kt ((decide (i = j))) L2) (hm : behindInMarks .Eq b = false := by rfl) : EtK X F0 (.Compare a [.Eq] [b] pos) Γ L kt := (rd_eqI (k := fun d L' => ∃ b, d = .bl b ∧ kt b L') (by
  exact fun F σ H Q E q => h F σ H Q E fun x L1 F1 v H1 ⟨i, e1, h1⟩ E1 s1 r1 => q x L1 F1 v H1 ⟨i, e1, fun F σ H Q E q => h1 F σ H Q E fun y L2 F2 u H2 ⟨j, e2, h2⟩ E2 s2 r2 => q y L2 F2 u H2 ⟨j, e2, _, rfl, h2⟩ E2 s2 r2⟩ E1 s1 r1)).tst (pt_cmpR op_eq we we hm)

theorem rd_neI (h : EvK X F0 a Γ L fun x L1 => ∃ i, x = .int i ∧ EvK X F0 b Γ L1 fun y L2 => ∃ j, y = .int j ∧ k (.bl (!decide (i = j))) L2) : RdK X F0 (tOp rNe (wpE X a) (wpE X b)) Γ L k := fun F σ H Q E q =>
  h F σ H _ E fun x L1 F1 v H1 ⟨i, e1, h1⟩ E1 s1 r1 => h1 F1 σ H1 _ E1 fun y L2 F2 u H2 ⟨j, e2, h2⟩ E2 s2 r2 => by
    subst e1 e2
    cases r1
    cases r2
    refine ⟨rfl, ?_⟩
    have z : decide (V.int i = V.int j) = decide (i = j) := by rw [dec_int]; by_cases h : i = j <;> simp [h]
    rw [z]
    exact q _ L2 F2 _ H2 h2 E2 (s1.trans s2) .bl
theorem ek_neI (h : EvK X F0 a Γ L fun x L1 => ∃ i, x = .int i ∧ EvK X F0 b Γ L1 fun y L2 => ∃ j, y = .int j ∧ k (.bl (!decide (i = j))) L2) (hm : behindInMarks .NotEq b = false := by rfl) : EvK X F0 (.Compare a [.NotEq] [b] pos) Γ L k := (rd_neI h).ev (pe_cmpR op_ne we we hm)
theorem et_neI (h : EvK X F0 a Γ L fun x L1 => ∃ i, x = .int i ∧ EvK X F0 b Γ L1 fun y L2 => ∃ j, y = .int j ∧ kt ((!decide (i = j))) L2) (hm : behindInMarks .NotEq b = false := by rfl) : EtK X F0 (.Compare a [.NotEq] [b] pos) Γ L kt := (rd_neI (k := fun d L' => ∃ b, d = .bl b ∧ kt b L') (by
  exact fun F σ H Q E q => h F σ H Q E fun x L1 F1 v H1 ⟨i, e1, h1⟩ E1 s1 r1 => q x L1 F1 v H1 ⟨i, e1, fun F σ H Q E q => h1 F σ H Q E fun y L2 F2 u H2 ⟨j, e2, h2⟩ E2 s2 r2 => q y L2 F2 u H2 ⟨j, e2, _, rfl, h2⟩ E2 s2 r2⟩ E1 s1 r1)).tst (pt_cmpR op_ne we we hm)

theorem rd_eqS (h : EvK X F0 a Γ L fun x L1 => ∃ i, x = .str i ∧ EvK X F0 b Γ L1 fun y L2 => ∃ j, y = .str j ∧ k (.bl (decide (i = j))) L2) : RdK X F0 (tOp rEq (wpE X a) (wpE X b)) Γ L k := fun F σ H Q E q =>
  h F σ H _ E fun x L1 F1 v H1 ⟨i, e1, h1⟩ E1 s1 r1 => h1 F1 σ H1 _ E1 fun y L2 F2 u H2 ⟨j, e2, h2⟩ E2 s2 r2 => by
    subst e1 e2
    cases r1
    cases r2
    refine ⟨rfl, ?_⟩
    have z : decide (V.str i = V.str j) = decide (i = j) := by rw [dec_str]; by_cases h : i = j <;> simp [h]
    rw [z]
    exact q _ L2 F2 _ H2 h2 E2 (s1.trans s2) .bl
theorem ek_eqS (h : EvK X F0 a Γ L fun x L1 => ∃ i, x = .str i ∧ EvK X F0 b Γ L1 fun y L2 => ∃ j, y = .str j ∧ k (.bl (decide (i = j))) L2) (hm : behindInMarks .Eq b = false := by rfl) : EvK X F0 (.Compare a [.Eq] [b] pos) Γ L k := (rd_eqS h).ev (pe_cmpR op_eq we we hm)
theorem et_eqS (h : EvK X F0 a Γ L fun x L1 => ∃ i, x = .str i ∧ EvK X F0 b Γ L1 fun y L2 => ∃ j, y = .str j ∧ kt ((decide (i = j))) L2) (hm : behindInMarks .Eq b = false := by rfl) : EtK X F0 (.Compare a [.Eq] [b] pos) Γ L kt := (rd_eqS (k := fun d L' => ∃ b, d = .bl b ∧ kt b L') (by
  exact fun F σ H Q E q => h F σ H Q E fun x L1 F1 v H1 ⟨i, e1, h1⟩ E1 s1 r1 => q x L1 F1 v H1 ⟨i, e1, fun F σ H Q E q => h1 F σ H Q E fun y L2 F2 u H2 ⟨j, e2, h2⟩ E2 s2 r2 => q y L2 F2 u H2 ⟨j, e2, _, rfl, h2⟩ E2 s2 r2⟩ E1 s1 r1)).tst (pt_cmpR op_eq we we hm)

theorem rd_neS (h : EvK X F0 a Γ L fun x L1 => ∃ i, x = .str i ∧ EvK X F0 b Γ L1 fun y L2 => ∃ j, y = .str j ∧ k (.bl (!decide (i = j))) L2) : RdK X F0 (tOp rNe (wpE X a) (wpE X b)) Γ L k := fun F σ H Q E q =>
  h F σ H _ E fun x L1 F1 v H1 ⟨i, e1, h1⟩ E1 s1 r1 => h1 F1 σ H1 _ E1 fun y L2 F2 u H2 ⟨j, e2, h2⟩ E2 s2 r2 => by
    subst e1 e2
    cases r1
    cases r2
    refine ⟨rfl, ?_⟩
    have z : decide (V.str i = V.str j) = decide (i = j) := by rw [dec_str]; by_cases h : i = j <;> simp [h]
    rw [z]
    exact q _ L2 F2 _ H2 h2 E2 (s1.trans s2) .bl
theorem ek_neS (h : EvK X F0 a Γ L fun x L1 => ∃ i, x = .str i ∧ EvK X F0 b Γ L1 fun y L2 => ∃ j, y = .str j ∧ k (.bl (!decide (i = j))) L2) (hm : behindInMarks .NotEq b = false := by rfl) : EvK X F0 (.Compare a [.NotEq] [b] pos) Γ L k := (rd_neS h).ev (pe_cmpR op_ne we we hm)
theorem et_neS (h : EvK X F0 a Γ L fun x L1 => ∃ i, x = .str i ∧ EvK X F0 b Γ L1 fun y L2 => ∃ j, y = .str j ∧ kt ((!decide (i = j))) L2) (hm : behindInMarks .NotEq b = false := by rfl) : EtK X F0 (.Compare a [.NotEq] [b] pos) Γ L kt := (rd_neS (k := fun d L' => ∃ b, d = .bl b ∧ kt b L') (by
  exact fun F σ H Q E q => h F σ H Q E fun x L1 F1 v H1 ⟨i, e1, h1⟩ E1 s1 r1 => q x L1 F1 v H1 ⟨i, e1, fun F σ H Q E q => h1 F σ H Q E fun y L2 F2 u H2 ⟨j, e2, h2⟩ E2 s2 r2 => q y L2 F2 u H2 ⟨j, e2, _, rfl, h2⟩ E2 s2 r2⟩ E1 s1 r1)).tst (pt_cmpR op_ne we we hm)

theorem rd_eqB (h : EvK X F0 a Γ L fun x L1 => ∃ i, x = .bl i ∧ EvK X F0 b Γ L1 fun y L2 => ∃ j, y = .bl j ∧ k (.bl (i == j)) L2) : RdK X F0 (tOp rEq (wpE X a) (wpE X b)) Γ L k := fun F σ H Q E q =>
  h F σ H _ E fun x L1 F1 v H1 ⟨i, e1, h1⟩ E1 s1 r1 => h1 F1 σ H1 _ E1 fun y L2 F2 u H2 ⟨j, e2, h2⟩ E2 s2 r2 => by
    subst e1 e2
    cases r1
    cases r2
    refine ⟨rfl, ?_⟩
    rw [dec_bl]
    exact q _ L2 F2 _ H2 h2 E2 (s1.trans s2) .bl
theorem ek_eqB (h : EvK X F0 a Γ L fun x L1 => ∃ i, x = .bl i ∧ EvK X F0 b Γ L1 fun y L2 => ∃ j, y = .bl j ∧ k (.bl (i == j)) L2) (hm : behindInMarks .Eq b = false := by rfl) : EvK X F0 (.Compare a [.Eq] [b] pos) Γ L k := (rd_eqB h).ev (pe_cmpR op_eq we we hm)
theorem et_eqB (h : EvK X F0 a Γ L fun x L1 => ∃ i, x = .bl i ∧ EvK X F0 b Γ L1 fun y L2 => ∃ j, y = .bl j ∧ kt ((i == j)) L2) (hm : behindInMarks .Eq b = false := by rfl) : EtK X F0 (.Compare a [.Eq] [b] pos) Γ L kt := (rd_eqB (k := fun d L' => ∃ b, d = .bl b ∧ kt b L') (by
  exact fun F σ H Q E q => h F σ H Q E fun x L1 F1 v H1 ⟨i, e1, h1⟩ E1 s1 r1 => q x L1 F1 v H1 ⟨i, e1, fun F σ H Q E q => h1 F σ H Q E fun y L2 F2 u H2 ⟨j, e2, h2⟩ E2 s2 r2 => q y L2 F2 u H2 ⟨j, e2, _, rfl, h2⟩ E2 s2 r2⟩ E1 s1 r1)).tst (pt_cmpR op_eq we we hm)

theorem rd_neB (h : EvK X F0 a Γ L fun x L1 => ∃ i, x = .bl i ∧ EvK X F0 b Γ L1 fun y L2 => ∃ j, y = .bl j ∧ k (.bl (!(i == j))) L2) : RdK X F0 (tOp rNe (wpE X a) (wpE X b)) Γ L k := fun F σ H Q E q =>
  h F σ H _ E fun x L1 F1 v H1 ⟨i, e1, h1⟩ E1 s1 r1 => h1 F1 σ H1 _ E1 fun y L2 F2 u H2 ⟨j, e2, h2⟩ E2 s2 r2 => by
    subst e1 e2
    cases r1
    cases r2
    refine ⟨rfl, ?_⟩
    rw [dec_bl]
    exact q _ L2 F2 _ H2 h2 E2 (s1.trans s2) .bl
theorem ek_neB (h : EvK X F0 a Γ L fun x L1 => ∃ i, x = .bl i ∧ EvK X F0 b Γ L1 fun y L2 => ∃ j, y = .bl j ∧ k (.bl (!(i == j))) L2) (hm : behindInMarks .NotEq b = false := by rfl) : EvK X F0 (.Compare a [.NotEq] [b] pos) Γ L k := (rd_neB h).ev (pe_cmpR op_ne we we hm)
theorem et_neB (h : EvK X F0 a Γ L fun x L1 => ∃ i, x = .bl i ∧ EvK X F0 b Γ L1 fun y L2 => ∃ j, y = .bl j ∧ kt ((!(i == j))) L2) (hm : behindInMarks .NotEq b = false := by rfl) : EtK X F0 (.Compare a [.NotEq] [b] pos) Γ L kt := (rd_neB (k := fun d L' => ∃ b, d = .bl b ∧ kt b L') (by
  exact fun F σ H Q E q => h F σ H Q E fun x L1 F1 v H1 ⟨i, e1, h1⟩ E1 s1 r1 => q x L1 F1 v H1 ⟨i, e1, fun F σ H Q E q => h1 F σ H Q E fun y L2 F2 u H2 ⟨j, e2, h2⟩ E2 s2 r2 => q y L2 F2 u H2 ⟨j, e2, _, rfl, h2⟩ E2 s2 r2⟩ E1 s1 r1)).tst (pt_cmpR op_ne we we hm)

/-- x is None, x is not None -/
def isN : D → Bool
  | .non => true
  | _ => false
theorem isN_rep {K : PySem.W.Frag} {F : Hp} {d : D} {v : V} (r : Rep K F d v) : decide (v = V.non) = isN d := by
  cases r <;> rfl
theorem ek_isN {j : Nat} {p3 : Pos} (h : EvK X F0 a Γ L fun x L1 => k (.bl (isN x)) L1) : EvK X F0 (.Compare a [.Is] [.Constant .none j p3] pos) Γ L k := fun F σ H Q E q =>
  wpE.of (pe_cmpR op_isN we pe_non (nomark _)) (h F σ H _ E fun x L1 F1 v H1 h1 E1 s1 r1 => ⟨rfl, by
    rw [isN_rep r1]
    exact q _ L1 F1 _ H1 h1 E1 s1 .bl⟩)
theorem ek_notN {j : Nat} {p3 : Pos} (h : EvK X F0 a Γ L fun x L1 => k (.bl (!isN x)) L1) : EvK X F0 (.Compare a [.IsNot] [.Constant .none j p3] pos) Γ L k := fun F σ H Q E q =>
  wpE.of (pe_cmpR op_notN we pe_non (nomark _)) (h F σ H _ E fun x L1 F1 v H1 h1 E1 s1 r1 => ⟨rfl, by
    rw [isN_rep r1]
    exact q _ L1 F1 _ H1 h1 E1 s1 .bl⟩)
theorem et_isN {j : Nat} {p3 : Pos} (h : EvK X F0 a Γ L fun x L1 => kt (isN x) L1) : EtK X F0 (.Compare a [.Is] [.Constant .none j p3] pos) Γ L kt := fun F σ H Q E q =>
  wpT.of (pt_cmpR op_isN we pe_non (nomark _)) (h F σ H _ E fun x L1 F1 v H1 h1 E1 s1 r1 => ⟨rfl, by
    rw [isN_rep r1]
    exact ⟨_, rfl, q _ L1 F1 H1 h1 E1 s1⟩⟩)
theorem et_notN {j : Nat} {p3 : Pos} (h : EvK X F0 a Γ L fun x L1 => kt (!isN x) L1) : EtK X F0 (.Compare a [.IsNot] [.Constant .none j p3] pos) Γ L kt := fun F σ H Q E q =>
  wpT.of (pt_cmpR op_notN we pe_non (nomark _)) (h F σ H _ E fun x L1 F1 v H1 h1 E1 s1 r1 => ⟨rfl, by
    rw [isN_rep r1]
    exact ⟨_, rfl, q _ L1 F1 H1 h1 E1 s1⟩⟩)
/-- a < b < c and its like -/
theorem ek_chain {op op' : CmpOp} {g g' : Int → Int → Bool} (ho : OpR X (compareOp op) (rI0 fun i j => .bl (g i j))) (ho' : OpR X (compareOp op') (rI0 fun i j => .bl (g' i j)))
    (h : EvK X F0 a Γ L fun x L1 => ∃ i, x = .int i ∧ EvK X F0 b Γ L1 fun y L2 => ∃ j, y = .int j ∧ (g i j = true → EvK X F0 c Γ L2 fun z L3 => ∃ l, z = .int l ∧ k (.bl (g' j l)) L3) ∧ (g i j = false → k (.bl false) L2))
    (hp : PE X e (tChain (rI0 fun i j => .bl (g i j)) (rI0 fun i j => .bl (g' i j)) (wpE X a) (wpE X b) (wpE X c))) : EvK X F0 e Γ L k := fun F σ H Q E q =>
  wpE.of hp (h F σ H _ E fun x L1 F1 v H1 ⟨i, e1, h1⟩ E1 s1 r1 => h1 F1 σ H1 _ E1 fun y L2 F2 u H2 ⟨j, e2, h2, h3⟩ E2 s2 r2 => by
    subst e1 e2
    cases r1
    cases r2
    refine ⟨i, j, rfl, rfl, g i j, rfl, ?_⟩
    cases hg : g i j with
    | true =>
      rw [if_pos rfl]
      exact h2 hg F2 σ H2 _ E2 fun z L3 F3 w H3 ⟨l, e3, h4⟩ E3 s3 r3 => by
        subst e3
        cases r3
        exact ⟨j, l, rfl, rfl, q _ L3 F3 _ H3 h4 E3 (s1.trans (s2.trans s3)) .bl⟩
    | false =>
      rw [if_neg Bool.false_ne_true]
      exact q _ L2 F2 _ H2 (h3 hg) E2 (s1.trans s2) .bl)

theorem ek_ch {op op' : CmpOp} {g g' : Int → Int → Bool} (ho : OpR X (compareOp op) (rI0 fun i j => .bl (g i j))) (ho' : OpR X (compareOp op') (rI0 fun i j => .bl (g' i j)))
    (h : EvK X F0 a Γ L fun x L1 => ∃ i, x = .int i ∧ EvK X F0 b Γ L1 fun y L2 => ∃ j, y = .int j ∧ (g i j = true → EvK X F0 c Γ L2 fun z L3 => ∃ l, z = .int l ∧ k (.bl (g' j l)) L3) ∧ (g i j = false → k (.bl false) L2))
    (hm : lastMarks [op, op'] [b, c] = false := by with_unfolding_all rfl) : EvK X F0 (.Compare a [op, op'] [b, c] pos) Γ L k := ek_chain ho ho' h (pe_chain ho ho' we we we hm)
theorem et_ch {op op' : CmpOp} {g g' : Int → Int → Bool} (ho : OpR X (compareOp op) (rI0 fun i j => .bl (g i j))) (ho' : OpR X (compareOp op') (rI0 fun i j => .bl (g' i j)))
    (h : EvK X F0 a Γ L fun x L1 => ∃ i, x = .int i ∧ EvK X F0 b Γ L1 fun y L2 => ∃ j, y = .int j ∧ (g i j = true → EvK X F0 c Γ L2 fun z L3 => ∃ l, z = .int l ∧ kt (g' j l) L3) ∧ (g i j = false → kt false L2))
    (hm : lastMarks [op, op'] [b, c] = false := by with_unfolding_all rfl) : EtK X F0 (.Compare a [op, op'] [b, c] pos) Γ L kt := fun F σ H Q E q =>
  wpT.of (pt_chain ho ho' we we we hm) (h F σ H _ E fun x L1 F1 v H1 ⟨i, e1, h1⟩ E1 s1 r1 => h1 F1 σ H1 _ E1 fun y L2 F2 u H2 ⟨j, e2, h2, h3⟩ E2 s2 r2 => by
    subst e1 e2
    cases r1
    cases r2
    refine ⟨i, j, rfl, rfl, g i j, rfl, ?_⟩
    cases hg : g i j with
    | true =>
      rw [if_pos rfl]
      exact h2 hg F2 σ H2 _ E2 fun z L3 F3 w H3 ⟨l, e3, h4⟩ E3 s3 r3 => by
        subst e3
        cases r3
        exact ⟨j, l, rfl, rfl, _, rfl, q _ L3 F3 H3 h4 E3 (s1.trans (s2.trans s3))⟩
    | false =>
      rw [if_neg Bool.false_ne_true]
      exact ⟨_, rfl, q _ L2 F2 H2 (h3 hg) E2 (s1.trans s2)⟩)
/-! data at any depth -/
mutual
inductive Dpd (L : Lg) : D → PyData → Prop
  | non : Dpd L .non .none
  | bl {b : Bool} : Dpd L (.bl b) (.bool b)
  | int {i : Int} : Dpd L (.int i) (.int i)
  | str {x : Str} : Dpd L (.str x) (.str x)
  | lst {ds : List D} {ps : List PyData} : Dpds L ds ps → Dpd L (.lst ds) (.list ps)
  | tup {ds : List D} {ps : List PyData} : Dpds L ds ps → Dpd L (.tup ds) (.tuple ps)
  | own {p : Addr} {ds : List D} {ps : List PyData} {j : Nat} : Get L j (p, C.lst ds) → Dpds L ds ps → Dpd L (.ref p) (.list ps)
inductive Dpds (L : Lg) : List D → List PyData → Prop
  | nil : Dpds L [] []
  | cons {d : D} {p : PyData} {ds : List D} {ps : List PyData} : Dpd L d p → Dpds L ds ps → Dpds L (d :: ds) (p :: ps)
end
mutual
theorem Dpd.dp {K : PySem.W.Frag} {F H : Hp} {L : Lg} (l : Led K F L H) : ∀ {d : D} {p : PyData} {v : V}, Dpd L d p → Rep K F d v → Dp K H v p
  | _, _, _, .non, .non => .non
  | _, _, _, .bl, .bl => .bl _
  | _, _, _, .int, .int => .int _
  | _, _, _, .str, .str => .str _
  | _, _, _, .lst h, .lst s r => .lst (l.sub.seq s) (Dpds.dp l h r)
  | _, _, _, .tup h, .tup s r => .tup (seqT l.sub s) (Dpds.dp l h r)
  | _, _, _, .own g h, .ref => by
    obtain ⟨_, xs, h1, h2⟩ := l.ent _ g.mem
    exact .lst (.inl (.inl h1)) (Dpds.dp l h h2)
theorem Dpds.dp {K : PySem.W.Frag} {F H : Hp} {L : Lg} (l : Led K F L H) : ∀ {ds : List D} {ps : List PyData} {vs : List V}, Dpds L ds ps → Reps K F ds vs → DpAll K H vs ps
  | _, _, _, .nil, .nil => .nil
  | _, _, _, .cons h t, .cons r s => .cons (Dpd.dp l h r) (Dpds.dp l t s)
end
theorem rd_eqD (hu : X.A.units + 64 < cLine) (h : EvK X F0 a Γ L fun x L1 => EvK X F0 b Γ L1 fun y L2 => ∃ d e, Dpd L2 x d ∧ Dpd L2 y e ∧ SeqAt.shaped d = true ∧ SeqAt.shaped e = true ∧ k (.bl (PyData.eqv d e)) L2) : RdK X F0 (tOp (rEqD X.K) (wpE X a) (wpE X b)) Γ L k := fun F σ H Q E q =>
  h F σ H _ E fun x L1 F1 v H1 h1 E1 s1 r1 => h1 F1 σ H1 _ E1 fun y L2 F2 u H2 ⟨d, e, d1, d2, z1, z2, h2⟩ E2 s2 r2 =>
    ⟨d, e, d1.dp E2.led (r1.mono s2), d2.dp E2.led r2, z1, z2, q _ L2 F2 _ H2 h2 E2 (s1.trans s2) .bl⟩
theorem ek_eqD (hu : X.A.units + 64 < cLine) (h : EvK X F0 a Γ L fun x L1 => EvK X F0 b Γ L1 fun y L2 => ∃ d e, Dpd L2 x d ∧ Dpd L2 y e ∧ SeqAt.shaped d = true ∧ SeqAt.shaped e = true ∧ k (.bl (PyData.eqv d e)) L2) (hm : behindInMarks .Eq b = false := by rfl) : EvK X F0 (.Compare a [.Eq] [b] pos) Γ L k := (rd_eqD hu h).ev (pe_cmpR (op_eqD hu) we we hm)
theorem et_eqD (hu : X.A.units + 64 < cLine) (h : EvK X F0 a Γ L fun x L1 => EvK X F0 b Γ L1 fun y L2 => ∃ d e, Dpd L2 x d ∧ Dpd L2 y e ∧ SeqAt.shaped d = true ∧ SeqAt.shaped e = true ∧ kt ((PyData.eqv d e)) L2) (hm : behindInMarks .Eq b = false := by rfl) : EtK X F0 (.Compare a [.Eq] [b] pos) Γ L kt := (rd_eqD hu (k := fun d L' => ∃ b, d = .bl b ∧ kt b L') (by
  exact fun F σ H Q E q => h F σ H Q E fun x L1 F1 v H1 h1 E1 s1 r1 => q x L1 F1 v H1 (fun F σ H Q E q => h1 F σ H Q E fun y L2 F2 u H2 ⟨d, e, a1, a2, a3, a4, h2⟩ E2 s2 r2 => q y L2 F2 u H2 ⟨d, e, a1, a2, a3, a4, _, rfl, h2⟩ E2 s2 r2) E1 s1 r1)).tst (pt_cmpR (op_eqD hu) we we hm)

theorem rd_neD (hu : X.A.units + 64 < cLine) (h : EvK X F0 a Γ L fun x L1 => EvK X F0 b Γ L1 fun y L2 => ∃ d e, Dpd L2 x d ∧ Dpd L2 y e ∧ SeqAt.shaped d = true ∧ SeqAt.shaped e = true ∧ k (.bl (!PyData.eqv d e)) L2) : RdK X F0 (tOp (rNeD X.K) (wpE X a) (wpE X b)) Γ L k := fun F σ H Q E q =>
  h F σ H _ E fun x L1 F1 v H1 h1 E1 s1 r1 => h1 F1 σ H1 _ E1 fun y L2 F2 u H2 ⟨d, e, d1, d2, z1, z2, h2⟩ E2 s2 r2 =>
    ⟨d, e, d1.dp E2.led (r1.mono s2), d2.dp E2.led r2, z1, z2, q _ L2 F2 _ H2 h2 E2 (s1.trans s2) .bl⟩
theorem ek_neD (hu : X.A.units + 64 < cLine) (h : EvK X F0 a Γ L fun x L1 => EvK X F0 b Γ L1 fun y L2 => ∃ d e, Dpd L2 x d ∧ Dpd L2 y e ∧ SeqAt.shaped d = true ∧ SeqAt.shaped e = true ∧ k (.bl (!PyData.eqv d e)) L2) (hm : behindInMarks .NotEq b = false := by rfl) : EvK X F0 (.Compare a [.NotEq] [b] pos) Γ L k := (rd_neD hu h).ev (pe_cmpR (op_neD hu) we we hm)
theorem et_neD (hu : X.A.units + 64 < cLine) (h : EvK X F0 a Γ L fun x L1 => EvK X F0 b Γ L1 fun y L2 => ∃ d e, Dpd L2 x d ∧ Dpd L2 y e ∧ SeqAt.shaped d = true ∧ SeqAt.shaped e = true ∧ kt ((!PyData.eqv d e)) L2) (hm : behindInMarks .NotEq b = false := by rfl) : EtK X F0 (.Compare a [.NotEq] [b] pos) Γ L kt := (rd_neD hu (k := fun d L' => ∃ b, d = .bl b ∧ kt b L') (by
  exact fun F σ H Q E q => h F σ H Q E fun x L1 F1 v H1 h1 E1 s1 r1 => q x L1 F1 v H1 (fun F σ H Q E q => h1 F σ H Q E fun y L2 F2 u H2 ⟨d, e, a1, a2, a3, a4, h2⟩ E2 s2 r2 => q y L2 F2 u H2 ⟨d, e, a1, a2, a3, a4, _, rfl, h2⟩ E2 s2 r2) E1 s1 r1)).tst (pt_cmpR (op_neD hu) we we hm)

/-! built-in functions -/
theorem reps1 {K : PySem.W.Frag} {F : Hp} {d : D} {vs : List V} (r : Reps K F [d] vs) : ∃ v, vs = [v] ∧ Rep K F d v := by
  cases r with
  | cons r t => cases t; exact ⟨_, rfl, r⟩
theorem reps2 {K : PySem.W.Frag} {F : Hp} {d d' : D} {vs : List V} (r : Reps K F [d, d'] vs) : ∃ v v', vs = [v, v'] ∧ Rep K F d v ∧ Rep K F d' v' := by
  cases r with
  | cons r t =>
    obtain ⟨v, rfl, r2⟩ := reps1 t
    exact ⟨_, _, rfl, r, r2⟩
theorem ek_len {p : Pos} (hm : X.mg "len" = none) (hg : Gl X "len") (h : EvK X F0 e Γ L fun x L1 => ∃ ds, (AsL L1 x ds ∨ x = .tup ds) ∧ k (.int (ds.length : Int)) L1)
    (he : starEach [e] X.env = (false, eval e X.env) :: starEach [] X.env := by rfl) : EvK X F0 (.Call (.Name "len" p) [e] [] pos) Γ L k :=
  ek_cb call_len_seq hm boot_len (P := fun ds L1 kk => ∃ d es, ds = [d] ∧ (AsL L1 d es ∨ d = .tup es) ∧ kk (.int (es.length : Int)))
    (fun F L' σ H ds vs kk Q E r ⟨d, es, e1, e2, hk⟩ q => by
      subst e1
      obtain ⟨v, rfl, r1⟩ := reps1 r
      rcases e2 with e2 | e2
      · obtain ⟨p, xs, rfl, hx, rx⟩ := e2.read E.led r1
        refine ⟨p, xs, rfl, .inl hx, ?_⟩
        rw [← rx.length]
        exact q _ F _ H hk E (Same.refl F) .int
      · subst e2
        cases r1 with
        | tup hx rx =>
          refine ⟨_, _, rfl, .inr (seqT E.led.sub hx), ?_⟩
          rw [← rx.length]
          exact q _ F _ H hk E (Same.refl F) .int)
    (ea_cons (fun F σ H Q E q => h F σ H Q E fun d L' F' v H' ⟨ds, h1, h2⟩ E' s r => q d L' F' v H' (ea_nil ⟨d, ds, rfl, h1, h2⟩) E' s r) he) hg (he := he)
theorem ek_lenS {p : Pos} (hm : X.mg "len" = none) (hg : Gl X "len") (h : EvK X F0 e Γ L fun x L1 => ∃ z, x = .str z ∧ z.length ≤ sizeLine ∧ k (.int (z.length : Int)) L1)
    (he : starEach [e] X.env = (false, eval e X.env) :: starEach [] X.env := by rfl) : EvK X F0 (.Call (.Name "len" p) [e] [] pos) Γ L k :=
  ek_cb call_len_str hm boot_len (P := fun ds L1 kk => ∃ z, ds = [.str z] ∧ z.length ≤ sizeLine ∧ kk (.int (z.length : Int)))
    (fun F L' σ H ds vs kk Q E r ⟨z, e1, hz, hk⟩ q => by
      subst e1
      obtain ⟨v, rfl, r1⟩ := reps1 r
      cases r1
      exact ⟨z, rfl, hz, q _ F _ H hk E (Same.refl F) .int⟩)
    (ea_cons (fun F σ H Q E q => h F σ H Q E fun d L' F' v H' ⟨z, h1, hz, h2⟩ E' s r => q d L' F' v H' (ea_nil ⟨z, by rw [h1], hz, h2⟩) E' s r) he) hg (he := he)
theorem ek_abs {p : Pos} (hm : X.mg "abs" = none) (hg : Gl X "abs") (h : EvK X F0 e Γ L fun x L1 => ∃ i, x = .int i ∧ k (.int (if i < 0 then -i else i)) L1)
    (he : starEach [e] X.env = (false, eval e X.env) :: starEach [] X.env := by rfl) : EvK X F0 (.Call (.Name "abs" p) [e] [] pos) Γ L k :=
  ek_cb call_abs hm boot_abs (P := fun ds L1 kk => ∃ i, ds = [.int i] ∧ kk (.int (if i < 0 then -i else i)))
    (fun F L' σ H ds vs kk Q E r ⟨z, e1, hk⟩ q => by
      subst e1
      obtain ⟨v, rfl, r1⟩ := reps1 r
      cases r1
      exact ⟨z, rfl, q _ F _ H hk E (Same.refl F) .int⟩)
    (ea_cons (fun F σ H Q E q => h F σ H Q E fun d L' F' v H' ⟨z, h1, h2⟩ E' s r => q d L' F' v H' (ea_nil ⟨z, by rw [h1], h2⟩) E' s r) he) hg (he := he)
theorem ek_sum {p : Pos} (hc : X.calm = true) (hm : X.mg "sum" = none) (hg : Gl X "sum") (h : EvK X F0 e Γ L fun x L1 => ∃ ns : List Int, AsL L1 x (dI ns) ∧ k (.int ns.sum) L1)
    (he : starEach [e] X.env = (false, eval e X.env) :: starEach [] X.env := by rfl) : EvK X F0 (.Call (.Name "sum" p) [e] [] pos) Γ L k :=
  ek_cb (cr_sum hc) hm (by decide +kernel) (P := fun ds L1 kk => ∃ d ns, ds = [d] ∧ AsL L1 d (dI ns) ∧ kk (.int ns.sum))
    (fun F L' σ H ds vs kk Q E r ⟨d, ns, e1, e2, hk⟩ q => by
      subst e1
      obtain ⟨v, rfl, r1⟩ := reps1 r
      obtain ⟨p, xs, rfl, hx, rx⟩ := e2.read E.led r1
      have e3 := il_reps rx
      subst e3
      exact ⟨p, ns, rfl, hx, q _ F _ H hk E (Same.refl F) .int⟩)
    (ea_cons (fun F σ H Q E q => h F σ H Q E fun d L' F' v H' ⟨ns, h1, h2⟩ E' s r => q d L' F' v H' (ea_nil ⟨d, ns, rfl, h1, h2⟩) E' s r) he) hg (he := he)
theorem ek_list {p : Pos} (hm : X.mg "list" = none) (hg : Gl X "list") (h : EvK X F0 e Γ L fun x L1 => ∃ ds, (AsL L1 x ds ∨ x = .tup ds) ∧ k (.lst ds) L1)
    (he : starEach [e] X.env = (false, eval e X.env) :: starEach [] X.env := by rfl) : EvK X F0 (.Call (.Name "list" p) [e] [] pos) Γ L k :=
  ek_ct call_list_of hm boot_list (P := fun ds L1 kk => ∃ d es, ds = [d] ∧ (AsL L1 d es ∨ d = .tup es) ∧ kk (.lst es))
    (fun F L' σ H ds vs kk Q E r ⟨d, es, e1, e2, hk⟩ q => by
      subst e1
      obtain ⟨v, rfl, r1⟩ := reps1 r
      rcases e2 with e2 | e2
      · obtain ⟨p, xs, rfl, hx, rx⟩ := e2.read E.led r1
        refine ⟨p, xs, rfl, .inl hx, fun n hn => ?_⟩
        have s1 : Same F (upd F n (.lst xs)) := same_new (E.led.free hn)
        exact q _ _ _ _ hk (E.new hn) s1 (.lst (.inl (.inl upd_same)) (rx.mono s1))
      · subst e2
        cases r1 with
        | tup hx rx =>
          rename_i a xs
          refine ⟨_, _, rfl, .inr (seqT E.led.sub hx), fun n hn => ?_⟩
          have s1 : Same F (upd F n (.lst xs)) := same_new (E.led.free hn)
          exact q _ _ _ _ hk (E.new hn) s1 (.lst (.inl (.inl upd_same)) (rx.mono s1)))
    (ea_cons (fun F σ H Q E q => h F σ H Q E fun d L' F' v H' ⟨ds, h1, h2⟩ E' s r => q d L' F' v H' (ea_nil ⟨d, ds, rfl, h1, h2⟩) E' s r) he) hg (he := he)
end
end Vs

set_option Elab.async false
set_option linter.all false
set_option maxRecDepth 100000
set_option maxHeartbeats 4000000
namespace Vs
open PySem PySem.Spec PyProof.Rows L2
/-! ### the ledger's objects changed -/
theorem Get.mem' {α β : Type} {f : α → β} {x : α} {xs : List α} {i : Nat} (g : Get xs i x) : f x ∈ xs.map f := List.mem_map_of_mem g.mem
theorem Put.map_fst {a : Addr} {c c' : C} : ∀ {L L' : Lg} {j : Nat}, Get L j (a, c) → Put L j (a, c') L' → L'.map (·.1) = L.map (·.1)
  | _, _, _, .z, .z => rfl
  | _, _, _, .s g, .s p => by
    rw [List.map_cons, List.map_cons, Put.map_fst g p]
theorem Put.ents {a : Addr} {c c' : C} : ∀ {L L' : Lg} {j : Nat}, (L.map (·.1)).Nodup → Get L j (a, c) → Put L j (a, c') L' → ∀ p ∈ L', p = (a, c') ∨ (p ∈ L ∧ p.1 ≠ a)
  | (_, _) :: xs, _, _, nd, .z, .z => fun p hp => by
    rcases List.mem_cons.mp hp with rfl | hp
    · exact .inl rfl
    · refine .inr ⟨List.mem_cons_of_mem _ hp, fun z => ?_⟩
      rw [List.map_cons] at nd
      have := (List.nodup_cons.mp nd).1
      exact this (z ▸ List.mem_map_of_mem (f := (·.1)) hp)
  | x :: xs, _, _, nd, .s g, .s q => fun p hp => by
    rw [List.map_cons] at nd
    have nd' := List.nodup_cons.mp nd
    rcases List.mem_cons.mp hp with rfl | hp
    · refine .inr ⟨List.mem_cons_self, fun z => ?_⟩
      exact nd'.1 (z ▸ Get.mem' (f := (·.1)) g)
    · rcases Put.ents nd'.2 g q p hp with h | ⟨h, h2⟩
      · exact .inl h
      · exact .inr ⟨List.mem_cons_of_mem _ h, h2⟩
theorem Led.put {K : PySem.W.Frag} {F H : Hp} {L L' : Lg} {j : Nat} {a : Addr} {c c' : C} {o : HO} (l : Led K F L H) (g : Get L j (a, c)) (p : Put L j (a, c') L') (h : CRep K F (upd H a o) a c') : Led K F L' (upd H a o) where
  sub := fun b u e => by
    have ne : b ≠ a := fun z => by
      have := (l.ent _ g.mem).1
      rw [z] at e
      rw [e] at this
      cases this
    rw [upd_ne ne]
    exact l.sub b u e
  nod := by rw [Put.map_fst g p]; exact l.nod
  ent := fun q hq => by
    rcases Put.ents l.nod g p q hq with rfl | ⟨hq, ne⟩
    · exact ⟨(l.ent _ g.mem).1, h⟩
    · obtain ⟨h1, h2⟩ := l.ent q hq
      exact ⟨h1, h2.mono (Same.refl F) (upd_ne ne)⟩
theorem Led.lst {K : PySem.W.Frag} {F H : Hp} {L : Lg} {j : Nat} {a : Addr} {ds : List D} (l : Led K F L H) (g : Get L j (a, C.lst ds)) : ∃ xs, H a = some (.lst xs) ∧ Reps K F ds xs := (l.ent _ g.mem).2
section
variable {X : Cx} {F0 : Hp} {Γ : Gm} {L : Lg} {k : D → Lg → Prop} {ka : List D → Lg → Prop} {kt : Bool → Lg → Prop} {e a b c o : Expr} {es rest : List Expr} {pos p2 apos cpos : Pos}
/-- xs.append(e) -/
theorem ek_app (h : EvK X F0 o Γ L fun x L1 => ∃ p ds1, x = .ref p ∧ AsL L1 x ds1 ∧ EvK X F0 e Γ L1 fun y L2 => ∃ ds j L3, Get L2 j (p, C.lst ds) ∧ Put L2 j (p, C.lst (ds ++ [y])) L3 ∧ ds.length < sizeLine ∧ k .non L3)
    (hbase : attributeBase o "append" X.env (eval o X.env) = eval o X.env := by rfl)
    (hfew : ((backTo cpos (starEach [e] X.env)).all (fun x => !x.1) && (backToKw cpos (keywordEach [] X.env)).all (fun x => x.1.isSome)
      && decide (([e] : List Expr).length + ([] : List Keyword).length + (if ([] : List Keyword).isEmpty then 0 else 1) < 30)) = true := by rfl)
    (hline : (apos.endLine == cpos.line) = true := by rfl) (hs : starEach [e] X.env = (false, eval e X.env) :: starEach [] X.env := by rfl) (hplain : (backTo cpos (starEach [] X.env)).any (·.1) = false := by rfl) :
    EvK X F0 (.Call (.Attribute o "append" apos) [e] [] cpos) Γ L k := fun F σ H Q E q =>
  wpE.of (pe_bm PySem.F.plainAttrs_list PySem.F.slot_list_append PySem.F.type_list_append mt_append we (pa_cons we pa_nil hs) hbase hfew hline hs hplain)
    (h F σ H _ E fun x L1 F1 v H1 ⟨p, ds1, e1, a1, h1⟩ E1 s1 r1 => by
      subst e1
      obtain ⟨p', xs1, ev, hx1, _⟩ := a1.read E1.led r1
      cases r1
      refine ⟨?_, ?_⟩
      · cases ev
        exact .inl ⟨rfl, xs1, hx1⟩
      · refine h1 F1 σ H1 _ E1 fun y L2 F2 u H2 ⟨ds, j, L3, g, pt, hz, h2⟩ E2 s2 r2 => ?_
        obtain ⟨xs, hx, rx⟩ := E2.led.lst g
        refine ⟨p, xs, u, rfl, rfl, hx, by rw [← rx.length]; exact hz, ?_⟩
        exact q _ L3 F2 _ _ h2 (E2.to (Same.refl F2) (E2.led.put g pt ⟨_, upd_same, rx.append (.cons r2 .nil)⟩)) (s1.trans s2) .non)
end
section
variable {X : Cx} {F0 : Hp} {Γ : Gm} {L : Lg} {k : Ks} {e a b c o i tg iter : Expr} {st : Stmt} {rest body orelse : List Stmt} {pos p' : Pos} {N Nc : List Str} {sc : Scope} {Z : Xc → Gm → Lg → Prop}
/-- xs[i] = e, xs of the ledger -/
theorem sk_seti (h : EvK X F0 e Γ L fun y L1 => EvK X F0 o Γ L1 fun x L2 => EvK X F0 i Γ L2 fun z L3 => ∃ p ds n j m L4, x = .ref p ∧ z = .int n ∧ Get L3 m (p, C.lst ds) ∧ ixN ds.length n = some j ∧ Put L3 m (p, C.lst (ds.set j y)) L4 ∧ k.nx Γ L4)
    (ha : ∀ v, assign (.Subscript o i p') X.env v = (do let ov ← holding [v] (eval o X.env); let iv ← holding [v, ov] (eval i X.env); standAt p'; holding [v, ov, iv] (setItem ov iv v); release [v, ov, iv] []) := by intros; rfl)
    (hs : swapsWithSole [.Subscript o i p'] e pos.line X.env = pure false := by rfl) (hw : swappedStores [.Subscript o i p'] e X.env = pure none := by rfl) : SK X F0 (.Assign [.Subscript o i p'] e pos) Γ L k := fun F σ H Dn E q =>
  wpS.of (ps_asg we (pg_sub we we set_list ha) hs hw) (h F σ H _ E fun y L1 F1 v H1 h1 E1 s1 r1 => h1 F1 σ H1 _ E1 fun x L2 F2 u H2 h2 E2 s2 r2 => h2 F2 σ H2 _ E2 fun z L3 F3 w H3 ⟨p, ds, n, j, m, L4, e1, e2, g, hj, pt, h3⟩ E3 s3 r3 => by
    subst e1 e2
    cases r2
    cases r3
    obtain ⟨xs, hx, rx⟩ := E3.led.lst g
    refine ⟨p, xs, n, j, rfl, rfl, hx, by rw [← rx.length]; exact hj, ?_⟩
    exact q.nx _ L4 F3 σ _ h3 (E3.to (Same.refl F3) (E3.led.put g pt ⟨_, upd_same, rx.set (r1.mono (s2.trans s3)) j⟩)))
/-! ### for -/
/-- the walk J gives the data ds, whatever is done meanwhile to what may change -/
structure ItD (K : PySem.W.Frag) (ds : List D) (F : Hp) (J : It) : Prop where
  go : ∀ i H F' L', i < ds.length → Same F F' → Led K F' L' H → J.go i H
  yld : ∀ i H x H' F' L', Same F F' → Led K F' L' H → J.yld i H x H' → i < ds.length → ∃ d F'', ds[i]? = some d ∧ Same F' F'' ∧ Led K F'' L' H' ∧ Rep K F'' d x
  stop : ∀ i H F' L', ds.length ≤ i → Same F F' → Led K F' L' H → J.stop i H
def wpI (X : Cx) (tg iter : Expr) : TI := fun σ H R => ∀ pins s, Inv X pins σ H s → wpAny (model X.prog X.w) X.A (eval iter X.env) (fun v s1 => wpAny (model X.prog X.w) X.A (pyIter v) (PIE X pins σ tg R) X.xe s1) X.xe s
theorem wi : PI X tg iter (wpI X tg iter) := ⟨fun pins s _ _ _ I h => h pins s I⟩
theorem wpI.of {t : TI} {σ : L2.St} {H : Hp} {R : It → Hp → Prop} (p : PI X tg iter t) (h : t σ H R) : wpI X tg iter σ H R := fun pins s I => p.run pins s σ H R I h
def EiK (X : Cx) (F0 : Hp) (tg iter : Expr) (Γ : Gm) (L : Lg) (k : List D → Lg → Prop) : Prop := ∀ (F : Hp) (σ : L2.St) (H : Hp) (R : It → Hp → Prop), At X.K F0 F Γ L σ H →
  (∀ ds L' F' H' J, k ds L' → At X.K F0 F' Γ L' σ H' → Same F F' → ItD X.K ds F' J → R J H') → wpI X tg iter σ H R
def wpG (X : Cx) (tg : Expr) : TG := fun v σ H Q => ∀ pins s u, Inv X pins σ H s → RelV v u → wpAny (model X.prog X.w) X.A (assign tg X.env u) (fun _ s' => ∃ σ' H', Inv X pins σ' H' s' ∧ Q σ' H') X.xe s
theorem wg : PG X tg (wpG X tg) := ⟨fun pins s _ _ _ u _ I r h => h pins s u I r⟩
theorem wpG.of {t : TG} {v : V} {σ : L2.St} {H : Hp} {Q : L2.St → Hp → Prop} (p : PG X tg t) (h : t v σ H Q) : wpG X tg v σ H Q := fun pins s u I r => p.run pins s σ H v u Q I r h
/-- the target tg is put to d -/
def TgK (X : Cx) (F0 : Hp) (tg : Expr) (d : D) (Γ : Gm) (L : Lg) (k : Gm → Lg → Prop) : Prop := ∀ (F : Hp) (σ : L2.St) (H : Hp) (v : V) (Q : L2.St → Hp → Prop), At X.K F0 F Γ L σ H → Rep X.K F d v →
  (∀ Γ' L' F' σ' H', k Γ' L' → At X.K F0 F' Γ' L' σ' H' → Q σ' H') → wpG X tg v σ H Q
theorem tg_n (c : Cn X N Nc sc) {j : Nat} {x : Str} {d : D} {kg : Gm → Lg → Prop} (h : ∃ Γ', Put Γ j (some d) Γ' ∧ kg Γ' L) (hj : N[j]? = some x := by rfl) : TgK X F0 (.Name x pos) d Γ L kg := fun F σ H v Q E r q => by
  obtain ⟨Γ', p, hk⟩ := h
  exact wpG.of (pg_name (i := j) (by rw [c.n]; exact c.nd) (by rw [c.n]; exact get_app hj) (by rw [c.scp]; exact c.loc x (List.mem_of_getElem? hj)) (.inl (c.fn x))) (q Γ' L F _ H hk ⟨E.ge, E.led, E.sl.put r p⟩)
/-- (a, b, ..) = d, d a tuple -/
def TgsK (X : Cx) (F0 : Hp) (ts : List Expr) (ds : List D) (Γ : Gm) (L : Lg) (k : Gm → Lg → Prop) : Prop := match ts, ds with
  | [], [] => k Γ L
  | t :: ts, d :: ds => TgK X F0 t d Γ L fun Γ' L' => TgsK X F0 ts ds Γ' L' k
  | _, _ => False
/-- for tg in iter: body -/
theorem At.base {K : PySem.W.Frag} {F0 F1 F H : Hp} {Γ : Gm} {L : Lg} {σ : L2.St} (E : At K F0 F Γ L σ H) (s : Same F1 F) : At K F1 F Γ L σ H := ⟨s, E.led, E.sl⟩
theorem At.low {K : PySem.W.Frag} {F0 F1 F H : Hp} {Γ : Gm} {L : Lg} {σ : L2.St} (E : At K F1 F Γ L σ H) (s : Same F0 F1) : At K F0 F Γ L σ H := ⟨s.trans E.ge, E.led, E.sl⟩
theorem Cf.up {F1 : Hp} (c : Cf X N Nc sc F0 Z) (s : Same F0 F1) : Cf X N Nc sc F1 Z :=
  ⟨c.toCn, c.calm, c.own, c.tk.imp fun cls od σ H ⟨x, Γ, L, F, e, z, E, r⟩ => ⟨x, Γ, L, F, e, z, E.low s, r⟩, c.stk, c.fr⟩
theorem Ek.up {F1 : Hp} {Dn : Ends} (q : Ek X F0 Dn k) (s : Same F0 F1) : Ek X F1 Dn k :=
  ⟨fun Γ L F σ H h E => q.nx Γ L F σ H h (E.low s), fun d L F v H h s' l r => q.rt d L F v H h (s.trans s') l r, fun Γ L F σ H h E => q.bk Γ L F σ H h (E.low s), fun Γ L F σ H h E => q.ct Γ L F σ H h (E.low s)⟩
theorem sk_for (cf : Cf X N Nc sc F0 Z) (h : EiK X F0 tg iter Γ L fun ds L1 => ∃ Pv : Nat → Gm → Lg → Prop, Pv 0 Γ L1 ∧
      (∀ F1, Cf X N Nc sc F1 Z → ∀ i d Γ' L', ds[i]? = some d → Pv i Γ' L' → TgK X F1 tg d Γ' L' fun Γ2 L2 => BK X F1 body Γ2 L2 { k with nx := Pv (i + 1), ct := Pv (i + 1), bk := k.nx }) ∧ (∀ Γ' L', Pv ds.length Γ' L' → k.nx Γ' L'))
    (hs : ∀ x, foldedSetIterable iter X.env x = pure x := by intro _; rfl) : SK X F0 (.For tg iter body [] pos) Γ L k := fun F σ H Dn E q =>
  wpS.of (ps_for cf.own cf.calm wi wg wb hs) (h F σ H _ E fun ds L1 F1 H1 J ⟨Pv, h0, hb, hd⟩ E1 s1 it => by
    refine ⟨fun i m σ H => ∃ F Γ L, i + m = ds.length ∧ Same F1 F ∧ Pv i Γ L ∧ At X.K F0 F Γ L σ H, ⟨ds.length, F1, Γ, L1, by omega, Same.refl F1, h0, E1⟩, ?_⟩
    rintro i m σ2 H2 ⟨F2, Γ2, L2, hm, s2, hP, E2⟩
    by_cases hi : i < ds.length
    · refine .inr ⟨it.go i H2 F2 L2 hi s2 E2.led, fun σ' H' => ∃ F Γ L, Same F1 F ∧ Pv (i + 1) Γ L ∧ At X.K F0 F Γ L σ' H', fun σ' H' ⟨F3, Γ3, L3, a, b, c⟩ => ⟨m - 1, by omega, F3, Γ3, L3, by omega, a, b, c⟩, fun x H' hy => ?_⟩
      obtain ⟨d, F3, hdi, s3, l3, r3⟩ := it.yld i H2 x H' F2 L2 s2 E2.led hy hi
      refine hb F1 (cf.up E1.ge) i d Γ2 L2 hdi hP F3 σ2 H' x _ ((E2.to s3 l3).base (s2.trans s3)) r3 fun Γ4 L4 F4 σ4 H4 h4 E4 => ?_
      have q' := q.up (F1 := F1) E1.ge
      exact h4 F4 σ4 H4 _ E4 ⟨fun Γ L F σ H h E => ⟨F, Γ, L, E.ge, h, E.low E1.ge⟩, q'.rt, q'.nx, fun Γ L F σ H h E => ⟨F, Γ, L, E.ge, h, E.low E1.ge⟩⟩
    · have e : i = ds.length := by omega
      subst e
      exact .inl ⟨it.stop _ H2 F2 L2 (Nat.le_refl _) s2 E2.led, q.nx Γ2 L2 F2 σ2 H2 (hd Γ2 L2 hP) E2⟩)
/-! what is walked -/
variable {kl : List D → Lg → Prop}
theorem ei_list (h : EvK X F0 a Γ L fun x L1 => ∃ ds, x = .lst ds ∧ kl ds L1) : EiK X F0 tg a Γ L kl := fun F σ H R E q =>
  wpI.of (pi_list we) (h F σ H _ E fun x L1 F1 v H1 ⟨ds, e1, h1⟩ E1 s1 r1 => by
    subst e1
    cases r1 with
    | lst hx rx =>
      rename_i p xs
      refine ⟨p, rfl, ⟨xs, E1.led.sub.seq hx⟩, q ds L1 F1 H1 _ h1 E1 s1 ⟨?_, ?_, ?_⟩⟩
      · intro i H F' L' hi s l
        have hi' : i < xs.length := by rw [← rx.length]; exact hi
        exact ⟨xs, xs[i], l.sub.seq (s.seq hx), List.getElem?_eq_getElem hi'⟩
      · rintro i H x H' F' L' s l ⟨rfl, hy⟩ hi
        have hx' := hy xs (l.sub.seq (s.seq hx))
        obtain ⟨d, hd, rd⟩ := rx.got hx'
        exact ⟨d, F', hd, Same.refl F', l, rd.mono s⟩
      · intro i H F' L' hi s l
        exact ⟨xs, l.sub.seq (s.seq hx), by rw [← rx.length]; exact hi⟩)
theorem ei_tup (h : EvK X F0 a Γ L fun x L1 => ∃ ds, x = .tup ds ∧ kl ds L1) : EiK X F0 tg a Γ L kl := fun F σ H R E q =>
  wpI.of (pi_tup we) (h F σ H _ E fun x L1 F1 v H1 ⟨ds, e1, h1⟩ E1 s1 r1 => by
    subst e1
    cases r1 with
    | tup hx rx =>
      rename_i p xs
      refine ⟨p, rfl, ⟨xs, seqT E1.led.sub hx⟩, q ds L1 F1 H1 _ h1 E1 s1 ⟨?_, ?_, ?_⟩⟩
      · intro i H F' L' hi s l
        have hi' : i < xs.length := by rw [← rx.length]; exact hi
        exact ⟨xs, xs[i], seqT l.sub (seqT s hx), List.getElem?_eq_getElem hi'⟩
      · rintro i H x H' F' L' s l ⟨rfl, hy⟩ hi
        have hx' := hy xs (seqT l.sub (seqT s hx))
        obtain ⟨d, hd, rd⟩ := rx.got hx'
        exact ⟨d, F', hd, Same.refl F', l, rd.mono s⟩
      · intro i H F' L' hi s l
        exact ⟨xs, seqT l.sub (seqT s hx), by rw [← rx.length]; exact hi⟩)
def rangeD (lo : Int) (n : Nat) : List D := (List.range n).map fun (i : Nat) => D.int (lo + (i : Int))
theorem rangeD_get {lo : Int} {n i : Nat} (h : i < n) : (rangeD lo n)[i]? = some (.int (lo + (i : Int))) := by
  unfold rangeD
  rw [List.getElem?_map, List.getElem?_range h]
  rfl
theorem rangeD_len {lo : Int} {n : Nat} : (rangeD lo n).length = n := by unfold rangeD; rw [List.length_map, List.length_range]
theorem itr_ok {K : PySem.W.Frag} {F : Hp} {lo : Int} {n : Nat} : ItD K (rangeD lo n) F (Itr lo n) := by
  refine ⟨?_, ?_, ?_⟩
  · intro i H F' L' hi _ _
    rw [rangeD_len] at hi
    exact hi
  · rintro i H x H' F' L' _ l ⟨rfl, rfl⟩ hi
    rw [rangeD_len] at hi
    exact ⟨_, F', rangeD_get hi, Same.refl F', l, .int⟩
  · intro i H F' L' hi _ _
    rw [rangeD_len] at hi
    exact hi
theorem ei_range1 {p : Pos} (hm : X.mg "range" = none) (hg : Gl X "range") (h : EvK X F0 a Γ L fun x L1 => ∃ j : Int, x = .int j ∧ (-(2 ^ 62) ≤ j ∧ j < 2 ^ 62) ∧ kl (rangeD 0 j.toNat) L1)
    (hs : starEach [a] X.env = [(false, eval a X.env)] := by rfl) : EiK X F0 tg (.Call (.Name "range" p) [a] [] pos) Γ L kl := fun F σ H R E q =>
  wpI.of (pi_range1 hg hm (pa_cons we pa_nil hs) hs) (h F σ H _ E fun x L1 F1 v H1 ⟨j, e1, hj, h1⟩ E1 s1 r1 => by
    subst e1
    cases r1
    exact ⟨j, rfl, hj.1, hj.2, q _ L1 F1 H1 _ h1 E1 s1 itr_ok⟩)
theorem ei_range2 {p : Pos} (hm : X.mg "range" = none) (hg : Gl X "range") (h : EvK X F0 a Γ L fun x L1 => ∃ i : Int, x = .int i ∧ EvK X F0 b Γ L1 fun y L2 => ∃ j : Int, y = .int j ∧ (-(2 ^ 62) ≤ i ∧ i < 2 ^ 62 ∧ -(2 ^ 62) ≤ j ∧ j < 2 ^ 62) ∧ kl (rangeD i (j - i).toNat) L2)
    (hs : starEach [a, b] X.env = [(false, eval a X.env), (false, eval b X.env)] := by rfl) (hs2 : starEach [b] X.env = [(false, eval b X.env)] := by rfl) : EiK X F0 tg (.Call (.Name "range" p) [a, b] [] pos) Γ L kl := fun F σ H R E q =>
  wpI.of (pi_range2 hg hm (pa_cons we (pa_cons we pa_nil hs2) (by rw [hs, hs2])) hs hs2) (h F σ H _ E fun x L1 F1 v H1 ⟨i, e1, h1⟩ E1 s1 r1 => h1 F1 σ H1 _ E1 fun y L2 F2 u H2 ⟨j, e2, hj, h2⟩ E2 s2 r2 => by
    subst e1 e2
    cases r1
    cases r2
    exact ⟨i, j, rfl, hj, q _ L2 F2 H2 _ h2 E2 (s1.trans s2) itr_ok⟩)
end
end Vs

set_option Elab.async false
set_option linter.all false
set_option maxRecDepth 100000
set_option maxHeartbeats 4000000
namespace Vs
open PySem PySem.Spec PyProof.Rows L2
/-! ### comprehensions -/
def wpPs (X : Cx) (ifs : List Expr) : TT := fun σ H Q => ∀ pins s, Inv X pins σ H s →
    wpAny (model X.prog X.w) X.A (forIn ifs true fun c r => if r = true then do let ok ← isTrue c X.env (eval c X.env); pure (ForInStep.yield ok) else pure (ForInStep.yield r)) (TP X pins σ Q) X.xe s
def EsK (X : Cx) (F0 : Hp) (ifs : List Expr) (Γ : Gm) (L : Lg) (k : Bool → Lg → Prop) : Prop := ∀ (F : Hp) (σ : L2.St) (H : Hp) (Q : Bool → Hp → Prop), At X.K F0 F Γ L σ H →
  (∀ (b : Bool) (L' : Lg) (F' : Hp) (H' : Hp), k b L' → At X.K F0 F' Γ L' σ H' → Same F F' → Q b H') → wpPs X ifs σ H Q
section
variable {X : Cx} {F0 : Hp} {Γ : Gm} {L : Lg} {k : D → Lg → Prop} {ka : List D → Lg → Prop} {kt : Bool → Lg → Prop} {e a b c o : Expr} {es rest : List Expr} {pos p2 apos cpos : Pos} {N Nc : List Str} {sc : Scope} {Z : Xc → Gm → Lg → Prop}
theorem wps {ifs : List Expr} : PTs X ifs (wpPs X ifs) := ⟨fun pins s _ _ _ I h => h pins s I⟩
theorem es_nil (h : kt true L) : EsK X F0 [] Γ L kt := fun F σ H Q E q => fun pins s I => pts_nil.run pins s σ H Q I (q true L F H h E (Same.refl F))
theorem es_one (h : EtK X F0 a Γ L kt) : EsK X F0 [a] Γ L kt := fun F σ H Q E q => fun pins s I => (pts_one wt).run pins s σ H Q I (h F σ H Q E q)
/-- the names of a comprehension's block -/
structure Cb (X : Cx) (N : List Str) (sc bs : Scope) : Prop where
  n : X.N = N
  nd : N.Nodup
  vis : ∀ x, (bs.names.lookup x = some .local ∨ bs.names.lookup x = some .cell ∨ bs.names.lookup x = some .free) → Vis X.env.scope x
  own : ∀ x, bs.names.lookup x = some .local → X.env.scope.names.lookup x = some .local
  cel : ∀ x, bs.names.lookup x = some .cell → X.env.scope.names.lookup x = some .cell ∧ X.fn x = true
  glo : ∀ x, bs.names.lookup x = some .globalImplicit → Gl X x
  calm : X.calm = true
  rel : ∃ env : Env, X.env.scope = relabel bs env
theorem relabel_free {env : Env} : ∀ {names : List (Str × NameKind)} {x : Str} {q : NameKind}, names.lookup x = some q →
    (names.map fun (n, k) => if (k == NameKind.free && env.scope.kind == .function && env.kindOf n == some .cell) then (n, NameKind.cell) else (n, k)).lookup x = some q ∨
    (q = .free ∧ (names.map fun (n, k) => if (k == NameKind.free && env.scope.kind == .function && env.kindOf n == some .cell) then (n, NameKind.cell) else (n, k)).lookup x = some .cell)
  | [], x, q, h => by simp at h
  | (n, kk) :: r, x, q, h => by
    rw [List.lookup_cons] at h
    rw [List.map_cons]
    by_cases hx : x == n
    · rw [hx] at h
      have h' : kk = q := Option.some.inj h
      subst h'
      dsimp only
      split
      · rename_i hc
        refine .inr ⟨?_, ?_⟩
        · simp only [Bool.and_eq_true, beq_iff_eq] at hc
          exact hc.1.1
        · rw [List.lookup_cons, hx]
      · refine .inl ?_
        rw [List.lookup_cons, hx]
    · have hx' : (x == n) = false := by simpa using hx
      rw [hx'] at h
      have ih := relabel_free (env := env) (names := r) (x := x) (q := q) h
      have key : ∀ (t : List (Str × NameKind)) (y : Str × NameKind), y.1 = n → (y :: t).lookup x = t.lookup x := fun t y hy => by
        obtain ⟨y1, y2⟩ := y
        rw [List.lookup_cons]
        dsimp only at hy
        rw [hy, hx']
      rw [key _ _ (by dsimp only; split <;> rfl)]
      exact ih
theorem blk_okM {M : List Str} {sc' : Scope} {s : Shared} {H : Hp} {C : Addr} {cl : List (Str × Addr)} {fp : List Addr} {bs : Scope} (hn : X.N = M) (nd : M.Nodup) (hc : X.calm = true) : Cb (X.blk s H bs (compEnvC bs cl C X.env) fp) M sc' bs where
  n := hn
  nd := nd
  vis := fun x h => by
    show Vis (relabel bs X.env) x
    unfold Vis
    rcases h with h | h | h
    · rcases relabel_free (env := X.env) h with h2 | ⟨h2, _⟩
      · exact .inl h2
      · cases h2
    · rcases relabel_free (env := X.env) h with h2 | ⟨h2, _⟩
      · exact .inr (.inl h2)
      · cases h2
    · rcases relabel_free (env := X.env) h with h2 | ⟨_, h2⟩
      · exact .inr (.inr h2)
      · exact .inr (.inl h2)
  own := fun x h => by
    rcases relabel_free (env := X.env) h with h2 | ⟨h2, _⟩
    · exact h2
    · cases h2
  cel := fun x h => by
    rcases relabel_free (env := X.env) h with h2 | ⟨h2, _⟩
    · exact ⟨h2, by show (bs.names.lookup x == some .cell) = true; rw [h]; rfl⟩
    · cases h2
  glo := fun x h => by
    rcases relabel_free (env := X.env) h with h2 | ⟨h2, _⟩
    · exact h2
    · cases h2
  calm := hc
  rel := ⟨X.env, rfl⟩
theorem relabel_lk {env : Env} {bs : Scope} {x : Str} (h : bs.names.lookup x = some .cell ∨ bs.names.lookup x = some .free) : (relabel bs env).names.lookup x = some .cell ∨ (relabel bs env).names.lookup x = some .free := by
  rcases h with h | h
  · rcases relabel_free (env := env) h with h2 | ⟨h2, _⟩
    · exact .inl h2
    · cases h2
  · rcases relabel_free (env := env) h with h2 | ⟨_, h2⟩
    · exact .inr h2
    · exact .inl h2
theorem blk_rel {M : List Str} {env : Env} {bs0 bs : Scope} {own : List (Str × Nat)} (h : BlkOk M bs0 bs own) : BlkOk M (relabel bs0 env) bs own :=
  ⟨h.kind, h.uniq, h.ix, fun y hy e => relabel_lk (h.free y hy e), h.own⟩
/-- a name read in a block -/
theorem ek_b {bs : Scope} (c : Cb X N sc bs) {i : Nat} {x : Str} {d : D} (g : Get Γ i (some d)) (h : k d L) (hi : N[i]? = some x := by rfl) (hv : bs.names.lookup x = some .local ∨ bs.names.lookup x = some .cell ∨ bs.names.lookup x = some .free := by first | exact .inl rfl | exact .inr (.inr rfl) | exact .inr (.inl rfl))
    (hd : (x == ("__debug__" : Str)) = false := by decide) (hcd : (x == ("__classdict__" : Str)) = false := by decide) : EvK X F0 (.Name x pos) Γ L k :=
  ek_v (pe_var (by rw [c.n]; exact hi) (c.vis x hv) hd hcd) g h
/-- the block's own places forgotten -/
def wipeG (Γ : Gm) : List Nat → Gm
  | [] => Γ
  | v :: vs => (wipeG Γ vs).set v none
theorem Slots.wset {K : PySem.W.Frag} {F : Hp} {x : Option V} : ∀ {Γ : Gm} {σ : L2.St} {i : Nat}, Slots K F Γ σ → Slots K F (Γ.set i none) (σ.set i x)
  | _, _, _, .nil => .nil
  | _, _, 0, .so _ t => .no t
  | _, _, 0, .no t => .no t
  | _, _, i + 1, .so r t => .so r (Slots.wset t)
  | _, _, i + 1, .no t => .no (Slots.wset t)
theorem Slots.wipe {K : PySem.W.Frag} {F : Hp} {Γ : Gm} {σ : L2.St} (h : Slots K F Γ σ) : ∀ vs : List Nat, Slots K F (wipeG Γ vs) (wipe σ vs)
  | [] => h
  | v :: vs => (Slots.wipe h vs).wset
theorem Led.last {K : PySem.W.Frag} {F H : Hp} {L : Lg} {q : Addr} {ds : List D} {xs : List V} (e : Led K F L H) (h : H q = none) (r : Reps K F ds xs) : Led K F (L ++ [(q, .lst ds)]) (upd H q (.lst xs)) := by
  have l := e.newL h r
  refine ⟨l.sub, ?_, fun p hp => l.ent p ?_⟩
  · have nd := l.nod
    rw [List.map_cons] at nd
    rw [List.map_append]
    obtain ⟨n1, n2⟩ := List.nodup_cons.mp nd
    refine List.nodup_append.mpr ⟨n2, by simp, fun a ha b hb z => ?_⟩
    have hb' : b = q := by simpa using hb
    subst z
    rw [hb'] at ha
    exact n1 ha
  · rcases List.mem_append.mp hp with h | h
    · exact List.mem_cons_of_mem _ h
    · have : p = (q, .lst ds) := by simpa using h
      rw [this]
      exact List.mem_cons_self
theorem get_last {α : Type} {x : α} : ∀ (xs : List α), Get (xs ++ [x]) xs.length x
  | [] => .z
  | _ :: xs => .s (get_last xs)
theorem put_last {α : Type} {x y : α} : ∀ (xs : List α), Put (xs ++ [x]) xs.length y (xs ++ [y])
  | [] => .z
  | _ :: xs => .s (put_last xs)
theorem Led.unlast {K : PySem.W.Frag} {F H : Hp} {L : Lg} {q : Addr} {ds : List D} (e : Led K F (L ++ [(q, .lst ds)]) H) : ∃ xs, H q = some (.lst xs) ∧ Led K (upd F q (.lst xs)) L H ∧ Same F (upd F q (.lst xs)) ∧ Reps K F ds xs := by
  have g := get_last (x := (q, C.lst ds)) L
  obtain ⟨xs, h1, h2⟩ := e.lst g
  have fq : F q = none := (e.ent _ g.mem).1
  have s1 : Same F (upd F q (.lst xs)) := same_new fq
  refine ⟨xs, h1, ⟨fun b u z => ?_, ?_, fun p hp => ?_⟩, s1, h2⟩
  · by_cases hb : b = q
    · subst hb; rw [upd_same] at z; rw [h1]; exact z
    · rw [upd_ne hb] at z; exact e.sub b u z
  · have nd := e.nod
    rw [List.map_append] at nd
    exact (List.nodup_append.mp nd).1
  · obtain ⟨a1, a2⟩ := e.ent p (List.mem_append_left _ hp)
    have ne : p.1 ≠ q := fun z => by
      have nd := e.nod
      rw [List.map_append] at nd
      exact (List.nodup_append.mp nd).2.2 p.1 (List.mem_map_of_mem hp) q (by simp) z
    exact ⟨(upd_ne ne).trans a1, a2.mono s1 rfl⟩

theorem wipe_in {σ : L2.St} {i : Nat} : ∀ {vs : List Nat}, i ∈ vs → (wipe σ vs)[i]? = if i < σ.length then some none else none
  | [], h => by cases h
  | v :: vs, h => by
    show ((wipe σ vs).set v none)[i]? = _
    rw [List.getElem?_set]
    by_cases hv : v = i
    · rw [if_pos hv, hv, wipe_length]
    · rw [if_neg hv]
      rcases List.mem_cons.mp h with h | h
      · exact absurd h.symm hv
      · exact wipe_in h
theorem wipe_set {σ : L2.St} {j : Nat} {x : Option V} {vs : List Nat} (h : j ∈ vs) : wipe (σ.set j x) vs = wipe σ vs := by
  refine List.ext_getElem? fun i => ?_
  by_cases hi : i ∈ vs
  · rw [wipe_in hi, wipe_in hi, List.length_set]
  · rw [wipe_out hi, wipe_out hi, List.getElem?_set, if_neg (fun (z : j = i) => hi (z ▸ h))]
/-- a block's target: only the places vs are put -/
def TbK (X : Cx) (F0 : Hp) (tg : Expr) (vs : List Nat) (d : D) (Γ : Gm) (L : Lg) (k : Gm → Lg → Prop) : Prop := ∀ (F : Hp) (σ : L2.St) (H : Hp) (v : V) (Q : L2.St → Hp → Prop), At X.K F0 F Γ L σ H → Rep X.K F d v →
  (∀ Γ' L' F' σ' H', k Γ' L' → At X.K F0 F' Γ' L' σ' H' → Same F F' → wipe σ' vs = wipe σ vs → Q σ' H') → wpG X tg v σ H Q
theorem tb_n {bs : Scope} (c : Cb X N sc bs) {j : Nat} {x : Str} {d : D} {vs : List Nat} {kg : Gm → Lg → Prop} (h : ∃ Γ', Put Γ j (some d) Γ' ∧ kg Γ' L) (hj : N[j]? = some x := by rfl) (hv : bs.names.lookup x = some .local ∨ bs.names.lookup x = some .cell := by first | exact .inl rfl | exact .inr rfl) (hm : j ∈ vs := by decide) : TbK X F0 (.Name x pos) vs d Γ L kg := fun F σ H v Q E r q => by
  obtain ⟨Γ', p, hk⟩ := h
  have hl : Loc X.env.scope x ∧ (X.fn x = true ∨ X.env.scope.names.lookup x = some .local) := by
    rcases hv with z | z
    · exact ⟨.inl (c.own x z), .inr (c.own x z)⟩
    · exact ⟨.inr (c.cel x z).1, .inl (c.cel x z).2⟩
  exact wpG.of (pg_name (i := j) (by rw [c.n]; exact c.nd) (by rw [c.n]; exact hj) hl.1 hl.2) (q Γ' L F _ H hk ⟨E.ge, E.led, E.sl.put r p⟩ (Same.refl F) (wipe_set hm))

theorem Get.app {α : Type} {x : α} {ys : List α} : ∀ {xs : List α} {i : Nat}, Get xs i x → Get (xs ++ ys) i x
  | _, _, .z => .z
  | _, _, .s g => .s g.app
theorem AsL.app {L M : Lg} {x : D} {ds : List D} (h : AsL L x ds) : AsL (L ++ M) x ds := by
  cases h with
  | lst => exact .lst
  | own g => exact .own g.app
/-! what is walked in a comprehension: the ledger stays -/
structure ItP (K : PySem.W.Frag) (L : Lg) (ds : List D) (F : Hp) (J : It) : Prop where
  go : ∀ i H F' L', i < ds.length → Same F F' → Led K F' (L ++ L') H → J.go i H
  yld : ∀ i H x H' F' L', Same F F' → Led K F' (L ++ L') H → J.yld i H x H' → i < ds.length → ∃ d F'', ds[i]? = some d ∧ Same F' F'' ∧ Led K F'' (L ++ L') H' ∧ Rep K F'' d x
  stop : ∀ i H F' L', ds.length ≤ i → Same F F' → Led K F' (L ++ L') H → J.stop i H
def EiP (X : Cx) (F0 : Hp) (tg iter : Expr) (Γ : Gm) (L : Lg) (k : List D → Lg → Prop) : Prop := ∀ (F : Hp) (σ : L2.St) (H : Hp) (R : It → Hp → Prop), At X.K F0 F Γ L σ H →
  (∀ ds L' F' H' J, k ds L' → At X.K F0 F' Γ L' σ H' → Same F F' → ItP X.K L' ds F' J → R J H') → wpI X tg iter σ H R
theorem ei_p {tg iter : Expr} {kl : List D → Lg → Prop} (h : EiK X F0 tg iter Γ L kl) : EiP X F0 tg iter Γ L kl := fun F σ H R E q => h F σ H R E fun ds L' F' H' J hk E' s it =>
  q ds L' F' H' J hk E' s ⟨fun i H F1 L1 hi s l => it.go i H F1 _ hi s l, fun i H x H' F1 L1 s l hy hi => it.yld i H x H' F1 _ s l hy hi, fun i H F1 L1 hi s l => it.stop i H F1 _ hi s l⟩
theorem eip_mono {tg iter : Expr} {kl kl' : List D → Lg → Prop} (h : EiP X F0 tg iter Γ L kl) (hk : ∀ ds L', kl ds L' → kl' ds L') : EiP X F0 tg iter Γ L kl' := fun F σ H R E q => h F σ H R E fun ds L' F' H' J h1 => q ds L' F' H' J (hk ds L' h1)
theorem eip_as {tg : Expr} {kl : List D → Lg → Prop} (h : EvK X F0 a Γ L fun x L1 => ∃ ds, AsL L1 x ds ∧ kl ds L1) : EiP X F0 tg a Γ L kl := fun F σ H R E q =>
  wpI.of (pi_list we) (h F σ H _ E fun x L1 F1 v H1 ⟨ds, as, h1⟩ E1 s1 r1 => by
    obtain ⟨p, xs, rfl, hx, rx⟩ := as.read E1.led r1
    have rd : ∀ {F' : Hp} {L' : Lg} {H' : Hp}, Same F1 F' → Led X.K F' (L1 ++ L') H' → ∃ xs, SqL X.K H' p xs ∧ Reps X.K F' ds xs := fun s l => by
      obtain ⟨p', ys, e, hy, ry⟩ := as.app.read l (r1.mono s)
      cases e
      exact ⟨ys, hy, ry⟩
    refine ⟨p, rfl, ⟨xs, hx⟩, q ds L1 F1 H1 _ h1 E1 s1 ⟨?_, ?_, ?_⟩⟩
    · intro i H F' L' hi s l
      obtain ⟨ys, hy, ry⟩ := rd s l
      have hi' : i < ys.length := by rw [← ry.length]; exact hi
      exact ⟨ys, ys[i], hy, List.getElem?_eq_getElem hi'⟩
    · rintro i H x H' F' L' s l ⟨rfl, hy⟩ hi
      obtain ⟨ys, hy2, ry⟩ := rd s l
      obtain ⟨d, hd, rd'⟩ := ry.got (hy ys hy2)
      exact ⟨d, F', hd, Same.refl F', l, rd'⟩
    · intro i H F' L' hi s l
      obtain ⟨ys, hy, ry⟩ := rd s l
      exact ⟨ys, hy, by rw [← ry.length]; exact hi⟩)
/-- a heap above F0 -/
structure UpH (F0 : Hp) where
  h : Hp
  s : Same F0 h
def gS (X : Cx) (bs : Scope) (tg : Expr) : TG := fun v σ H Q => ∀ s0 H0 C cl fp, wpG (X.blk s0 H0 bs (compEnvC bs cl C X.env) fp) tg v σ H Q
def tS (X : Cx) (bs : Scope) (ifs : List Expr) : TT := fun σ H Q => ∀ s0 H0 C cl fp, wpPs (X.blk s0 H0 bs (compEnvC bs cl C X.env) fp) ifs σ H Q
def eS (X : Cx) (bs : Scope) (elt : Expr) : TE := fun σ H Q => ∀ s0 H0 C cl fp, wpE (X.blk s0 H0 bs (compEnvC bs cl C X.env) fp) elt σ H Q
theorem pgS {bs : Scope} {tg : Expr} (s0 : Shared) (H0 : Hp) (C : Addr) (cl : List (Str × Addr)) (fp : List Addr) : PG (X.blk s0 H0 bs (compEnvC bs cl C X.env) fp) tg (gS X bs tg) := ⟨fun pins s _ _ _ u _ I r h => h s0 H0 C cl fp pins s u I r⟩
theorem ptS {bs : Scope} {ifs : List Expr} (s0 : Shared) (H0 : Hp) (C : Addr) (cl : List (Str × Addr)) (fp : List Addr) : PTs (X.blk s0 H0 bs (compEnvC bs cl C X.env) fp) ifs (tS X bs ifs) := ⟨fun pins s _ _ _ I h => h s0 H0 C cl fp pins s I⟩
theorem peS {bs : Scope} {elt : Expr} (s0 : Shared) (H0 : Hp) (C : Addr) (cl : List (Str × Addr)) (fp : List Addr) : PE (X.blk s0 H0 bs (compEnvC bs cl C X.env) fp) elt (eS X bs elt) := ⟨fun pins s _ _ _ I h => h s0 H0 C cl fp pins s I⟩
theorem rd_lc {elt tg iter : Expr} {ifs : List Expr} {bs : Scope} (own : List (Str × Nat)) {M : List Str} {sc' : Scope} (hM : X.N = M) (nd : M.Nodup) (hc : X.calm = true)
    (h : EiP X F0 tg iter Γ L fun ds L1 => ∃ es : List (Option D), es.length = ds.length ∧ ds.length ≤ 1000000 ∧
      (∀ (F1 : UpH F0) (n : Nat) (d : D) (e : Option D) (acc : List D) (Dp : Addr), ds[n]? = some d → es[n]? = some e →
        (∀ X', Cb X' M sc' bs → (∃ s H C cl fp, X' = X.blk s H bs (compEnvC bs cl C X.env) fp) → TbK X' F1.h tg (own.map (·.2)) d (wipeG Γ (own.map (·.2))) (L1 ++ [(Dp, .lst acc)]) fun Γ2 L2 => L2 = L1 ++ [(Dp, .lst acc)] ∧
          (∀ X', Cb X' M sc' bs → (∃ s H C cl fp, X' = X.blk s H bs (compEnvC bs cl C X.env) fp) → EsK X' F1.h ifs Γ2 L2 fun t L3 => L3 = L2 ∧
            (t = true → ∀ X', Cb X' M sc' bs → (∃ s H C cl fp, X' = X.blk s H bs (compEnvC bs cl C X.env) fp) → EvK X' F1.h elt Γ2 L2 fun y L4 => L4 = L2 ∧ e = some y) ∧ (t = false → e = none)))) ∧ k (.lst (es.filterMap id)) L1)
    : RdK X F0 (tLc (wpI X tg iter) (gS X bs tg) (tS X bs ifs) (eS X bs elt) (own.map (·.2))) Γ L k := fun F σ H Q E q => by
  refine h F σ H _ E fun ds L1 F1 H1 J ⟨es, hes, hds, hb, hk⟩ E1 s1 it => ?_
  intro Dp hD
  have len : ∀ i, ((es.take i).filterMap id).length ≤ es.length := fun i => Nat.le_trans (List.length_filterMap_le _ _) (by rw [List.length_take]; exact Nat.min_le_right _ _)
  refine ⟨fun i m H => i + m = ds.length ∧ ∃ F, Same F1 F ∧ At X.K F0 F Γ (L1 ++ [(Dp, .lst ((es.take i).filterMap id))]) σ H, ⟨ds.length, by omega, F1, Same.refl F1, E1.to (Same.refl F1) (E1.led.last hD .nil)⟩, ?_⟩
  rintro i m H2 ⟨hm, F2, s2, E2⟩
  by_cases hi : i < ds.length
  · refine .inr ⟨it.go i H2 F2 _ hi s2 E2.led, fun H' => ∃ F, Same F1 F ∧ At X.K F0 F Γ (L1 ++ [(Dp, .lst ((es.take (i + 1)).filterMap id))]) σ H', fun H' ⟨F3, a, b⟩ => ⟨m - 1, by omega, by omega, F3, a, b⟩, fun x H' hy => ?_⟩
    obtain ⟨d, F3, hdi, s3, l3, r3⟩ := it.yld i H2 x H' F2 _ s2 E2.led hy hi
    have E3 := E2.to s3 l3
    have hei : ∃ e, es[i]? = some e := ⟨es[i]'(by omega), List.getElem?_eq_getElem (by omega)⟩
    obtain ⟨e, hei⟩ := hei
    have htk : (es.take (i + 1)).filterMap id = (es.take i).filterMap id ++ e.toList := by
      rw [List.take_add_one, hei, List.filterMap_append]
      cases e <;> rfl
    intro s0 H0 C0 cl0 fp0
    refine hb ⟨F1, E1.ge⟩ i d e ((es.take i).filterMap id) Dp hdi hei _ (blk_okM hM nd hc) ⟨s0, H0, C0, cl0, fp0, rfl⟩ F3 (wipe σ (own.map (·.2))) H' x _ ⟨s2.trans s3, E3.led, E3.sl.wipe _⟩ r3 ?_
    rintro Γ4 L4 F4 σ4 H4 ⟨rfl, h4⟩ E4 s4 hw
    refine ⟨by rw [hw]; refine List.ext_getElem? fun z => ?_; by_cases hz : z ∈ own.map (·.2); (rw [wipe_in hz, wipe_in hz, wipe_length]); (rw [wipe_out hz]), ?_⟩
    intro s0 H0 C0 cl0 fp0
    refine h4 _ (blk_okM hM nd hc) ⟨s0, H0, C0, cl0, fp0, rfl⟩ F4 σ4 H4 _ E4 ?_
    rintro t L5 F5 H5 ⟨rfl, h5, h6⟩ E5 s5
    cases t with
    | false =>
      rw [if_neg Bool.false_ne_true]
      have e0 := h6 rfl
      subst e0
      refine ⟨F5, E5.ge, ?_⟩
      rw [htk]
      show At X.K F0 F5 Γ (L1 ++ [(Dp, C.lst ((es.take i).filterMap id ++ []))]) σ H5
      rw [List.append_nil]
      exact E3.to (s4.trans s5) E5.led
    | true =>
      rw [if_pos rfl]
      intro s0 H0 C0 cl0 fp0
      refine h5 rfl _ (blk_okM hM nd hc) ⟨s0, H0, C0, cl0, fp0, rfl⟩ F5 σ4 H5 _ E5 ?_
      rintro y L6 F6 v6 H6 ⟨rfl, he⟩ E6 s6 r6
      subst he
      have g := get_last (x := (Dp, C.lst ((es.take i).filterMap id))) L1
      obtain ⟨xs, hx, rx⟩ := E6.led.lst g
      refine ⟨xs, hx, ?_, F6, E6.ge, ?_⟩
      · rw [← rx.length]
        exact Nat.lt_of_le_of_lt (len i) (Nat.lt_of_le_of_lt (by rw [hes]; exact hds) (by decide))
      · rw [htk]
        exact E3.to (s4.trans (s5.trans s6)) (E6.led.put g (put_last L1) ⟨_, upd_same, rx.append (.cons r6 .nil)⟩)
  · have e : i = ds.length := by omega
    subst e
    refine .inl ⟨it.stop _ H2 F2 _ (Nat.le_refl _) s2 E2.led, ?_⟩
    have e2 : es.take ds.length = es := List.take_of_length_le (by omega)
    rw [e2] at E2
    obtain ⟨xs, hx, l, s3, r⟩ := E2.led.unlast
    exact q _ L1 _ _ _ hk (E2.to s3 l) (s1.trans (s2.trans s3)) (.lst (.inl (.inl upd_same)) (r.mono s3))
theorem ek_lc {elt tg iter : Expr} {ifs : List Expr} {bs : Scope} (own : List (Str × Nat)) (cf : Cn X N Nc sc) (hc : X.calm = true) (ok : blkC (N ++ Nc) sc bs own = true)
    (h : EiP X F0 tg iter Γ L fun ds L1 => ∃ es : List (Option D), es.length = ds.length ∧ ds.length ≤ 1000000 ∧
      (∀ (F1 : UpH F0) (n : Nat) (d : D) (e : Option D) (acc : List D) (Dp : Addr), ds[n]? = some d → es[n]? = some e →
        (∀ X', Cb X' (N ++ Nc) sc bs → (∃ s H C cl fp, X' = X.blk s H bs (compEnvC bs cl C X.env) fp) → TbK X' F1.h tg (own.map (·.2)) d (wipeG Γ (own.map (·.2))) (L1 ++ [(Dp, .lst acc)]) fun Γ2 L2 => L2 = L1 ++ [(Dp, .lst acc)] ∧
          (∀ X', Cb X' (N ++ Nc) sc bs → (∃ s H C cl fp, X' = X.blk s H bs (compEnvC bs cl C X.env) fp) → EsK X' F1.h ifs Γ2 L2 fun t L3 => L3 = L2 ∧
            (t = true → ∀ X', Cb X' (N ++ Nc) sc bs → (∃ s H C cl fp, X' = X.blk s H bs (compEnvC bs cl C X.env) fp) → EvK X' F1.h elt Γ2 L2 fun y L4 => L4 = L2 ∧ e = some y) ∧ (t = false → e = none)))) ∧ k (.lst (es.filterMap id)) L1)
    (hs : ∀ x, foldedSetIterable iter X.env x = pure x := by intro _; rfl) : EvK X F0 (.ListComp elt [⟨tg, iter, ifs, 0⟩] bs pos) Γ L k :=
  (rd_lc own cf.n cf.nd hc h).ev (pe_lc (own := own) hc (by rw [cf.n]; exact cf.nd) wi (by rw [cf.n, cf.scp]; exact blkOk_by ok) pgS ptS peS hs)
theorem sk_setLc {elt tg iter : Expr} {ifs : List Expr} {bs : Scope} {ks : Ks} {j : Nat} {y : Str} {py spos : Pos} (own : List (Str × Nat)) (cf : Cn X N Nc sc) (hc : X.calm = true) (ok : blkC (N ++ Nc) sc bs own = true)
    (h : EiP X F0 tg iter Γ L fun ds L1 => ∃ es : List (Option D), es.length = ds.length ∧ ds.length ≤ 1000000 ∧
      (∀ (F1 : UpH F0) (n : Nat) (d : D) (e : Option D) (acc : List D) (Dp : Addr), ds[n]? = some d → es[n]? = some e →
        (∀ X', Cb X' (N ++ Nc) sc bs → (∃ s H C cl fp, X' = X.blk s H bs (compEnvC bs cl C X.env) fp) → TbK X' F1.h tg (own.map (·.2)) d (wipeG Γ (own.map (·.2))) (L1 ++ [(Dp, .lst acc)]) fun Γ2 L2 => L2 = L1 ++ [(Dp, .lst acc)] ∧
          (∀ X', Cb X' (N ++ Nc) sc bs → (∃ s H C cl fp, X' = X.blk s H bs (compEnvC bs cl C X.env) fp) → EsK X' F1.h ifs Γ2 L2 fun t L3 => L3 = L2 ∧
            (t = true → ∀ X', Cb X' (N ++ Nc) sc bs → (∃ s H C cl fp, X' = X.blk s H bs (compEnvC bs cl C X.env) fp) → EvK X' F1.h elt Γ2 L2 fun y L4 => L4 = L2 ∧ e = some y) ∧ (t = false → e = none)))) ∧ ∃ Γ', Put Γ j (some (.lst (es.filterMap id))) Γ' ∧ ks.nx Γ' L1)
    (hj : N[j]? = some y := by rfl) (hyl : sc.names.lookup y = some .local := by rfl)
    (hl : (py.line == pos.line) = true := by rfl) (hn : (bs.names.any fun (n, k) => n == y && (k == .local || k == .cell)) = false := by decide +kernel) (hk : sc.kind = .function := by rfl)
    (hs : ∀ x, foldedSetIterable iter X.env x = pure x := by intro _; rfl) : SK X F0 (.Assign [.Name y py] (.ListComp elt [⟨tg, iter, ifs, 0⟩] bs pos) spos) Γ L ks := fun F σ H Dn E q =>
  wpS.of (ps_setLc (own := own) hc (by rw [cf.n]; exact cf.nd) (by rw [cf.n]; exact get_app hj) (by rw [cf.scp]; exact hyl) (sw_true (by rw [cf.scp]; exact hk) (by rw [cf.scp]; exact hyl) hl hn) wi (by rw [cf.n, cf.scp]; exact blkOk_by ok) pgS ptS peS hs)
    (rd_lc own cf.n cf.nd hc (k := fun d L' => ∃ Γ', Put Γ j (some d) Γ' ∧ ks.nx Γ' L') h F σ H _ E fun d L1 F1 v H1 ⟨Γ', hp, h1⟩ E1 s1 r1 => q.nx Γ' L1 F1 _ H1 h1 ⟨E1.ge, E1.led, E1.sl.put r1 hp⟩)

/-- a comprehension within a comprehension's block -/
theorem ek_lcB {elt tg iter : Expr} {ifs : List Expr} {bs bs0 : Scope} {M : List Str} (own : List (Str × Nat)) (cb : Cb X M sc bs0) (ok : blkC M bs0 bs own = true)
    (h : EiP X F0 tg iter Γ L fun ds L1 => ∃ es : List (Option D), es.length = ds.length ∧ ds.length ≤ 1000000 ∧
      (∀ (F1 : UpH F0) (n : Nat) (d : D) (e : Option D) (acc : List D) (Dp : Addr), ds[n]? = some d → es[n]? = some e →
        (∀ X', Cb X' M sc bs → (∃ s H C cl fp, X' = X.blk s H bs (compEnvC bs cl C X.env) fp) → TbK X' F1.h tg (own.map (·.2)) d (wipeG Γ (own.map (·.2))) (L1 ++ [(Dp, .lst acc)]) fun Γ2 L2 => L2 = L1 ++ [(Dp, .lst acc)] ∧
          (∀ X', Cb X' M sc bs → (∃ s H C cl fp, X' = X.blk s H bs (compEnvC bs cl C X.env) fp) → EsK X' F1.h ifs Γ2 L2 fun t L3 => L3 = L2 ∧
            (t = true → ∀ X', Cb X' M sc bs → (∃ s H C cl fp, X' = X.blk s H bs (compEnvC bs cl C X.env) fp) → EvK X' F1.h elt Γ2 L2 fun y L4 => L4 = L2 ∧ e = some y) ∧ (t = false → e = none)))) ∧ k (.lst (es.filterMap id)) L1)
    (hs : ∀ x, foldedSetIterable iter X.env x = pure x := by intro _; rfl) : EvK X F0 (.ListComp elt [⟨tg, iter, ifs, 0⟩] bs pos) Γ L k := by
  obtain ⟨env, he⟩ := cb.rel
  exact (rd_lc own cb.n cb.nd cb.calm h).ev (pe_lc (own := own) cb.calm (by rw [cb.n]; exact cb.nd) wi (by rw [cb.n, he]; exact blk_rel (blkOk_by ok)) pgS ptS peS hs)
/-! without a test -/
theorem fm_some {es : List D} : (es.map some).filterMap id = es := by
  induction es with
  | nil => rfl
  | cons x xs ih => rw [List.map_cons, List.filterMap_cons]; exact congrArg (x :: ·) ih
section
variable {M : List Str} {elt tg iter : Expr} {bs : Scope}
/-- what the rules without a test ask -/
def LcM (X : Cx) (F0 : Hp) (M : List Str) (sc bs : Scope) (own : List (Str × Nat)) (elt tg : Expr) (Γ : Gm) (L1 : Lg) (ds es : List D) : Prop :=
  es.length = ds.length ∧ ds.length ≤ 1000000 ∧ ∀ (F1 : UpH F0) (n : Nat) (d e : D) (acc : List D) (Dp : Addr), ds[n]? = some d → es[n]? = some e →
    ∀ X', Cb X' M sc bs → (∃ s H C cl fp, X' = X.blk s H bs (compEnvC bs cl C X.env) fp) → TbK X' F1.h tg (own.map (·.2)) d (wipeG Γ (own.map (·.2))) (L1 ++ [(Dp, .lst acc)]) fun Γ2 L2 => L2 = L1 ++ [(Dp, .lst acc)] ∧
      ∀ X', Cb X' M sc bs → (∃ s H C cl fp, X' = X.blk s H bs (compEnvC bs cl C X.env) fp) → EvK X' F1.h elt Γ2 L2 fun y L4 => L4 = L2 ∧ y = e
theorem lcm_to {own : List (Str × Nat)} {L1 : Lg} {ds es : List D} {kk : D → Lg → Prop} (h : LcM X F0 M sc bs own elt tg Γ L1 ds es) (hk : kk (.lst es) L1) :
    ∃ es : List (Option D), es.length = ds.length ∧ ds.length ≤ 1000000 ∧
      (∀ (F1 : UpH F0) (n : Nat) (d : D) (e : Option D) (acc : List D) (Dp : Addr), ds[n]? = some d → es[n]? = some e →
        (∀ X', Cb X' M sc bs → (∃ s H C cl fp, X' = X.blk s H bs (compEnvC bs cl C X.env) fp) → TbK X' F1.h tg (own.map (·.2)) d (wipeG Γ (own.map (·.2))) (L1 ++ [(Dp, .lst acc)]) fun Γ2 L2 => L2 = L1 ++ [(Dp, .lst acc)] ∧
          (∀ X', Cb X' M sc bs → (∃ s H C cl fp, X' = X.blk s H bs (compEnvC bs cl C X.env) fp) → EsK X' F1.h [] Γ2 L2 fun t L3 => L3 = L2 ∧
            (t = true → ∀ X', Cb X' M sc bs → (∃ s H C cl fp, X' = X.blk s H bs (compEnvC bs cl C X.env) fp) → EvK X' F1.h elt Γ2 L2 fun y L4 => L4 = L2 ∧ e = some y) ∧ (t = false → e = none)))) ∧ kk (.lst (es.filterMap id)) L1 := by
  obtain ⟨h1, h2, h3⟩ := h
  refine ⟨es.map some, by rw [List.length_map]; exact h1, h2, fun F1 n d e acc Dp hd he X' cb hX' => ?_, by rw [fm_some]; exact hk⟩
  rw [List.getElem?_map] at he
  cases z : es[n]? with
  | none => rw [z] at he; cases he
  | some y =>
    rw [z] at he
    have he := Option.some.inj he
    subst he
    intro F σ H v Q E r q
    refine h3 F1 n d y acc Dp hd z X' cb hX' F σ H v Q E r fun Γ' L' F' σ' H' ⟨e1, h4⟩ E' s' w' => q Γ' L' F' σ' H' ⟨e1, fun X'' cb' hX'' => es_nil ⟨rfl, fun _ X3 cb3 hX3 => ?_, fun h => nomatch h⟩⟩ E' s' w'
    intro F σ H Q E q
    exact h4 X3 cb3 hX3 F σ H Q E fun d L' F' v H' ⟨a, b⟩ E' s r => q d L' F' v H' ⟨a, by rw [b]⟩ E' s r
theorem ei_mono {kl kl' : List D → Lg → Prop} (h : EiK X F0 tg iter Γ L kl) (hk : ∀ ds L', kl ds L' → kl' ds L') : EiK X F0 tg iter Γ L kl' := fun F σ H R E q => h F σ H R E fun ds L' F' H' J h1 => q ds L' F' H' J (hk ds L' h1)
theorem ek_lcM (own : List (Str × Nat)) (cf : Cn X N Nc sc) (hc : X.calm = true) (ok : blkC (N ++ Nc) sc bs own = true)
    (h : EiP X F0 tg iter Γ L fun ds L1 => ∃ es : List D, LcM X F0 (N ++ Nc) sc bs own elt tg Γ L1 ds es ∧ k (.lst es) L1)
    (hs : ∀ x, foldedSetIterable iter X.env x = pure x := by intro _; rfl) : EvK X F0 (.ListComp elt [⟨tg, iter, [], 0⟩] bs pos) Γ L k :=
  ek_lc own cf hc ok (eip_mono h fun ds L' ⟨es, h1, h2⟩ => lcm_to h1 h2) hs
theorem ek_lcBM {bs0 : Scope} (own : List (Str × Nat)) (cb : Cb X M sc bs0) (ok : blkC M bs0 bs own = true)
    (h : EiP X F0 tg iter Γ L fun ds L1 => ∃ es : List D, LcM X F0 M sc bs own elt tg Γ L1 ds es ∧ k (.lst es) L1)
    (hs : ∀ x, foldedSetIterable iter X.env x = pure x := by intro _; rfl) : EvK X F0 (.ListComp elt [⟨tg, iter, [], 0⟩] bs pos) Γ L k :=
  ek_lcB own cb ok (eip_mono h fun ds L' ⟨es, h1, h2⟩ => lcm_to h1 h2) hs
theorem sk_setLcM {ks : Ks} {j : Nat} {y : Str} {py spos : Pos} (own : List (Str × Nat)) (cf : Cn X N Nc sc) (hc : X.calm = true) (ok : blkC (N ++ Nc) sc bs own = true)
    (h : EiP X F0 tg iter Γ L fun ds L1 => ∃ es : List D, LcM X F0 (N ++ Nc) sc bs own elt tg Γ L1 ds es ∧ ∃ Γ', Put Γ j (some (.lst es)) Γ' ∧ ks.nx Γ' L1)
    (hj : N[j]? = some y := by rfl) (hyl : sc.names.lookup y = some .local := by rfl)
    (hl : (py.line == pos.line) = true := by rfl) (hn : (bs.names.any fun (n, k) => n == y && (k == .local || k == .cell)) = false := by decide +kernel) (hk : sc.kind = .function := by rfl)
    (hs : ∀ x, foldedSetIterable iter X.env x = pure x := by intro _; rfl) : SK X F0 (.Assign [.Name y py] (.ListComp elt [⟨tg, iter, [], 0⟩] bs pos) spos) Γ L ks :=
  sk_setLc own cf hc ok (eip_mono h fun ds L' ⟨es, h1, h2⟩ => lcm_to (kk := fun d L1 => ∃ Γ', Put Γ j (some d) Γ' ∧ ks.nx Γ' L1) h1 h2) hj hyl hl hn hk hs
end
end
end Vs

set_option Elab.async false
set_option linter.all false
set_option maxRecDepth 100000
set_option maxHeartbeats 4000000
namespace Vs
open PySem PySem.Spec PyProof.Rows L2
/-! ### isinstance -/
inductive ClsD : D → Value → Prop
  | ty {n : String} : ClsD (.ty n) (.type n)
  | own {C : Addr} : ClsD (.ref C) (.ref C)
theorem ClsD.v {K : PySem.W.Frag} {F : Hp} {d : D} {u : Value} {v : V} (c : ClsD d u) (r : Rep K F d v) : ClsV v u := by
  cases c <;> cases r
  · exact .ty _
  · exact .own _
theorem ClsD.vs {K : PySem.W.Frag} {F : Hp} : ∀ {ds : List D} {us : List Value} {vs : List V}, Paired ClsD ds us → Reps K F ds vs → Paired ClsV vs us
  | _, _, _, .nil, .nil => .nil
  | _, _, _, .cons c t, .cons r s => .cons (c.v r) (ClsD.vs t s)
/-- the type of a datum -/
inductive TyD (L : Lg) : D → String → Prop
  | non : TyD L .non "NoneType"
  | bl {b : Bool} : TyD L (.bl b) "bool"
  | int {i : Int} : TyD L (.int i) "int"
  | str {x : Str} : TyD L (.str x) "str"
  | lst {ds : List D} : TyD L (.lst ds) "list"
  | tup {ds : List D} : TyD L (.tup ds) "tuple"
  | own {p : Addr} {ds : List D} {j : Nat} : Get L j (p, C.lst ds) → TyD L (.ref p) "list"
theorem TyD.tyx {K : PySem.W.Frag} {F H : Hp} {L : Lg} {d : D} {n : String} {v : V} (t : TyD L d n) (l : Led K F L H) (r : Rep K F d v) : TyX K H v (.type n) := by
  cases t with
  | non => cases r; exact .base .non
  | bl => cases r; exact .base (.bl _)
  | int => cases r; exact .base (.int _)
  | str => cases r; exact .base (.str _)
  | lst =>
    cases r with
    | lst h r =>
      rcases h with (h | ⟨o, h⟩) | ⟨o, its, m, h1, h2, _⟩
      · exact .base (.lst (l.sub _ _ h))
      · exact .base (.frz (l.sub _ _ h))
      · exact .kList h1 h2
  | tup =>
    cases r with
    | tup h r =>
      rcases h with (h | ⟨o, h⟩) | ⟨o, its, m, h1, h2, _⟩
      · exact .base (.tup (l.sub _ _ h))
      · exact .fTuple (l.sub _ _ h)
      · exact .kTuple h1 h2
  | own g =>
    cases r
    obtain ⟨xs, h, _⟩ := l.lst g
    exact .base (.lst h)
section
variable {X : Cx} {F0 : Hp} {Γ : Gm} {L : Lg} {k : D → Lg → Prop} {ka : List D → Lg → Prop} {kt : Bool → Lg → Prop} {e a b c o : Expr} {es rest : List Expr} {pos p2 apos cpos : Pos} {N Nc : List Str} {sc : Scope} {Z : Xc → Gm → Lg → Prop}
/-- a built-in class's name as a value -/
theorem ek_ty {x : Str} {n : String} (hm : X.mg x = none) (hg : Gl X x) (hv : bootBuiltins x = some (.type n)) (h : k (.ty n) L) (hn : x ≠ "__name__" := by decide) (hd : (x == ("__debug__" : Str)) = false := by decide) : EvK X F0 (.Name x pos) Γ L k :=
  ek_c (pe_bltn hg hm hv (v := .ty n) rfl hn hd) (fun _ => .ty) h
/-- a class of the module as a value -/
theorem ek_cls {x : Str} {C : Addr} (hm : X.mg x = some (.ref C)) (hg : Gl X x) (h : k (.ref C) L) (hd : (x == ("__debug__" : Str)) = false := by decide) : EvK X F0 (.Name x pos) Γ L k :=
  ek_c (pe_glob hg hm (v := .ref C) rfl hd) (fun _ => .ref) h
theorem ek_isi {p : Pos} (hm : X.mg "isinstance" = none) (hg : Gl X "isinstance") (h : EvK X F0 a Γ L fun x L1 => EvK X F0 b Γ L1 fun y L2 => ∃ t n r, TyD L2 x t ∧ y = .ty n ∧ kitB t n = some r ∧ k (.bl r) L2)
    (he : starEach [a, b] X.env = (false, eval a X.env) :: starEach [b] X.env := by rfl) (he2 : starEach [b] X.env = (false, eval b X.env) :: starEach [] X.env := by rfl) (hpl : (backTo pos (starEach [b] X.env)).any (·.1) = false := by rfl) :
    EvK X F0 (.Call (.Name "isinstance" p) [a, b] [] pos) Γ L k :=
  ek_cb call_isi hm boot_isinstance (P := fun ds L1 kk => ∃ x t n r, ds = [x, .ty n] ∧ TyD L1 x t ∧ kitB t n = some r ∧ kk (.bl r))
    (fun F L' σ H ds vs kk Q E r ⟨x, t, n, rr, e1, ht, hk, hq⟩ q => by
      subst e1
      obtain ⟨v, v', rfl, r1, r2⟩ := reps2 r
      cases r2
      exact ⟨v, .ty n, .type t, .type n, rr, rfl, .ty n, ht.tyx E.led r1, kit_ty hk, q _ F _ H hq E (Same.refl F) .bl⟩)
    (ea_cons (fun F σ H Q E q => h F σ H Q E fun x L1 F1 v H1 h1 E1 s1 r1 => q x L1 F1 v H1 (ea_cons (fun F σ H Q E q => h1 F σ H Q E fun y L2 F2 u H2 ⟨t, n, rr, h2, e2, h3, h4⟩ E2 s2 r2 => q y L2 F2 u H2 (ea_nil ⟨x, t, n, rr, by rw [e2], h2, h3, h4⟩) E2 s2 r2) he2) E1 s1 r1) he) hg (he := he) (hpl := hpl)
end
/-- isinstance(e, c), e the exception that the suite holds: one class, or a tuple of classes -/
theorem call_isET {X : Cx} {a Dc : Addr} {oe : Obj} {pn : List (Addr × Obj)} (C : ExcC X.K Dc) (hz : Zc (.ref Dc) none oe) (hf : ∃ vs, oe.data = .fields vs) :
    CallR (X.suite a ((a, oe) :: pn)) (.builtin "isinstance") (fun xs H Q => ∃ (tp : Addr) (cs : List V) (us : List Value) (b : Bool), xs = [.ref a, .ref tp] ∧ SqT X.K H tp cs ∧ Paired ClsV cs us ∧ PySem.W.kitAny X.K (.ref Dc) us = some b ∧ Q (.bl b) H) := by
  intro pins s σ H xs us Q I r h
  obtain ⟨tp, cs, ws, b, rfl, hT, k, e, q⟩ := h
  obtain ⟨u1, u2, rfl, r1, r2⟩ := vals2 r
  cases (show u1 = Value.ref a from r1)
  cases (show u2 = Value.ref tp from r2)
  obtain ⟨hget, _⟩ := I.pin (a, oe) (List.mem_append.mpr (.inl List.mem_cons_self))
  obtain ⟨vs, hv⟩ := hf
  have J : PySem.W.InstAt s.heap a oe Dc none := by
    obtain ⟨oc, od, oda, osl⟩ := oe
    obtain ⟨h1, h2⟩ := hz
    dsimp only at h1 h2 hv
    subst h1 h2 hv
    exact ⟨hget, rfl, rfl, trivial⟩
  obtain ⟨its, rv, ⟨o, h1, h2, n, h3⟩, _⟩ := I.tuple (show SqT (X.suite a ((a, oe) :: pn)).K H tp cs from hT)
  have e3 := ClsV.all k rv
  subst e3
  obtain ⟨oc, od, dt, sl⟩ := o
  simp only at h2 h3
  subst h2 h3
  exact PySem.W.kia_tup (PySem.W.handS_kitx_exc C.hg C.hk C.hs C.hd C.ha C.hn C.ht C.hm) I.kIn J h1 e (fun z => nomatch z) fun tk => ⟨.bl b, H, I.tok tk, rfl, q⟩
section
variable {X : Cx} {F0 : Hp} {Γ : Gm} {L : Lg} {k : D → Lg → Prop} {e a b c o : Expr} {pos p2 : Pos} {ad Dc : Addr} {oe : Obj} {pn : List (Addr × Obj)}
theorem ek_isE {p : Pos} (C : ExcC X.K Dc) (hz : Zc (.ref Dc) none oe) (hf : ∃ vs, oe.data = .fields vs) (hm : X.mg "isinstance" = none) (hg : Gl X "isinstance")
    (h : EvK (X.suite ad ((ad, oe) :: pn)) F0 a Γ L fun x L1 => x = .ref ad ∧ EvK (X.suite ad ((ad, oe) :: pn)) F0 b Γ L1 fun y L2 => ∃ u r, ClsD y u ∧ PySem.W.kitOne X.K (.ref Dc) u = some r ∧ k (.bl r) L2)
    (he : starEach [a, b] X.env = (false, eval a X.env) :: starEach [b] X.env := by rfl) (he2 : starEach [b] X.env = (false, eval b X.env) :: starEach [] X.env := by rfl) (hpl : (backTo pos (starEach [b] X.env)).any (·.1) = false := by rfl) :
    EvK (X.suite ad ((ad, oe) :: pn)) F0 (.Call (.Name "isinstance" p) [a, b] [] pos) Γ L k :=
  ek_cb (call_isE C hz hf) hm boot_isinstance (P := fun ds L1 kk => ∃ y u r, ds = [.ref ad, y] ∧ ClsD y u ∧ PySem.W.kitOne X.K (.ref Dc) u = some r ∧ kk (.bl r))
    (fun F L' σ H ds vs kk Q E r ⟨y, u, rr, e1, hc, hk, hq⟩ q => by
      subst e1
      obtain ⟨v, v', rfl, r1, r2⟩ := reps2 r
      cases r1
      exact ⟨v', u, rr, rfl, fun w hw => (hc.v r2).eq hw, hk, q _ F _ H hq E (Same.refl F) .bl⟩)
    (ea_cons (fun F σ H Q E q => h F σ H Q E fun x L1 F1 v H1 ⟨e1, h1⟩ E1 s1 r1 => q x L1 F1 v H1 (ea_cons (fun F σ H Q E q => h1 F σ H Q E fun y L2 F2 u H2 ⟨w, rr, h2, h3, h4⟩ E2 s2 r2 => q y L2 F2 u H2 (ea_nil ⟨y, w, rr, by rw [e1], h2, h3, h4⟩) E2 s2 r2) he2) E1 s1 r1) he) hg (he := he) (hpl := hpl)
theorem ek_isET {p : Pos} (C : ExcC X.K Dc) (hz : Zc (.ref Dc) none oe) (hf : ∃ vs, oe.data = .fields vs) (hm : X.mg "isinstance" = none) (hg : Gl X "isinstance")
    (h : EvK (X.suite ad ((ad, oe) :: pn)) F0 a Γ L fun x L1 => x = .ref ad ∧ EvK (X.suite ad ((ad, oe) :: pn)) F0 b Γ L1 fun y L2 => ∃ ds us r, y = .tup ds ∧ Paired ClsD ds us ∧ PySem.W.kitAny X.K (.ref Dc) us = some r ∧ k (.bl r) L2)
    (he : starEach [a, b] X.env = (false, eval a X.env) :: starEach [b] X.env := by rfl) (he2 : starEach [b] X.env = (false, eval b X.env) :: starEach [] X.env := by rfl) (hpl : (backTo pos (starEach [b] X.env)).any (·.1) = false := by rfl) :
    EvK (X.suite ad ((ad, oe) :: pn)) F0 (.Call (.Name "isinstance" p) [a, b] [] pos) Γ L k :=
  ek_cb (call_isET C hz hf) hm boot_isinstance (P := fun ds L1 kk => ∃ es us r, ds = [.ref ad, .tup es] ∧ Paired ClsD es us ∧ PySem.W.kitAny X.K (.ref Dc) us = some r ∧ kk (.bl r))
    (fun F L' σ H ds vs kk Q E r ⟨es, us, rr, e1, hc, hk, hq⟩ q => by
      subst e1
      obtain ⟨v, v', rfl, r1, r2⟩ := reps2 r
      cases r1
      cases r2 with
      | tup hx rx => exact ⟨_, _, us, rr, rfl, seqT E.led.sub hx, ClsD.vs hc rx, hk, q _ F _ H hq E (Same.refl F) .bl⟩)
    (ea_cons (fun F σ H Q E q => h F σ H Q E fun x L1 F1 v H1 ⟨e1, h1⟩ E1 s1 r1 => q x L1 F1 v H1 (ea_cons (fun F σ H Q E q => h1 F σ H Q E fun y L2 F2 u H2 ⟨ds, us, rr, e2, h2, h3, h4⟩ E2 s2 r2 => q y L2 F2 u H2 (ea_nil ⟨ds, us, rr, by rw [e1, e2], h2, h3, h4⟩) E2 s2 r2) he2) E1 s1 r1) he) hg (he := he) (hpl := hpl)
end
end Vs

set_option Elab.async false
set_option linter.all false
set_option maxRecDepth 100000
set_option maxHeartbeats 4000000
namespace Vs
open PySem PySem.Spec PyProof.Rows L2
section
variable {X : Cx} {F0 : Hp} {Γ : Gm} {L : Lg} {k : D → Lg → Prop} {ka : List D → Lg → Prop} {kt : Bool → Lg → Prop} {e a b c o : Expr} {es rest : List Expr} {pos p2 apos cpos : Pos} {N Nc : List Str} {sc : Scope} {Z : Xc → Gm → Lg → Prop}
theorem Cn.gl (c : Cn X N Nc sc) {x : Str} (h : sc.names.lookup x = some .globalImplicit := by rfl) : Gl X x := by
  show X.env.scope.names.lookup x = _
  rw [c.scp]
  exact h
theorem Cb.gl {bs : Scope} (c : Cb X N sc bs) {x : Str} (h : bs.names.lookup x = some .globalImplicit := by rfl) : Gl X x := c.glo x h
/-- a whole number of the module's top -/
theorem ek_gi {x : Str} {i : Int} (hm : ∃ t, X.mg x = some (.int i t)) (hg : Gl X x) (h : k (.int i) L) (hd : (x == ("__debug__" : Str)) = false := by decide) : EvK X F0 (.Name x pos) Γ L k := by
  obtain ⟨t, hm⟩ := hm
  exact ek_glob hm (v := .int i) ⟨t, rfl⟩ (fun _ => .int) h hg hd
theorem ek_gs {x : Str} {z : Str} (hm : ∃ t, X.mg x = some (.str z t)) (hg : Gl X x) (h : k (.str z) L) (hd : (x == ("__debug__" : Str)) = false := by decide) : EvK X F0 (.Name x pos) Γ L k := by
  obtain ⟨t, hm⟩ := hm
  exact ek_glob hm (v := .str z) ⟨t, rfl⟩ (fun _ => .str) h hg hd
/-- an object of the module's top that stands still -/
structure GObj (K : PySem.W.Frag) (mg : Str → Option Value) (x : Str) (d : D) : Prop where
  ex : ∃ a, mg x = some (.ref a) ∧ ∀ F, Rep K F d (.ref a)
theorem ek_go {x : Str} {d : D} (hm : GObj X.K X.mg x d) (hg : Gl X x) (h : k d L) (hd : (x == ("__debug__" : Str)) = false := by decide) : EvK X F0 (.Name x pos) Γ L k := by
  obtain ⟨a, hm, r⟩ := hm.ex
  exact ek_glob hm (v := .ref a) rfl r h hg hd
/-- and, or without forks -/
theorem ew_or {p q : Bool} (ha : EtK X F0 a Γ L fun x L1 => x = p ∧ L1 = L) (hb : p = false → EwK X F0 (.BoolOp .Or (b :: rest) pos) Γ L fun y L2 => y = q ∧ L2 = L) (h : kt (p || q) L) : EwK X F0 (.BoolOp .Or (a :: b :: rest) pos) Γ L kt :=
  et_orw fun F σ H Q E qq => ha F σ H Q E fun x L1 F1 H1 ⟨e1, e2⟩ E1 s1 => qq x L1 F1 H1 (by
    subst e1 e2
    refine ⟨fun hx => by subst hx; simpa using h, fun hx => ?_⟩
    subst hx
    exact fun F σ H Q E q2 => hb rfl F σ H Q E fun y L2 F2 H2 ⟨e3, e4⟩ E2 s2 => q2 y L2 F2 H2 (by subst e3 e4; simpa using h) E2 s2) E1 s1
theorem ew_and {p q : Bool} (ha : EtK X F0 a Γ L fun x L1 => x = p ∧ L1 = L) (hb : p = true → EwK X F0 (.BoolOp .And (b :: rest) pos) Γ L fun y L2 => y = q ∧ L2 = L) (h : kt (p && q) L) : EwK X F0 (.BoolOp .And (a :: b :: rest) pos) Γ L kt :=
  et_andw fun F σ H Q E qq => ha F σ H Q E fun x L1 F1 H1 ⟨e1, e2⟩ E1 s1 => qq x L1 F1 H1 (by
    subst e1 e2
    refine ⟨fun hx => ?_, fun hx => by subst hx; simpa using h⟩
    subst hx
    exact fun F σ H Q E q2 => hb rfl F σ H Q E fun y L2 F2 H2 ⟨e3, e4⟩ E2 s2 => q2 y L2 F2 H2 (by subst e3 e4; simpa using h) E2 s2) E1 s1
theorem ek_or {p q : Bool} (ha : EvK X F0 a Γ L fun x L1 => x = .bl p ∧ L1 = L) (hb : p = false → EvK X F0 (.BoolOp .Or (b :: rest) pos) Γ L fun y L2 => y = .bl q ∧ L2 = L) (h : k (.bl (p || q)) L) : EvK X F0 (.BoolOp .Or (a :: b :: rest) pos) Γ L k :=
  ek_orv fun F σ H Q E qq => ha F σ H Q E fun x L1 F1 v H1 ⟨e1, e2⟩ E1 s1 r1 => qq x L1 F1 v H1 (by
    subst e2
    refine ⟨p, e1, fun hx => by subst hx; simpa using h, fun hx => ?_⟩
    subst hx
    exact fun F σ H Q E q2 => hb rfl F σ H Q E fun y L2 F2 v2 H2 ⟨e3, e4⟩ E2 s2 r2 => q2 y L2 F2 v2 H2 (by subst e3 e4; simpa using h) E2 s2 r2) E1 s1 r1
theorem ek_and' {p q : Bool} (ha : EvK X F0 a Γ L fun x L1 => x = .bl p ∧ L1 = L) (hb : p = true → EvK X F0 (.BoolOp .And (b :: rest) pos) Γ L fun y L2 => y = .bl q ∧ L2 = L) (h : k (.bl (p && q)) L) : EvK X F0 (.BoolOp .And (a :: b :: rest) pos) Γ L k :=
  ek_andv fun F σ H Q E qq => ha F σ H Q E fun x L1 F1 v H1 ⟨e1, e2⟩ E1 s1 r1 => qq x L1 F1 v H1 (by
    subst e2
    refine ⟨p, e1, fun hx => ?_, fun hx => by subst hx; simpa using h⟩
    subst hx
    exact fun F σ H Q E q2 => hb rfl F σ H Q E fun y L2 F2 v2 H2 ⟨e3, e4⟩ E2 s2 r2 => q2 y L2 F2 v2 H2 (by subst e3 e4; simpa using h) E2 s2 r2) E1 s1 r1
end
section
variable {X : Cx} {F0 : Hp} {Γ : Gm} {L : Lg} {k : D → Lg → Prop} {kt : Bool → Lg → Prop} {a b c : Expr} {pos : Pos}
/-- a < b < c without forks -/
theorem ek_ch2 {op op' : CmpOp} {g g' : Int → Int → Bool} (ho : OpR X (compareOp op) (rI0 fun i j => .bl (g i j))) (ho' : OpR X (compareOp op') (rI0 fun i j => .bl (g' i j)))
    (h : EvK X F0 a Γ L fun x L1 => ∃ i, x = .int i ∧ EvK X F0 b Γ L1 fun y L2 => ∃ j l, y = .int j ∧ (g i j = true → EvK X F0 c Γ L2 fun z L3 => z = .int l ∧ L3 = L2) ∧ k (.bl (g i j && g' j l)) L2)
    (hm : lastMarks [op, op'] [b, c] = false := by with_unfolding_all rfl) : EvK X F0 (.Compare a [op, op'] [b, c] pos) Γ L k :=
  ek_ch ho ho' (fun F σ H Q E q => h F σ H Q E fun x L1 F1 v H1 ⟨i, e1, h1⟩ E1 s1 r1 => q x L1 F1 v H1 ⟨i, e1, fun F σ H Q E q => h1 F σ H Q E fun y L2 F2 v2 H2 ⟨j, l, e2, h2, h3⟩ E2 s2 r2 => q y L2 F2 v2 H2 ⟨j, e2,
    fun hg F σ H Q E q => h2 hg F σ H Q E fun z L3 F3 v3 H3 ⟨e3, e4⟩ E3 s3 r3 => q z L3 F3 v3 H3 ⟨l, e3, by rw [hg] at h3; rw [e4]; simpa using h3⟩ E3 s3 r3, fun hg => by rw [hg] at h3; simpa using h3⟩ E2 s2 r2⟩ E1 s1 r1) hm
theorem et_ch2 {op op' : CmpOp} {g g' : Int → Int → Bool} (ho : OpR X (compareOp op) (rI0 fun i j => .bl (g i j))) (ho' : OpR X (compareOp op') (rI0 fun i j => .bl (g' i j)))
    (h : EvK X F0 a Γ L fun x L1 => ∃ i, x = .int i ∧ EvK X F0 b Γ L1 fun y L2 => ∃ j l, y = .int j ∧ (g i j = true → EvK X F0 c Γ L2 fun z L3 => z = .int l ∧ L3 = L2) ∧ kt (g i j && g' j l) L2)
    (hm : lastMarks [op, op'] [b, c] = false := by with_unfolding_all rfl) : EtK X F0 (.Compare a [op, op'] [b, c] pos) Γ L kt :=
  et_ch ho ho' (fun F σ H Q E q => h F σ H Q E fun x L1 F1 v H1 ⟨i, e1, h1⟩ E1 s1 r1 => q x L1 F1 v H1 ⟨i, e1, fun F σ H Q E q => h1 F σ H Q E fun y L2 F2 v2 H2 ⟨j, l, e2, h2, h3⟩ E2 s2 r2 => q y L2 F2 v2 H2 ⟨j, e2,
    fun hg F σ H Q E q => h2 hg F σ H Q E fun z L3 F3 v3 H3 ⟨e3, e4⟩ E3 s3 r3 => q z L3 F3 v3 H3 ⟨l, e3, by rw [hg] at h3; rw [e4]; simpa using h3⟩ E3 s3 r3, fun hg => by rw [hg] at h3; simpa using h3⟩ E2 s2 r2⟩ E1 s1 r1) hm
theorem bl_is {q : D → Lg → Prop} {b : Bool} (h : b = true) (hq : q (.bl true) L) : q (.bl b) L := by rw [h]; exact hq
end
/-- an error class of the program's own, over ValueError, without an __init__ -/
structure ExF (K : PySem.W.Frag) (mg : Str → Option Value) (x : Str) : Prop where
  g : mg x = some (.ref (He.ga K x))
  q : PySem.W.excIn K (He.ga K x) He.veBase "ValueError.__new__" = true
  k : PySem.W.keepIn K (.ref (He.ga K x)) = true
  s : PySem.W.subIn K (.ref (He.ga K x)) (.type "BaseException") = some true
  t : PySem.W.typeIn K (.ref (He.ga K x)) = some (.type "type")
abbrev xcOf (K : PySem.W.Frag) (x : Str) : Xc := ⟨.ref (He.ga K x), none⟩
section
variable {X : Cx} {F0 : Hp} {Γ : Gm} {L : Lg} {k : Ks} {N Nc : List Str} {sc : Scope} {Z : Xc → Gm → Lg → Prop}
theorem sk_rz {x m : Str} {j : Nat} {p p2 pos2 pos : Pos} (c : Cf X N Nc sc F0 Z) (f : ExF X.K X.mg x) (h : Z (xcOf X.K x) Γ L) (hg : sc.names.lookup x = some .globalImplicit := by rfl) (hdb : (x == ("__debug__" : Str)) = false := by decide) :
    SK X F0 (.Raise (some (.Call (.Name x p) [.Constant (.str m) j p2] [] pos)) none pos2) Γ L k :=
  sk_raise c.calm c.tk f.q f.g f.k (raises_own f.s f.t) (c.toCn.gl hg) h hdb
end
end Vs

set_option Elab.async false
set_option linter.all false
set_option maxRecDepth 100000
set_option maxHeartbeats 4000000
namespace Vs
open PySem PySem.Spec PyProof.Rows L2
theorem Get.put {α : Type} {x y : α} : ∀ {xs : List α} {j : Nat}, Get xs j x → Put xs j y (xs.set j y)
  | _, _, .z => .z
  | _, _, .s g => .s g.put
theorem Get.got {α : Type} {x y : α} : ∀ {xs : List α} {j : Nat}, Get xs j x → Get (xs.set j y) j y
  | _, _, .z => .z
  | _, _, .s g => .s g.got
theorem sz_ok {n : Nat} (h : n ≤ 1000000) : n ≤ sizeLine := Nat.le_trans h (by decide)
theorem sz_lt {n : Nat} (h : n ≤ 1000000) : n < sizeLine := Nat.lt_of_le_of_lt h (by decide)
/-- facts of the module's top that the walk asks -/
theorem free_of {K : PySem.W.Frag} {h : Heap} {mg : Str → Option Value} (X : K.In h) (G : h.Ns mainGlobals mg) {x : Str} (c : (He.Fa.free x).ok K = true) : mg x = none := He.free_ok X G c
theorem exF_of {K : PySem.W.Frag} {h : Heap} {mg : Str → Option Value} (X : K.In h) (G : h.Ns mainGlobals mg) {x : Str} (c1 : (He.Fa.glo x).ok K = true) (c2 : (He.Fa.exc x).ok K = true) : ExF K mg x := by
  obtain ⟨h1, h2, h3, h4⟩ := He.exc_ok c2
  exact ⟨He.glo_ok X G c1, h1, h2, h3, h4⟩
structure ClF (K : PySem.W.Frag) (mg : Str → Option Value) (x : Str) : Prop where
  g : mg x = some (.ref (He.ga K x))
/-- what the class of a caught error tells (isinstance, except) -/
def excCB (K : PySem.W.Frag) (x : Str) : Bool :=
  He.eqO (PySem.W.findIn K (.ref (He.ga K x)) "__getattribute__") (some (some (.builtin "BaseException.__getattribute__"))) &&
  (He.eqO (PySem.W.findIn K (.ref (He.ga K x)) "__getattr__") (some none) &&
  (decide (PySem.W.subIn K (.ref (He.ga K x)) (.type "BaseException") = some true) &&
  (PySem.W.hasDictIn K (He.ga K x) &&
  (He.eqO (PySem.W.findIn K (.ref (He.ga K x)) "__class__") (some (some (.builtin "object.__class__"))) &&
  (He.eqO (PySem.W.specialIn K (.builtin "object.__class__") "__get__") (some (some (.builtin "getset_descriptor.__get__"))) &&
  (decide (PySem.W.takesIn K (.builtin "object.__class__") = some true) &&
  decide (PySem.W.mroIn K (He.ga K x) (.type "object") = some true)))))))
theorem excCB_ok {K : PySem.W.Frag} {x : Str} (h : excCB K x = true) : ExcC K (He.ga K x) := by
  unfold excCB at h
  obtain ⟨h1, h⟩ := He.ba h
  obtain ⟨h2, h⟩ := He.ba h
  obtain ⟨h3, h⟩ := He.ba h
  obtain ⟨h4, h⟩ := He.ba h
  obtain ⟨h5, h⟩ := He.ba h
  obtain ⟨h6, h⟩ := He.ba h
  obtain ⟨h7, h⟩ := He.ba h
  exact ⟨He.eqO_ok h1, He.eqO_ok h2, of_decide_eq_true h3, h4, He.eqO_ok h5, He.eqO_ok h6, of_decide_eq_true h7, of_decide_eq_true h⟩
/-- isinstance of an instance of the class x by the class y, or the built-in class n -/
def kitB1 (K : PySem.W.Frag) (x y : Str) (b : Bool) : Bool := decide (PySem.W.kitOne K (.ref (He.ga K x)) (.ref (He.ga K y)) = some b)
def kitB2 (K : PySem.W.Frag) (x : Str) (n : String) (b : Bool) : Bool := decide (PySem.W.kitOne K (.ref (He.ga K x)) (.type n) = some b)
theorem kitAll {K : PySem.W.Frag} {t : Value} : ∀ {us : List Value}, (∀ u ∈ us, PySem.W.kitOne K t u = some false) → PySem.W.kitAny K t us = some false
  | [], _ => rfl
  | u :: us, h => by
    unfold PySem.W.kitAny
    rw [h u List.mem_cons_self]
    exact kitAll fun v hv => h v (List.mem_cons_of_mem _ hv)
theorem kaN {K : PySem.W.Frag} {t : Value} : PySem.W.kitAny K t [] = some false := rfl
theorem kaF {K : PySem.W.Frag} {t u : Value} {us : List Value} (h : PySem.W.kitOne K t u = some false) (r : PySem.W.kitAny K t us = some false) : PySem.W.kitAny K t (u :: us) = some false := by
  unfold PySem.W.kitAny
  rw [h]
  exact r
theorem at_nat {α : Type} {xs : List α} {i : Int} {d : α} (h0 : 0 ≤ i) (h : xs[i.toNat]? = some d) : atI xs i = some d := by
  obtain ⟨hl, _⟩ := List.getElem?_eq_some_iff.mp h
  unfold atI ixN
  rw [if_pos h0, if_pos (by omega)]
  exact h
theorem ixN_at {n : Nat} {i : Int} (h0 : 0 ≤ i) (h : i < n) : ixN n i = some i.toNat := by
  unfold ixN
  rw [if_pos h0, if_pos h]
theorem Cal.imp {P : Program} {w : World} {K : PySem.W.Frag} {mg : Str → Option Value} {base : Heap} {n : Nat} {x : Str} {ps : List Str} {S S' : SpD} (G : Cal P w K mg base n x ps S) (h : ∀ ds L q e, S' ds L q e → S ds L q e) : Cal P w K mg base n x ps S' := by
  obtain ⟨f, fd, h1, h2, h3, F⟩ := G.ex
  exact ⟨f, fd, h1, h2, h3, F.imp fun vs H Q E ⟨F, ds, L, q, e, l, r, s, k1, k2⟩ => ⟨F, ds, L, q, e, l, r, h ds L q e s, k1, k2⟩⟩
end Vs

set_option Elab.async false
set_option linter.all false
set_option maxRecDepth 100000
set_option maxHeartbeats 4000000
namespace Vs
open PySem PySem.Spec PyProof.Rows L2
theorem Reps.rep {K : PySem.W.Frag} {F : Hp} {ds : List D} {vs : List V} (r : Reps K F ds vs) : ∀ n : Nat, Reps K F (List.replicate n ds).flatten (List.replicate n vs).flatten
  | 0 => .nil
  | n + 1 => by
    rw [List.replicate_succ, List.replicate_succ, List.flatten_cons, List.flatten_cons]
    exact r.append (r.rep n)
section
variable {X : Cx} {F0 : Hp} {Γ : Gm} {L : Lg} {k : D → Lg → Prop} {ka : List D → Lg → Prop} {kt : Bool → Lg → Prop} {e a b c o : Expr} {es rest : List Expr} {pos p2 apos cpos : Pos} {N Nc : List Str} {sc : Scope} {Z : Xc → Gm → Lg → Prop}
/-- [..] * n -/
theorem ek_repL (h : EaK X F0 es Γ L fun ds L1 => ds.length ≤ sizeLine ∧ EvK X F0 b Γ L1 fun y L2 => ∃ n, y = .int n ∧ (-9223372036854775808 ≤ n ∧ n < 9223372036854775808 ∧ ds.length * n.toNat ≤ sizeLine) ∧ k (.lst (List.replicate n.toNat ds).flatten) L2) :
    EvK X F0 (.BinOp (.List es p2) .Mult b pos) Γ L k := fun F σ H Q E q =>
  wpE.of (pe_op op_rep (pe_lst wa) we) (h F σ H _ E fun ds L1 F1 vs H1 ⟨hz, h1⟩ E1 s1 r1 => ⟨by rw [← r1.length]; exact hz, fun p hp => by
    have s2 : Same F1 (upd F1 p (.lst vs)) := same_new (E1.led.free hp)
    refine h1 _ σ _ _ (E1.new hp) fun y L2 F2 u H2 ⟨n, e1, ⟨b1, b2, b3⟩, h2⟩ E2 s3 r2 => ?_
    subst e1
    cases r2
    refine ⟨p, n, vs, rfl, rfl, E2.led.sub _ _ (s3 _ _ upd_same), by omega, by omega, by rw [← r1.length]; exact b3, fun m hm => ?_⟩
    have s4 : Same F2 (upd F2 m (.lst (List.replicate n.toNat vs).flatten)) := same_new (E2.led.free hm)
    exact q _ L2 _ _ _ h2 (E2.new hm) (s1.trans (s2.trans (s3.trans s4))) (.lst (.inl (.inl upd_same)) (((r1.mono s2).mono s3).mono s4 |>.rep n.toNat))⟩)
/-- list(xs), to be changed -/
theorem ek_listO {p : Pos} (hm : X.mg "list" = none) (hg : Gl X "list") (h : EvK X F0 e Γ L fun x L1 => ∃ ds, (AsL L1 x ds ∨ x = .tup ds) ∧ ∀ p, k (.ref p) ((p, .lst ds) :: L1))
    (he : starEach [e] X.env = (false, eval e X.env) :: starEach [] X.env := by rfl) (hpl : (backTo pos (starEach [] X.env)).any (·.1) = false := by rfl) : EvK X F0 (.Call (.Name "list" p) [e] [] pos) Γ L k := fun F σ H Q E q =>
  wpE.of (pe_callTy call_list_of hg hm boot_list (pa_cons we pa_nil he) (by decide) (by decide) he hpl) (h F σ H _ E fun x L1 F1 v H1 ⟨ds, e2, h1⟩ E1 s1 r1 => by
    rcases e2 with e2 | e2
    · obtain ⟨p, xs, rfl, hx, rx⟩ := e2.read E1.led r1
      exact ⟨p, xs, rfl, .inl hx, fun n hn => q _ _ F1 _ _ (h1 n) (E1.to (Same.refl F1) (E1.led.newL hn rx)) s1 .ref⟩
    · subst e2
      cases r1 with
      | tup hx rx => exact ⟨_, _, rfl, .inr (seqT E1.led.sub hx), fun n hn => q _ _ F1 _ _ (h1 n) (E1.to (Same.refl F1) (E1.led.newL hn rx)) s1 .ref⟩)
theorem ek_isB (h : EvK X F0 a Γ L fun x L1 => ∃ i, x = .bl i ∧ EvK X F0 b Γ L1 fun y L2 => ∃ j, y = .bl j ∧ k (.bl (decide (i = j))) L2) (hm : behindInMarks .Is b = false := by rfl) : EvK X F0 (.Compare a [.Is] [b] pos) Γ L k := fun F σ H Q E q =>
  wpE.of (pe_cmpR op_is_bl we we hm) (h F σ H _ E fun x L1 F1 v H1 ⟨i, e1, h1⟩ E1 s1 r1 => h1 F1 σ H1 _ E1 fun y L2 F2 u H2 ⟨j, e2, h2⟩ E2 s2 r2 => by
    subst e1 e2
    cases r1
    cases r2
    exact ⟨i, j, rfl, rfl, q _ L2 F2 _ H2 h2 E2 (s1.trans s2) .bl⟩)
theorem ek_isnotB (h : EvK X F0 a Γ L fun x L1 => ∃ i, x = .bl i ∧ EvK X F0 b Γ L1 fun y L2 => ∃ j, y = .bl j ∧ k (.bl (!decide (i = j))) L2) (hm : behindInMarks .IsNot b = false := by rfl) : EvK X F0 (.Compare a [.IsNot] [b] pos) Γ L k := fun F σ H Q E q =>
  wpE.of (pe_cmpR op_isnot_bl we we hm) (h F σ H _ E fun x L1 F1 v H1 ⟨i, e1, h1⟩ E1 s1 r1 => h1 F1 σ H1 _ E1 fun y L2 F2 u H2 ⟨j, e2, h2⟩ E2 s2 r2 => by
    subst e1 e2
    cases r1
    cases r2
    exact ⟨i, j, rfl, rfl, q _ L2 F2 _ H2 h2 E2 (s1.trans s2) .bl⟩)
theorem et_isB (h : EvK X F0 a Γ L fun x L1 => ∃ i, x = .bl i ∧ EvK X F0 b Γ L1 fun y L2 => ∃ j, y = .bl j ∧ kt (decide (i = j)) L2) (hm : behindInMarks .Is b = false := by rfl) : EtK X F0 (.Compare a [.Is] [b] pos) Γ L kt := fun F σ H Q E q =>
  wpT.of (pt_cmpR op_is_bl we we hm) (h F σ H _ E fun x L1 F1 v H1 ⟨i, e1, h1⟩ E1 s1 r1 => h1 F1 σ H1 _ E1 fun y L2 F2 u H2 ⟨j, e2, h2⟩ E2 s2 r2 => by
    subst e1 e2
    cases r1
    cases r2
    exact ⟨i, j, rfl, rfl, _, rfl, q _ L2 F2 H2 h2 E2 (s1.trans s2)⟩)
theorem et_isnotB (h : EvK X F0 a Γ L fun x L1 => ∃ i, x = .bl i ∧ EvK X F0 b Γ L1 fun y L2 => ∃ j, y = .bl j ∧ kt (!decide (i = j)) L2) (hm : behindInMarks .IsNot b = false := by rfl) : EtK X F0 (.Compare a [.IsNot] [b] pos) Γ L kt := fun F σ H Q E q =>
  wpT.of (pt_cmpR op_isnot_bl we we hm) (h F σ H _ E fun x L1 F1 v H1 ⟨i, e1, h1⟩ E1 s1 r1 => h1 F1 σ H1 _ E1 fun y L2 F2 u H2 ⟨j, e2, h2⟩ E2 s2 r2 => by
    subst e1 e2
    cases r1
    cases r2
    exact ⟨i, j, rfl, rfl, _, rfl, q _ L2 F2 H2 h2 E2 (s1.trans s2)⟩)
theorem ek_max2 {p : Pos} (hc : X.calm = true) (hm : X.mg "max" = none) (hg : Gl X "max") (h : EvK X F0 a Γ L fun x L1 => ∃ i, x = .int i ∧ EvK X F0 b Γ L1 fun y L2 => ∃ j, y = .int j ∧ k (.int (if j > i then j else i)) L2)
    (he : starEach [a, b] X.env = (false, eval a X.env) :: starEach [b] X.env := by rfl) (he2 : starEach [b] X.env = (false, eval b X.env) :: starEach [] X.env := by rfl) (hpl : (backTo pos (starEach [b] X.env)).any (·.1) = false := by rfl) :
    EvK X F0 (.Call (.Name "max" p) [a, b] [] pos) Γ L k := fun F σ H Q E q =>
  wpE.of (pe_callB (call_max2 hc) hg hm (by decide +kernel) (pa_cons we (pa_cons we pa_nil he2) he) (by decide) (by decide) he hpl) (h F σ H _ E fun x L1 F1 v H1 ⟨i, e1, h1⟩ E1 s1 r1 => h1 F1 σ H1 _ E1 fun y L2 F2 u H2 ⟨j, e2, h2⟩ E2 s2 r2 => by
    subst e1 e2
    cases r1
    cases r2
    exact ⟨i, j, rfl, q _ L2 F2 _ H2 h2 E2 (s1.trans s2) .int⟩)
theorem ek_min2 {p : Pos} (hc : X.calm = true) (hm : X.mg "min" = none) (hg : Gl X "min") (h : EvK X F0 a Γ L fun x L1 => ∃ i, x = .int i ∧ EvK X F0 b Γ L1 fun y L2 => ∃ j, y = .int j ∧ k (.int (if j < i then j else i)) L2)
    (he : starEach [a, b] X.env = (false, eval a X.env) :: starEach [b] X.env := by rfl) (he2 : starEach [b] X.env = (false, eval b X.env) :: starEach [] X.env := by rfl) (hpl : (backTo pos (starEach [b] X.env)).any (·.1) = false := by rfl) :
    EvK X F0 (.Call (.Name "min" p) [a, b] [] pos) Γ L k := fun F σ H Q E q =>
  wpE.of (pe_callB (call_min2 hc) hg hm (by decide +kernel) (pa_cons we (pa_cons we pa_nil he2) he) (by decide) (by decide) he hpl) (h F σ H _ E fun x L1 F1 v H1 ⟨i, e1, h1⟩ E1 s1 r1 => h1 F1 σ H1 _ E1 fun y L2 F2 u H2 ⟨j, e2, h2⟩ E2 s2 r2 => by
    subst e1 e2
    cases r1
    cases r2
    exact ⟨i, j, rfl, q _ L2 F2 _ H2 h2 E2 (s1.trans s2) .int⟩)
theorem ek_all {p : Pos} (hc : X.calm = true) (hm : X.mg "all" = none) (hg : Gl X "all") (h : EvK X F0 e Γ L fun x L1 => ∃ bs : List Bool, AsL L1 x (bs.map D.bl) ∧ k (.bl (bs.all id)) L1)
    (he : starEach [e] X.env = (false, eval e X.env) :: starEach [] X.env := by rfl) (hpl : (backTo pos (starEach [] X.env)).any (·.1) = false := by rfl) : EvK X F0 (.Call (.Name "all" p) [e] [] pos) Γ L k := fun F σ H Q E q =>
  wpE.of (pe_callB (cr_all hc) hg hm (by decide +kernel) (pa_cons we pa_nil he) (by decide) (by decide) he hpl) (h F σ H _ E fun x L1 F1 v H1 ⟨bs, e2, h1⟩ E1 s1 r1 => by
    obtain ⟨p, xs, rfl, hx, rx⟩ := e2.read E1.led r1
    have e3 := bls_reps rx
    subst e3
    exact ⟨p, bs, rfl, hx, q _ L1 F1 _ H1 h1 E1 s1 .bl⟩)
theorem ek_any {p : Pos} (hc : X.calm = true) (hm : X.mg "any" = none) (hg : Gl X "any") (h : EvK X F0 e Γ L fun x L1 => ∃ bs : List Bool, AsL L1 x (bs.map D.bl) ∧ k (.bl (bs.any id)) L1)
    (he : starEach [e] X.env = (false, eval e X.env) :: starEach [] X.env := by rfl) (hpl : (backTo pos (starEach [] X.env)).any (·.1) = false := by rfl) : EvK X F0 (.Call (.Name "any" p) [e] [] pos) Γ L k := fun F σ H Q E q =>
  wpE.of (pe_callB (cr_any hc) hg hm (by decide +kernel) (pa_cons we pa_nil he) (by decide) (by decide) he hpl) (h F σ H _ E fun x L1 F1 v H1 ⟨bs, e2, h1⟩ E1 s1 r1 => by
    obtain ⟨p, xs, rfl, hx, rx⟩ := e2.read E1.led r1
    have e3 := bls_reps rx
    subst e3
    exact ⟨p, bs, rfl, hx, q _ L1 F1 _ H1 h1 E1 s1 .bl⟩)

theorem Led.perm {K : PySem.W.Frag} {F H : Hp} {L L' : Lg} (e : Led K F L H) (p : L.Perm L') : Led K F L' H := ⟨e.sub, (p.map _).nodup_iff.mp e.nod, fun q hq => e.ent q (p.mem_iff.mpr hq)⟩
theorem rd_lcO {elt tg iter : Expr} {ifs : List Expr} {bs : Scope} (own : List (Str × Nat)) {M : List Str} {sc' : Scope} (hM : X.N = M) (nd : M.Nodup) (hc : X.calm = true)
    (h : EiK X F0 tg iter Γ L fun ds L1 => ∃ Pv : Nat → List D → Lg → Prop, Pv 0 [] L1 ∧ ds.length ≤ 1000000 ∧
      (∀ (F1 : UpH F0) (n : Nat) (d : D) (acc : List D) (Lc : Lg) (Dp : Addr), ds[n]? = some d → acc.length ≤ n → Pv n acc Lc →
        (∀ X', Cb X' M sc' bs → (∃ s H C cl fp, X' = X.blk s H bs (compEnvC bs cl C X.env) fp) → TbK X' F1.h tg (own.map (·.2)) d (wipeG Γ (own.map (·.2))) (Lc ++ [(Dp, .lst acc)]) fun Γ2 L2 =>
          (∀ X', Cb X' M sc' bs → (∃ s H C cl fp, X' = X.blk s H bs (compEnvC bs cl C X.env) fp) → EsK X' F1.h ifs Γ2 L2 fun t L3 =>
            (t = true → ∀ X', Cb X' M sc' bs → (∃ s H C cl fp, X' = X.blk s H bs (compEnvC bs cl C X.env) fp) → EvK X' F1.h elt Γ2 L3 fun y L4 => ∃ L5, L4 = L5 ++ [(Dp, .lst acc)] ∧ Pv (n + 1) (acc ++ [y]) L5) ∧
            (t = false → ∃ L5, L3 = L5 ++ [(Dp, .lst acc)] ∧ Pv (n + 1) acc L5)))) ∧ (∀ acc L' Dp, Pv ds.length acc L' → acc.length ≤ ds.length → k (.ref Dp) ((Dp, .lst acc) :: L')))
    : RdK X F0 (tLc (wpI X tg iter) (gS X bs tg) (tS X bs ifs) (eS X bs elt) (own.map (·.2))) Γ L k := fun F σ H Q E q => by
  refine h F σ H _ E fun ds L1 F1 H1 J ⟨Pv, h0, hds, hb, hk⟩ E1 s1 it => ?_
  intro Dp hD
  refine ⟨fun i m H => i + m = ds.length ∧ ∃ F acc Lc, Same F1 F ∧ acc.length ≤ i ∧ Pv i acc Lc ∧ At X.K F0 F Γ (Lc ++ [(Dp, .lst acc)]) σ H, ⟨ds.length, by omega, F1, [], L1, Same.refl F1, Nat.le_refl _, h0, E1.to (Same.refl F1) (E1.led.last hD .nil)⟩, ?_⟩
  rintro i m H2 ⟨hm, F2, acc, Lc, s2, hacc, hP, E2⟩
  by_cases hi : i < ds.length
  · refine .inr ⟨it.go i H2 F2 _ hi s2 E2.led, fun H' => ∃ F acc Lc, Same F1 F ∧ acc.length ≤ i + 1 ∧ Pv (i + 1) acc Lc ∧ At X.K F0 F Γ (Lc ++ [(Dp, .lst acc)]) σ H', fun H' ⟨F3, a, b, c, d, e, f⟩ => ⟨m - 1, by omega, by omega, F3, a, b, c, d, e, f⟩, fun x H' hy => ?_⟩
    obtain ⟨d, F3, hdi, s3, l3, r3⟩ := it.yld i H2 x H' F2 _ s2 E2.led hy hi
    have E3 := E2.to s3 l3
    intro s0 H0 C0 cl0 fp0
    refine hb ⟨F1, E1.ge⟩ i d acc Lc Dp hdi hacc hP _ (blk_okM hM nd hc) ⟨s0, H0, C0, cl0, fp0, rfl⟩ F3 (wipe σ (own.map (·.2))) H' x _ ⟨s2.trans s3, E3.led, E3.sl.wipe _⟩ r3 ?_
    rintro Γ4 L4 F4 σ4 H4 h4 E4 s4 hw
    refine ⟨by rw [hw]; refine List.ext_getElem? fun z => ?_; by_cases hz : z ∈ own.map (·.2); (rw [wipe_in hz, wipe_in hz, wipe_length]); (rw [wipe_out hz]), ?_⟩
    intro s0 H0 C0 cl0 fp0
    refine h4 _ (blk_okM hM nd hc) ⟨s0, H0, C0, cl0, fp0, rfl⟩ F4 σ4 H4 _ E4 ?_
    rintro t L5 F5 H5 ⟨h5, h6⟩ E5 s5
    cases t with
    | false =>
      rw [if_neg Bool.false_ne_true]
      obtain ⟨L6, rfl, hP'⟩ := h6 rfl
      exact ⟨F5, acc, L6, E5.ge, by omega, hP', E3.to (s4.trans s5) E5.led⟩
    | true =>
      rw [if_pos rfl]
      intro s0 H0 C0 cl0 fp0
      refine h5 rfl _ (blk_okM hM nd hc) ⟨s0, H0, C0, cl0, fp0, rfl⟩ F5 σ4 H5 _ E5 ?_
      rintro y L6 F6 v6 H6 ⟨L7, rfl, hP'⟩ E6 s6 r6
      have g := get_last (x := (Dp, C.lst acc)) L7
      obtain ⟨xs, hx, rx⟩ := E6.led.lst g
      refine ⟨xs, hx, ?_, F6, acc ++ [y], L7, E6.ge, ?_, hP', ?_⟩
      · rw [← rx.length]
        exact Nat.lt_of_le_of_lt (Nat.le_trans hacc (by omega : i ≤ 1000000)) (by decide)
      · rw [List.length_append]
        exact Nat.add_le_add_right hacc 1
      · exact E3.to (s4.trans (s5.trans s6)) (E6.led.put g (put_last L7) ⟨_, upd_same, rx.append (.cons r6 .nil)⟩)
  · have e : i = ds.length := by omega
    subst e
    refine .inl ⟨it.stop _ H2 F2 _ (Nat.le_refl _) s2 E2.led, ?_⟩
    exact q _ _ _ _ _ (hk acc Lc Dp hP hacc) (E2.to (Same.refl F2) (E2.led.perm (List.perm_append_comm.trans (List.Perm.refl _)))) (s1.trans s2) .ref
theorem ek_lcO {elt tg iter : Expr} {ifs : List Expr} {bs : Scope} (own : List (Str × Nat)) (cf : Cn X N Nc sc) (hc : X.calm = true) (ok : blkC (N ++ Nc) sc bs own = true)
    (h : EiK X F0 tg iter Γ L fun ds L1 => ∃ Pv : Nat → List D → Lg → Prop, Pv 0 [] L1 ∧ ds.length ≤ 1000000 ∧
      (∀ (F1 : UpH F0) (n : Nat) (d : D) (acc : List D) (Lc : Lg) (Dp : Addr), ds[n]? = some d → acc.length ≤ n → Pv n acc Lc →
        (∀ X', Cb X' (N ++ Nc) sc bs → (∃ s H C cl fp, X' = X.blk s H bs (compEnvC bs cl C X.env) fp) → TbK X' F1.h tg (own.map (·.2)) d (wipeG Γ (own.map (·.2))) (Lc ++ [(Dp, .lst acc)]) fun Γ2 L2 =>
          (∀ X', Cb X' (N ++ Nc) sc bs → (∃ s H C cl fp, X' = X.blk s H bs (compEnvC bs cl C X.env) fp) → EsK X' F1.h ifs Γ2 L2 fun t L3 =>
            (t = true → ∀ X', Cb X' (N ++ Nc) sc bs → (∃ s H C cl fp, X' = X.blk s H bs (compEnvC bs cl C X.env) fp) → EvK X' F1.h elt Γ2 L3 fun y L4 => ∃ L5, L4 = L5 ++ [(Dp, .lst acc)] ∧ Pv (n + 1) (acc ++ [y]) L5) ∧
            (t = false → ∃ L5, L3 = L5 ++ [(Dp, .lst acc)] ∧ Pv (n + 1) acc L5)))) ∧ (∀ acc L' Dp, Pv ds.length acc L' → acc.length ≤ ds.length → k (.ref Dp) ((Dp, .lst acc) :: L')))
    (hs : ∀ x, foldedSetIterable iter X.env x = pure x := by intro _; rfl) : EvK X F0 (.ListComp elt [⟨tg, iter, ifs, 0⟩] bs pos) Γ L k :=
  (rd_lcO own cf.n cf.nd hc h).ev (pe_lc (own := own) hc (by rw [cf.n]; exact cf.nd) wi (by rw [cf.n, cf.scp]; exact blkOk_by ok) pgS ptS peS hs)
theorem sk_setLcO {elt tg iter : Expr} {ifs : List Expr} {bs : Scope} {ks : Ks} {j : Nat} {y : Str} {py spos : Pos} (own : List (Str × Nat)) (cf : Cn X N Nc sc) (hc : X.calm = true) (ok : blkC (N ++ Nc) sc bs own = true)
    (h : EiK X F0 tg iter Γ L fun ds L1 => ∃ Pv : Nat → List D → Lg → Prop, Pv 0 [] L1 ∧ ds.length ≤ 1000000 ∧
      (∀ (F1 : UpH F0) (n : Nat) (d : D) (acc : List D) (Lc : Lg) (Dp : Addr), ds[n]? = some d → acc.length ≤ n → Pv n acc Lc →
        (∀ X', Cb X' (N ++ Nc) sc bs → (∃ s H C cl fp, X' = X.blk s H bs (compEnvC bs cl C X.env) fp) → TbK X' F1.h tg (own.map (·.2)) d (wipeG Γ (own.map (·.2))) (Lc ++ [(Dp, .lst acc)]) fun Γ2 L2 =>
          (∀ X', Cb X' (N ++ Nc) sc bs → (∃ s H C cl fp, X' = X.blk s H bs (compEnvC bs cl C X.env) fp) → EsK X' F1.h ifs Γ2 L2 fun t L3 =>
            (t = true → ∀ X', Cb X' (N ++ Nc) sc bs → (∃ s H C cl fp, X' = X.blk s H bs (compEnvC bs cl C X.env) fp) → EvK X' F1.h elt Γ2 L3 fun y L4 => ∃ L5, L4 = L5 ++ [(Dp, .lst acc)] ∧ Pv (n + 1) (acc ++ [y]) L5) ∧
            (t = false → ∃ L5, L3 = L5 ++ [(Dp, .lst acc)] ∧ Pv (n + 1) acc L5)))) ∧ (∀ acc L' Dp, Pv ds.length acc L' → acc.length ≤ ds.length → ∃ Γ', Put Γ j (some (.ref Dp)) Γ' ∧ ks.nx Γ' ((Dp, .lst acc) :: L')))
    (hj : N[j]? = some y := by rfl) (hyl : sc.names.lookup y = some .local := by rfl)
    (hl : (py.line == pos.line) = true := by rfl) (hn : (bs.names.any fun (n, k) => n == y && (k == .local || k == .cell)) = false := by decide +kernel) (hk : sc.kind = .function := by rfl)
    (hs : ∀ x, foldedSetIterable iter X.env x = pure x := by intro _; rfl) : SK X F0 (.Assign [.Name y py] (.ListComp elt [⟨tg, iter, ifs, 0⟩] bs pos) spos) Γ L ks := fun F σ H Dn E q =>
  wpS.of (ps_setLc (own := own) hc (by rw [cf.n]; exact cf.nd) (by rw [cf.n]; exact get_app hj) (by rw [cf.scp]; exact hyl) (sw_true (by rw [cf.scp]; exact hk) (by rw [cf.scp]; exact hyl) hl hn) wi (by rw [cf.n, cf.scp]; exact blkOk_by ok) pgS ptS peS hs)
    (rd_lcO own cf.n cf.nd hc (k := fun d L' => ∃ Γ', Put Γ j (some d) Γ' ∧ ks.nx Γ' L') h F σ H _ E fun d L1 F1 v H1 ⟨Γ', hp, h1⟩ E1 s1 r1 => q.nx Γ' L1 F1 _ H1 h1 ⟨E1.ge, E1.led, E1.sl.put r1 hp⟩)

end
/-! ### what was changed stands still from here on -/
inductive Rem {α : Type} : List α → Nat → α → List α → Prop
  | z {x : α} {xs : List α} : Rem (x :: xs) 0 x xs
  | s {x y : α} {xs ys : List α} {i : Nat} : Rem xs i y ys → Rem (x :: xs) (i + 1) y (x :: ys)
theorem Rem.get {α : Type} {x : α} : ∀ {xs ys : List α} {i : Nat}, Rem xs i x ys → Get xs i x
  | _, _, _, .z => .z
  | _, _, _, .s r => .s r.get
theorem Rem.sub {α : Type} {x : α} : ∀ {xs ys : List α} {i : Nat}, Rem xs i x ys → ys.Sublist xs
  | _, _, _, .z => List.sublist_cons_self _ _
  | _, _, _, .s r => r.sub.cons_cons _
theorem Rem.ne {a : Addr} {c : C} : ∀ {L L' : Lg} {i : Nat}, (L.map (·.1)).Nodup → Rem L i (a, c) L' → ∀ p ∈ L', p.1 ≠ a
  | _, _, _, nd, .z => fun p hp z => by
    rw [List.map_cons] at nd
    exact (List.nodup_cons.mp nd).1 (z ▸ List.mem_map_of_mem (f := (·.1)) hp)
  | _, _, _, nd, .s r => fun p hp => by
    rw [List.map_cons] at nd
    have nd' := List.nodup_cons.mp nd
    rcases List.mem_cons.mp hp with rfl | hp
    · intro z
      exact nd'.1 (z ▸ Get.mem' (f := (·.1)) r.get)
    · exact Rem.ne nd'.2 r p hp
theorem Led.frz {K : PySem.W.Frag} {F H : Hp} {L L' : Lg} {q : Addr} {ds : List D} {j : Nat} (e : Led K F L H) (r : Rem L j (q, .lst ds) L') : ∃ xs, Led K (upd F q (.lst xs)) L' H ∧ Same F (upd F q (.lst xs)) ∧ Reps K F ds xs := by
  obtain ⟨xs, h1, h2⟩ := e.lst r.get
  have fq : F q = none := (e.ent _ r.get.mem).1
  have s1 : Same F (upd F q (.lst xs)) := same_new fq
  refine ⟨xs, ⟨fun b u z => ?_, (r.sub.map _).nodup e.nod, fun p hp => ?_⟩, s1, h2⟩
  · by_cases hb : b = q
    · subst hb; rw [upd_same] at z; rw [h1]; exact z
    · rw [upd_ne hb] at z; exact e.sub b u z
  · obtain ⟨a1, a2⟩ := e.ent p (r.sub.subset hp)
    exact ⟨(upd_ne (Rem.ne e.nod r p hp)).trans a1, a2.mono s1 rfl⟩
section
variable {X : Cx} {F0 : Hp} {Γ Γ' : Gm} {L L' : Lg} {k : Ks} {ss : List Stmt}
/-- the list at p, in slot i: frozen -/
theorem bk_frz {p : Addr} {ds : List D} {i j : Nat} (g : Get Γ i (some (.ref p))) (r : Rem L j (p, .lst ds) L') (pt : Put Γ i (some (.lst ds)) Γ') (h : BK X F0 ss Γ' L' k) : BK X F0 ss Γ L k := fun F σ H Dn E q => by
  obtain ⟨xs, l, s1, rr⟩ := E.led.frz r
  refine h _ σ H Dn ⟨E.ge.trans s1, l, ?_⟩ q
  have sl := E.sl.mono s1
  obtain ⟨v, h1, h2⟩ := sl.get g
  cases h2
  have sp := sl.put (Rep.lst (ds := ds) (.inl (.inl upd_same)) (rr.mono s1) : Rep X.K (upd F p (.lst xs)) (.lst ds) (.ref p)) pt
  have e : σ.set i (some (.ref p)) = σ := by
    refine List.ext_getElem? fun z => ?_
    rw [List.getElem?_set]
    by_cases hz : i = z
    · rw [if_pos hz]
      subst hz
      have hl : i < σ.length := (List.getElem?_eq_some_iff.mp h1).1
      rw [if_pos hl, h1]
    · rw [if_neg hz]
  rw [e] at sp
  exact sp
/-- forget an entry of the ledger -/
theorem bk_drop {x : Addr × C} {j : Nat} (r : Rem L j x L') (h : BK X F0 ss Γ L' k) : BK X F0 ss Γ L k := fun F σ H Dn E q =>
  h F σ H Dn ⟨E.ge, ⟨E.led.sub, (r.sub.map _).nodup E.led.nod, fun p hp => E.led.ent p (r.sub.subset hp)⟩, E.sl⟩ q
end
end Vs

set_option Elab.async false
set_option linter.all false
set_option maxRecDepth 100000
set_option maxHeartbeats 4000000
namespace Vs
open PySem PySem.Spec PyProof.Rows L2
/-! ### lists of numbers -/
theorem dI_get {xs : List Int} {i : Nat} {d : D} (h : (dI xs)[i]? = some d) : ∃ v, xs[i]? = some v ∧ d = .int v := by
  rw [List.getElem?_map] at h
  cases z : xs[i]? with
  | none => rw [z] at h; cases h
  | some v => rw [z] at h; exact ⟨v, rfl, (Option.some.inj h).symm⟩
theorem at_dI {xs : List Int} {i : Int} {v : Int} (h0 : 0 ≤ i) (h : xs[i.toNat]? = some v) : atI (dI xs) i = some (.int v) := at_nat h0 (by rw [List.getElem?_map, h]; rfl)
theorem at_dIn {xs : List Int} {n : Nat} {v : Int} (h : xs[n]? = some v) : atI (dI xs) (0 + (n : Int)) = some (.int v) := by
  have e : (0 + (n : Int)).toNat = n := by omega
  exact at_dI (by omega) (by rw [e]; exact h)
theorem at_dIk {xs : List Int} {n : Nat} {v : Int} (h : xs[n]? = some v) : atI (dI xs) (n : Int) = some (.int v) := at_dI (by omega) (by rw [Int.toNat_natCast]; exact h)
theorem dI_app {xs : List Int} {v : Int} : dI xs ++ [D.int v] = dI (xs ++ [v]) := by
  show xs.map D.int ++ [v].map D.int = (xs ++ [v]).map D.int
  exact List.map_append.symm
theorem dI_len {xs : List Int} : (dI xs).length = xs.length := List.length_map _
theorem dI_set {xs : List Int} {j : Nat} {v : Int} : (dI xs).set j (D.int v) = dI (xs.set j v) := List.map_set.symm
theorem cut_to {xs : List D} {n : Int} (h : 0 ≤ n) : cutD xs none (some n) = xs.take n.toNat := by
  obtain ⟨m, rfl⟩ : ∃ m : Nat, n = m := ⟨n.toNat, by omega⟩
  unfold cutD
  rw [HT.sIx_none, HT.sIx_nat, List.drop_zero, Int.toNat_natCast, Nat.sub_zero]
  by_cases hm : m ≤ xs.length
  · rw [Nat.min_eq_left hm]
  · rw [Nat.min_eq_right (by omega), List.take_of_length_le (Nat.le_refl _), List.take_of_length_le (by omega)]
theorem cut_from {xs : List D} {n : Int} (h : 0 ≤ n) : cutD xs (some n) none = xs.drop n.toNat := by
  obtain ⟨m, rfl⟩ : ∃ m : Nat, n = m := ⟨n.toNat, by omega⟩
  unfold cutD
  rw [HT.sIx_none, HT.sIx_nat, Int.toNat_natCast]
  by_cases hm : m ≤ xs.length
  · rw [Nat.min_eq_left hm, List.take_of_length_le (by rw [List.length_drop]; omega)]
  · rw [Nat.min_eq_right (by omega), List.drop_of_length_le (Nat.le_refl _), List.drop_of_length_le (by omega), List.take_nil]
theorem cut_dI {xs : List Int} {n : Int} (h : 0 ≤ n) : cutD (dI xs) none (some n) = dI (xs.take n.toNat) := by rw [cut_to h]; exact List.map_take.symm
theorem cut_dI' {xs : List Int} {n : Int} (h : 0 ≤ n) : cutD (dI xs) (some n) none = dI (xs.drop n.toNat) := by rw [cut_from h]; exact List.map_drop.symm
/-! ### == of data -/
theorem dpds_dI {L : Lg} : ∀ {xs : List Int}, Dpds L (dI xs) (xs.map PyData.int)
  | [] => .nil
  | _ :: _ => .cons .int dpds_dI
theorem dpd_as {L : Lg} {x : D} {xs : List Int} (h : AsL L x (dI xs)) : Dpd L x (.list (xs.map PyData.int)) := by
  generalize hd : dI xs = ds at h
  cases h with
  | lst => subst hd; exact .lst dpds_dI
  | own g => subst hd; exact .own g dpds_dI
theorem eqv_ints : ∀ {xs ys : List Int}, PyData.eqvAll (xs.map PyData.int) (ys.map PyData.int) = decide (xs = ys)
  | [], [] => by simp [PyData.eqvAll]
  | [], _ :: _ => by simp [PyData.eqvAll]
  | _ :: _, [] => by simp [PyData.eqvAll]
  | x :: xs, y :: ys => by
    simp only [List.map_cons, PyData.eqvAll, PyData.eqv]
    rw [eqv_ints]
    by_cases h : x = y
    · subst h; simp
    · simp [h]
theorem eqv_dI {xs ys : List Int} : PyData.eqv (.list (xs.map PyData.int)) (.list (ys.map PyData.int)) = decide (xs = ys) := by
  simp only [PyData.eqv]
  exact eqv_ints
/-- data of a depth -/
def Shp (k : Nat) (d : PyData) : Prop := d.canLay0 = true ∧ d.depth ≤ k
theorem shp_ok {k : Nat} {d : PyData} (h : Shp k d) (hk : k ≤ 64) : SeqAt.shaped d = true := by
  unfold SeqAt.shaped
  rw [h.1, Bool.true_and]
  exact decide_eq_true (Nat.le_trans h.2 hk)
theorem shp_refl {k : Nat} {d : PyData} (h : Shp k d) : PyData.eqv d d = true := SeqAt.eqv_refl d h.1
theorem shpAll {k : Nat} : ∀ {ds : List PyData}, (∀ d ∈ ds, Shp k d) → PyData.canLayAll0 ds = true ∧ PyData.depthAll ds ≤ k
  | [], _ => ⟨rfl, Nat.zero_le _⟩
  | d :: ds, h => by
    obtain ⟨h1, h2⟩ := h d List.mem_cons_self
    obtain ⟨h3, h4⟩ := shpAll fun e he => h e (List.mem_cons_of_mem _ he)
    refine ⟨?_, ?_⟩
    · simp only [PyData.canLayAll0, h1, h3, Bool.and_self]
    · simp only [PyData.depthAll]
      exact Nat.max_le.mpr ⟨h2, h4⟩
theorem shp_lst {k : Nat} {ds : List PyData} (h : ∀ d ∈ ds, Shp k d) : Shp (k + 1) (.list ds) := by
  obtain ⟨h1, h2⟩ := shpAll h
  exact ⟨by simp only [PyData.canLay0]; exact h1, by simp only [PyData.depth]; omega⟩
theorem shp_tup {k : Nat} {ds : List PyData} (h : ∀ d ∈ ds, Shp k d) : Shp (k + 1) (.tuple ds) := by
  obtain ⟨h1, h2⟩ := shpAll h
  exact ⟨by simp only [PyData.canLay0]; exact h1, by simp only [PyData.depth]; omega⟩
theorem shp_int {k : Nat} {i : Int} : Shp k (.int i) := ⟨by simp only [PyData.canLay0], by simp only [PyData.depth]; exact Nat.zero_le _⟩
theorem shp_bl {k : Nat} {b : Bool} : Shp k (.bool b) := ⟨by simp only [PyData.canLay0], by simp only [PyData.depth]; exact Nat.zero_le _⟩
theorem shp_non {k : Nat} : Shp k .none := ⟨by simp only [PyData.canLay0], by simp only [PyData.depth]; exact Nat.zero_le _⟩
theorem shp_dI {k : Nat} {xs : List Int} : Shp (k + 1) (.list (xs.map PyData.int)) := shp_lst fun d hd => by
  obtain ⟨x, _, rfl⟩ := List.mem_map.mp hd
  exact shp_int
theorem Shp.up {k j : Nat} {d : PyData} (h : Shp k d) (hj : k ≤ j) : Shp j d := ⟨h.1, Nat.le_trans h.2 hj⟩
theorem shaped_dI {xs : List Int} : SeqAt.shaped (.list (xs.map PyData.int)) = true := shp_ok (k := 1) shp_dI (by decide)
/-- lists of lists of numbers -/
abbrev dII (xss : List (List Int)) : List D := xss.map fun xs => D.lst (dI xs)
abbrev pI (xs : List Int) : PyData := .list (xs.map PyData.int)
theorem dpds_dII {L : Lg} : ∀ {xss : List (List Int)}, Dpds L (dII xss) (xss.map pI)
  | [] => .nil
  | _ :: _ => .cons (.lst dpds_dI) dpds_dII
theorem shp_dII {k : Nat} {xss : List (List Int)} : Shp (k + 2) (.list (xss.map pI)) := shp_lst fun d hd => by
  obtain ⟨x, _, rfl⟩ := List.mem_map.mp hd
  exact shp_dI
theorem eqv_iis : ∀ {xs ys : List (List Int)}, PyData.eqvAll (xs.map pI) (ys.map pI) = decide (xs = ys)
  | [], [] => by simp [PyData.eqvAll]
  | [], _ :: _ => by simp [PyData.eqvAll]
  | _ :: _, [] => by simp [PyData.eqvAll]
  | x :: xs, y :: ys => by
    simp only [List.map_cons, PyData.eqvAll]
    rw [eqv_iis, eqv_dI]
    by_cases h : x = y
    · subst h; simp
    · simp [h]
end Vs

set_option Elab.async false
set_option linter.all false
set_option maxRecDepth 100000
set_option maxHeartbeats 4000000
namespace Vs
open PySem PySem.Spec PyProof.Rows L2
section
variable {X : Cx} {F0 : Hp} {Γ : Gm} {L : Lg} {k : Ks} {e a b c o i tg iter : Expr} {st : Stmt} {rest body orelse : List Stmt} {pos p' : Pos} {N Nc : List Str} {sc : Scope} {Z : Xc → Gm → Lg → Prop}
/-- for tg in xs, xs a list of the ledger that stays as it is -/
theorem sk_forO (cf : Cf X N Nc sc F0 Z) (h : EvK X F0 a Γ L fun x L1 => ∃ p ds, x = .ref p ∧ ∃ Pv : Nat → Gm → Lg → Prop, Pv 0 Γ L1 ∧ (∀ i Γ' L', Pv i Γ' L' → ∃ j, Get L' j (p, C.lst ds)) ∧
      (∀ F1, Cf X N Nc sc F1 Z → ∀ i d Γ' L', ds[i]? = some d → Pv i Γ' L' → TgK X F1 tg d Γ' L' fun Γ2 L2 => BK X F1 body Γ2 L2 { k with nx := Pv (i + 1), ct := Pv (i + 1), bk := k.nx }) ∧ (∀ Γ' L', Pv ds.length Γ' L' → k.nx Γ' L'))
    (hs : ∀ x, foldedSetIterable a X.env x = pure x := by intro _; rfl) : SK X F0 (.For tg a body [] pos) Γ L k := fun F σ H Dn E q =>
  wpS.of (ps_for cf.own cf.calm (pi_list we) wg wb hs) (h F σ H _ E fun x L1 F1 v H1 ⟨p, ds, e1, Pv, h0, hg, hb, hd⟩ E1 s1 r1 => by
    subst e1
    cases r1
    have rd : ∀ {F : Hp} {L : Lg} {H : Hp} {i : Nat} {Γ' : Gm}, Pv i Γ' L → Led X.K F L H → ∃ xs, SqL X.K H p xs ∧ Reps X.K F ds xs := fun hP l => by
      obtain ⟨j, g⟩ := hg _ _ _ hP
      obtain ⟨xs, h1, h2⟩ := l.lst g
      exact ⟨xs, .inl (.inl h1), h2⟩
    obtain ⟨xs0, hx0, _⟩ := rd h0 E1.led
    refine ⟨p, rfl, ⟨xs0, hx0⟩, fun i m σ H => ∃ F Γ L, i + m = ds.length ∧ Same F1 F ∧ Pv i Γ L ∧ At X.K F0 F Γ L σ H, ⟨ds.length, F1, Γ, L1, by omega, Same.refl F1, h0, E1⟩, ?_⟩
    rintro i m σ2 H2 ⟨F2, Γ2, L2, hm, s2, hP, E2⟩
    obtain ⟨xs, hx, rx⟩ := rd hP E2.led
    by_cases hi : i < ds.length
    · have hi' : i < xs.length := by rw [← rx.length]; exact hi
      refine .inr ⟨⟨xs, xs[i], hx, List.getElem?_eq_getElem hi'⟩, fun σ' H' => ∃ F Γ L, Same F1 F ∧ Pv (i + 1) Γ L ∧ At X.K F0 F Γ L σ' H', fun σ' H' ⟨F3, Γ3, L3, a, b, c⟩ => ⟨m - 1, by omega, F3, Γ3, L3, by omega, a, b, c⟩, ?_⟩
      rintro x H' ⟨rfl, hy⟩
      obtain ⟨d, hdi, rd'⟩ := rx.got (hy xs hx)
      refine hb F1 (cf.up E1.ge) i d Γ2 L2 hdi hP F2 σ2 H' x _ (E2.base s2) rd' fun Γ4 L4 F4 σ4 H4 h4 E4 => ?_
      have q' := q.up (F1 := F1) E1.ge
      exact h4 F4 σ4 H4 _ E4 ⟨fun Γ L F σ H h E => ⟨F, Γ, L, E.ge, h, E.low E1.ge⟩, q'.rt, q'.nx, fun Γ L F σ H h E => ⟨F, Γ, L, E.ge, h, E.low E1.ge⟩⟩
    · have e : i = ds.length := by omega
      subst e
      exact .inl ⟨⟨xs, hx, by rw [← rx.length]; exact Nat.le_refl _⟩, q.nx Γ2 L2 F2 σ2 H2 (hd Γ2 L2 hP) E2⟩)
end
theorem asl_get {L : Lg} {x : D} {ds : List D} (h : AsL L x ds) : x = .lst ds ∨ ∃ p j, x = .ref p ∧ Get L j (p, C.lst ds) := by
  cases h with
  | lst => exact .inl rfl
  | own g => exact .inr ⟨_, _, rfl, g⟩
theorem tyd_as {L : Lg} {x : D} {ds : List D} (h : AsL L x ds) : TyD L x "list" := by
  cases h with
  | lst => exact .lst
  | own g => exact .own g
/-- for tg in xs, xs a name of either kind -/
theorem sk_forN {X : Cx} {F0 : Hp} {Γ : Gm} {L : Lg} {k : Ks} {a tg : Expr} {body : List Stmt} {pos : Pos} {N Nc : List Str} {sc : Scope} {Z : Xc → Gm → Lg → Prop} {x : D} {ds : List D} (cf : Cf X N Nc sc F0 Z)
    (he : ∀ kk : D → Lg → Prop, kk x L → EvK X F0 a Γ L kk) (hx : AsL L x ds) (Pv : Nat → Gm → Lg → Prop) (h0 : Pv 0 Γ L) (hp : ∀ i Γ' L', Pv i Γ' L' → AsL L' x ds)
    (hb : ∀ F1, Cf X N Nc sc F1 Z → ∀ i d Γ' L', ds[i]? = some d → Pv i Γ' L' → TgK X F1 tg d Γ' L' fun Γ2 L2 => BK X F1 body Γ2 L2 { k with nx := Pv (i + 1), ct := Pv (i + 1), bk := k.nx }) (hd : ∀ Γ' L', Pv ds.length Γ' L' → k.nx Γ' L')
    (hs : ∀ x, foldedSetIterable a X.env x = pure x := by intro _; rfl) : SK X F0 (.For tg a body [] pos) Γ L k := by
  cases hx with
  | lst => exact sk_for cf (ei_list (he _ ⟨ds, rfl, Pv, h0, hb, hd⟩)) hs
  | own g =>
    refine sk_forO cf (he _ ⟨_, ds, rfl, Pv, h0, fun i Γ' L' hP => ?_, hb, hd⟩) hs
    have := hp i Γ' L' hP
    generalize hz : D.ref _ = z at this
    cases this with
    | lst => cases hz
    | own g2 => cases hz; exact ⟨_, g2⟩
theorem AsL.cons {L : Lg} {y : Addr × C} {x : D} {ds : List D} (h : AsL L x ds) : AsL (y :: L) x ds := by
  cases h with
  | lst => exact .lst
  | own g => exact .own (.s g)
section
variable {X : Cx} {F0 : Hp} {Γ : Gm} {L : Lg} {k : Ks} {e : Expr} {pos : Pos}
/-- return e, what the ledger has no more use for dropped -/
theorem sk_retS (h : EvK X F0 e Γ L fun d L' => ∃ L'', L''.Sublist L' ∧ k.rt d L'') : SK X F0 (.Return (some e) pos) Γ L k := fun F σ H Dn E q =>
  wpS.of (ps_ret we) (h F σ H _ E fun d L1 F1 v H1 ⟨L2, hs, h1⟩ E1 s1 r1 => q.rt d L2 F1 v H1 h1 E1.ge ⟨E1.led.sub, (hs.map _).nodup E1.led.nod, fun p hp => E1.led.ent p (hs.subset hp)⟩ r1)
end
section
variable {X : Cx} {F0 : Hp} {Γ : Gm} {L : Lg} {k : D → Lg → Prop} {pos : Pos} {N Nc : List Str} {sc : Scope} {elt tg iter : Expr} {bs : Scope}
/-- a comprehension without a test, its list to be changed -/
theorem ek_lcF (own : List (Str × Nat)) (cf : Cn X N Nc sc) (hc : X.calm = true) (ok : blkC (N ++ Nc) sc bs own = true)
    (h : EiK X F0 tg iter Γ L fun ds L1 => ∃ es : List D, LcM X F0 (N ++ Nc) sc bs own elt tg Γ L1 ds es ∧ ∀ p, k (.ref p) ((p, .lst es) :: L1))
    (hs : ∀ x, foldedSetIterable iter X.env x = pure x := by intro _; rfl) : EvK X F0 (.ListComp elt [⟨tg, iter, [], 0⟩] bs pos) Γ L k :=
  ek_lcO own cf hc ok (ei_mono h fun ds L1 ⟨es, ⟨h1, h2, h3⟩, hk⟩ => ⟨fun n acc L' => L' = L1 ∧ acc = es.take n, ⟨rfl, rfl⟩, h2, fun F1 n d acc Lc Dp hd hacc ⟨e1, e2⟩ X' cb hX' => by
    subst e1 e2
    have hn : n < es.length := by rw [h1]; exact (List.getElem?_eq_some_iff.mp hd).1
    have he : es[n]? = some es[n] := List.getElem?_eq_getElem hn
    intro F σ H v Q E r q
    refine h3 F1 n d es[n] (es.take n) Dp hd he X' cb hX' F σ H v Q E r fun Γ' L' F' σ' H' ⟨e1, h4⟩ E' s' w' => q Γ' L' F' σ' H' (fun X'' cb' hX'' => es_nil ⟨fun _ X3 cb3 hX3 => ?_, fun h => nomatch h⟩) E' s' w'
    intro F σ H Q E q
    exact h4 X3 cb3 hX3 F σ H Q E fun d L' F' v H' ⟨a, b⟩ E' s r => q d L' F' v H' ⟨Lc, by rw [a, e1], rfl, by rw [b, List.take_add_one, he]; rfl⟩ E' s r,
    fun acc L' Dp ⟨e1, e2⟩ _ => by
      subst e1 e2
      rw [List.take_of_length_le (by omega)]
      exact hk Dp⟩) hs
end
section
variable {X : Cx} {F0 : Hp} {Γ : Gm} {L : Lg} {k : D → Lg → Prop} {e : Expr}
/-- a list made new, frozen at once -/
theorem ek_frz (h : EvK X F0 e Γ L fun d L1 => ∃ p ds j L2, d = .ref p ∧ Rem L1 j (p, .lst ds) L2 ∧ k (.lst ds) L2) : EvK X F0 e Γ L k := fun F σ H Q E q =>
  h F σ H Q E fun d L1 F1 v H1 ⟨p, ds, j, L2, hd, r, hk⟩ E1 s1 rr => by
    subst hd
    cases rr
    obtain ⟨xs, l, s2, rx⟩ := E1.led.frz r
    exact q _ L2 _ _ H1 hk ⟨E1.ge.trans s2, l, E1.sl.mono s2⟩ (s1.trans s2) (.lst (.inl (.inl upd_same)) (rx.mono s2))
/-- entries of the ledger forgotten -/
theorem ek_drp (h : EvK X F0 e Γ L fun d L1 => ∃ L2, L2.Sublist L1 ∧ k d L2) : EvK X F0 e Γ L k := fun F σ H Q E q =>
  h F σ H Q E fun d L1 F1 v H1 ⟨L2, hs, h1⟩ E1 s1 r1 => q d L2 F1 v H1 h1 ⟨E1.ge, ⟨E1.led.sub, (hs.map _).nodup E1.led.nod, fun p hp => E1.led.ent p (hs.subset hp)⟩, E1.sl⟩ s1 r1
end
end Vs

set_option Elab.async false
set_option linter.all false
set_option maxRecDepth 100000
set_option maxHeartbeats 4000000
namespace Vs
open PySem PySem.Spec PyProof.Rows L2
/-! ### tuples as targets -/
def wpGs (X : Cx) (ts : List Expr) : TGs := fun vs σ H Q => ∀ pins s us, Inv X pins σ H s → Vals vs us → wpAny (model X.prog X.w) X.A (assignInOrder ((assignEach ts X.env).map (·.2)) us) (fun _ s' => ∃ σ' H', Inv X pins σ' H' s' ∧ Q σ' H') X.xe s
theorem wgs {X : Cx} {ts : List Expr} : PGs X ts (wpGs X ts) := ⟨fun pins s _ _ _ us _ I r h => h pins s us I r⟩
theorem wpGs.of {X : Cx} {ts : List Expr} {t : TGs} {vs : List V} {σ : L2.St} {H : Hp} {Q : L2.St → Hp → Prop} (p : PGs X ts t) (h : t vs σ H Q) : wpGs X ts vs σ H Q := fun pins s us I r => p.run pins s σ H vs us Q I r h
/-- names = data, one by one -/
def TnK (X : Cx) (F0 : Hp) (ts : List Expr) (ds : List D) (Γ : Gm) (L : Lg) (k : Gm → Lg → Prop) : Prop := ∀ (F : Hp) (σ : L2.St) (H : Hp) (vs : List V) (Q : L2.St → Hp → Prop), At X.K F0 F Γ L σ H → Reps X.K F ds vs →
  (∀ Γ' L' F' σ' H', k Γ' L' → At X.K F0 F' Γ' L' σ' H' → Q σ' H') → wpGs X ts vs σ H Q
def TnbK (X : Cx) (F0 : Hp) (ts : List Expr) (vs : List Nat) (ds : List D) (Γ : Gm) (L : Lg) (k : Gm → Lg → Prop) : Prop := ∀ (F : Hp) (σ : L2.St) (H : Hp) (us : List V) (Q : L2.St → Hp → Prop), At X.K F0 F Γ L σ H → Reps X.K F ds us →
  (∀ Γ' L' F' σ' H', k Γ' L' → At X.K F0 F' Γ' L' σ' H' → Same F F' → wipe σ' vs = wipe σ vs → Q σ' H') → wpGs X ts us σ H Q
section
variable {X : Cx} {F0 : Hp} {Γ : Gm} {L : Lg} {k : Gm → Lg → Prop} {es : List Expr} {ds : List D} {d : D} {pos : Pos} {N Nc : List Str} {sc bs : Scope} {x : Str} {j kk n : Nat} {vs : List Nat}
theorem tn_z (h : k Γ L) : TnK X F0 [] [] Γ L k := fun F σ H us Q E r q => by
  cases r
  exact wpGs.of pgs_nil ⟨rfl, q Γ L F σ H h E⟩
theorem tn_c (c : Cn X N Nc sc) (h : ∃ Γ', Put Γ j (some d) Γ' ∧ TnK X F0 es ds Γ' L k) (hj : N[j]? = some x := by rfl)
    (hs : (assignEach (.Name x pos :: es) X.env).map (·.2) = assign (.Name x pos) X.env :: (assignEach es X.env).map (·.2) := by rfl) : TnK X F0 (.Name x pos :: es) (d :: ds) Γ L k := fun F σ H us Q E r q => by
  obtain ⟨Γ', p, hk⟩ := h
  cases r with
  | cons r rr =>
    refine wpGs.of (pgs_cons (pg_name (i := j) (by rw [c.n]; exact c.nd) (by rw [c.n]; exact get_app hj) (by rw [c.scp]; exact c.loc x (List.mem_of_getElem? hj)) (.inl (c.fn x))) wgs hs) ⟨_, _, rfl, ?_⟩
    exact hk F _ H _ Q ⟨E.ge, E.led, E.sl.put r p⟩ rr q
theorem tg_tup (hc : X.calm = true) (h : ∃ ds, d = .tup ds ∧ ds.length = n ∧ TnK X F0 es ds Γ L k) (hn : (assignEach es X.env).length = n := by rfl) (hst : (assignEach es X.env).findIdx? (·.1) = none := by rfl) :
    TgK X F0 (.Tuple es kk pos) d Γ L k := fun F σ H v Q E r q => by
  obtain ⟨ds, rfl, hl, h⟩ := h
  cases r with
  | tup hx rx => exact wpG.of (pg_tup hc wgs hn hst) ⟨_, _, rfl, seqT E.led.sub hx, by rw [← rx.length]; exact hl, h F σ H _ Q E rx q⟩
theorem tnb_z (h : k Γ L) : TnbK X F0 [] vs [] Γ L k := fun F σ H us Q E r q => by
  cases r
  exact wpGs.of pgs_nil ⟨rfl, q Γ L F σ H h E (Same.refl F) rfl⟩
theorem tnb_c (c : Cb X N sc bs) (h : ∃ Γ', Put Γ j (some d) Γ' ∧ TnbK X F0 es vs ds Γ' L k) (hj : N[j]? = some x := by rfl) (hv : bs.names.lookup x = some .local ∨ bs.names.lookup x = some .cell := by first | exact .inl rfl | exact .inr rfl) (hm : j ∈ vs := by decide)
    (hs : (assignEach (.Name x pos :: es) X.env).map (·.2) = assign (.Name x pos) X.env :: (assignEach es X.env).map (·.2) := by rfl) : TnbK X F0 (.Name x pos :: es) vs (d :: ds) Γ L k := fun F σ H us Q E r q => by
  obtain ⟨Γ', p, hk⟩ := h
  have hl : Loc X.env.scope x ∧ (X.fn x = true ∨ X.env.scope.names.lookup x = some .local) := by
    rcases hv with z | z
    · exact ⟨.inl (c.own x z), .inr (c.own x z)⟩
    · exact ⟨.inr (c.cel x z).1, .inl (c.cel x z).2⟩
  cases r with
  | cons r rr =>
    refine wpGs.of (pgs_cons (pg_name (i := j) (by rw [c.n]; exact c.nd) (by rw [c.n]; exact hj) hl.1 hl.2) wgs hs) ⟨_, _, rfl, ?_⟩
    exact hk F _ H _ Q ⟨E.ge, E.led, E.sl.put r p⟩ rr fun Γ' L' F' σ' H' hk' E' s' w' => q Γ' L' F' σ' H' hk' E' s' (w'.trans (wipe_set hm))
theorem tb_tup (c : Cb X N sc bs) (h : ∃ ds, d = .tup ds ∧ ds.length = n ∧ TnbK X F0 es vs ds Γ L k) (hn : (assignEach es X.env).length = n := by rfl) (hst : (assignEach es X.env).findIdx? (·.1) = none := by rfl) :
    TbK X F0 (.Tuple es kk pos) vs d Γ L k := fun F σ H v Q E r q => by
  obtain ⟨ds, rfl, hl, h⟩ := h
  cases r with
  | tup hx rx => exact wpG.of (pg_tup c.calm wgs hn hst) ⟨_, _, rfl, seqT E.led.sub hx, by rw [← rx.length]; exact hl, h F σ H _ Q E rx q⟩
end
section
variable {X : Cx} {F0 : Hp} {Γ : Gm} {L : Lg} {k : Ks} {e a : Expr} {pos p tpos p2 : Pos} {tg : Expr} {elts : List Expr} {kk : Nat}
/-- a, b, .. = e -/
theorem sk_asg (h : EvK X F0 e Γ L fun d L' => TgK X F0 tg d Γ L' k.nx) (hs : swapsWithSole [tg] e pos.line X.env = pure false := by rfl) (hw : swappedStores [tg] e X.env = pure none := by rfl)
    (h1 : (assignEach [tg] X.env).map (·.2) = [assign tg X.env] := by rfl) : SK X F0 (.Assign [tg] e pos) Γ L k := fun F σ H Dn E q =>
  wpS.of (ps_asg we wg hs hw h1) (h F σ H _ E fun d L1 F1 v H1 h1 E1 s1 r1 => h1 F1 σ H1 v _ E1 r1 fun Γ' L' F' σ' H' hk E' => q.nx Γ' L' F' σ' H' hk E')
/-! enumerate -/
def enumD (ds : List D) : List D := ds.mapIdx fun i d => D.tup [.int (i : Int), d]
theorem enumD_len {ds : List D} : (enumD ds).length = ds.length := by unfold enumD; exact List.length_mapIdx
theorem enumD_get {ds : List D} {i : Nat} : (enumD ds)[i]? = ds[i]?.map fun d => D.tup [.int (i : Int), d] := by unfold enumD; exact List.getElem?_mapIdx
theorem enumD_at {ds : List D} {i : Nat} {d : D} (h : (enumD ds)[i]? = some d) : ∃ y, ds[i]? = some y ∧ d = .tup [.int (i : Int), y] := by
  rw [enumD_get] at h
  cases z : ds[i]? with
  | none => rw [z] at h; cases h
  | some y => rw [z] at h; exact ⟨y, rfl, (Option.some.inj h).symm⟩
theorem ei_enum {kl : List D → Lg → Prop} (hm : X.mg "enumerate" = none) (hg : Gl X "enumerate") (h : EvK X F0 a Γ L fun x L1 => ∃ ds, x = .lst ds ∧ kl (enumD ds) L1) (hs : starEach [a] X.env = [(false, eval a X.env)] := by rfl) :
    EiK X F0 (.Tuple elts kk tpos) (.Call (.Name "enumerate" p) [a] [] pos) Γ L kl := fun F σ H R E q =>
  wpI.of (pi_enum hg hm (pa_cons we pa_nil hs) hs) (h F σ H _ E fun x L1 F1 v H1 ⟨ds, e1, h1⟩ E1 s1 r1 => by
    subst e1
    cases r1 with
    | lst hx rx =>
      rename_i p xs
      refine ⟨p, xs, rfl, E1.led.sub.seq hx, q _ L1 F1 H1 _ h1 E1 s1 ⟨?_, ?_, ?_⟩⟩
      · intro i H F' L' hi s l
        have hi' : i < xs.length := by rw [← rx.length]; rw [enumD_len] at hi; exact hi
        exact ⟨xs, xs[i], l.sub.seq (s.seq hx), List.getElem?_eq_getElem hi'⟩
      · rintro i H x H' F' L' s l ⟨T, y, rfl, hT, rfl, hy⟩ hi
        have hx' := hy xs (l.sub.seq (s.seq hx))
        obtain ⟨d, hd, rd⟩ := rx.got hx'
        have s2 : Same F' (upd F' T (.tup [.int (i : Nat), y])) := same_new (l.free hT)
        exact ⟨.tup [.int (i : Int), d], _, by rw [enumD_get, hd]; rfl, s2, l.new hT, .tup (.inl (.inl upd_same)) (.cons .int (.cons (rd.mono (s.trans s2)) .nil))⟩
      · intro i H F' L' hi s l
        exact ⟨xs, l.sub.seq (s.seq hx), by rw [← rx.length]; rw [enumD_len] at hi; exact hi⟩)
end
end Vs

set_option Elab.async false
set_option linter.all false
set_option maxRecDepth 100000
set_option maxHeartbeats 4000000
namespace Vs
open PySem PySem.Spec PyProof.Rows L2
/-! ### list(reversed(list)) -/
section
variable {prog : Program} {w : World} {A : Around} {E : Value → Shared → Prop} {s : Shared}
theorem ext_rev {R : Result → Shared → Prop} {it l : Addr} {items : Array Value} (hh : A.handled = none) (hit : s.heap.IsRevIter it l ((items.size : Int) - 1)) (hl : s.heap.IsList l items) (hne : l ≠ it) (hn : items.size ≤ sizeLine)
    (S : Addr) (hSi : S ≠ it) (hSl : S ≠ l) (res : Value) (c₀ : Nat) (hS : s.heap.get? S = some { cls := .type "list", data := .seq #[] c₀ })
    (hR : ∀ (h' : Heap) (tk : Nat) (acc' : Array Value) (c' : Nat), (∀ b o, b ≠ S → b ≠ it → s.heap.get? b = some o → h'.get? b = some o) → h'.get? S = some { cls := .type "list", dict := none, data := .seq acc' c', slots := #[] } →
      ItemsOf (fun i v => items[items.size - 1 - i]? = some v) acc' items.size → R (.ok (.ret res)) { s with heap := h', toks := tk }) :
    wpAny (model prog w) A.in1 (Builtin.List.listExtendWith (.ref S) (.ref it) res)
      (fun fin s' => match fin with | .done f => R (.ok f) s' | .again c' => c'.quiet = true ∧ codeAny (model prog w) A c' R s') (fun e s' => R (.error e) s') s := by
  have W := (Walks.listRev (prog := prog) (w := w) (A := A.in1) hh it l hne items).toS
  have hSf : S ∉ [it, l] := by simp only [List.mem_cons, List.not_mem_nil, or_false, not_or]; exact ⟨hSi, hSl⟩
  have hT : s.TypeIs (.ref it) "list_reverseiterator" := Heap.IsRevIter.typeIs (s := s) hit
  have h1 : Builtin.List.listSameRef (.ref S) (.ref it) = false := by simp [Builtin.List.listSameRef, hSi]
  unfold Builtin.List.listExtendWith
  refine wpAny_bind (wpAny_typeOf hT ?_)
  rw [if_neg (by rw [h1]; decide)]
  refine wpAny_bind (wpAny_pyIter_revIter hit ?_)
  refine wpAny_bind (wpAny_holding ?_)
  unfold Builtin.List.listLengthHint
  refine wpAny_bind (wpAny_specialOf hT RT.nolen_lri ?_)
  show wpAny _ A.in1 (specialOf (Value.ref it) (Str.ofString "__length_hint__") >>= _) _ _ _
  refine wpAny_bind (wpAny_specialOf hT RT.hint_lri ?_)
  generalize hid : ("list_reverseiterator.__length_hint__" : String) = id0
  wp_delta
  rw [show splitId id0 = some ("list_reverseiterator", "__length_hint__") from by subst hid; decide +kernel]
  subst hid
  refine wpAny_bind (wpAny_isInstance (b := true) hT (by rw [isSubtype_type]; kernel_rfl) ?_)
  refine wpAny_pure ?_
  rw [if_neg (by decide)]
  have e0 : ((items.size : Nat) : Int) - 1 - ((0 : Nat) : Int) = (items.size : Int) - 1 := by omega
  refine wpAny_pure ⟨plainId_quiet F.plain_extend_loop _, codeAny_extend_loopS W hn _ hSf _ items.size 0 _ _ _ rfl (Nat.zero_le _) ⟨Nat.zero_le _, by rw [e0]; exact hit, hl⟩ hS (ItemsOf.nil _) fun s' acc' c' hm hS' hacc => ?_⟩
  rw [Moved.eq_with hm]
  refine hR s'.heap s'.toks acc' c' (fun b o hb hb2 e => hm.heap b o (fun hmem => ?_) e) hS' hacc
  rcases List.mem_cons.mp hmem with e' | hmem
  · exact hb e'
  · exact hb2 (List.mem_singleton.mp hmem)
theorem init_rev {R : Result → Shared → Prop} {it l : Addr} {items : Array Value} (hh : A.handled = none) (hit : s.heap.IsRevIter it l ((items.size : Int) - 1)) (hl : s.heap.IsList l items) (hne : l ≠ it) (hn : items.size ≤ sizeLine)
    (S : Addr) (hSi : S ≠ it) (hSl : S ≠ l) (hS : s.heap.get? S = some { cls := .type "list", data := .seq #[] })
    (hR : ∀ (h' : Heap) (tk : Nat) (acc' : Array Value) (c' : Nat), (∀ b o, b ≠ S → b ≠ it → s.heap.get? b = some o → h'.get? b = some o) → h'.get? S = some { cls := .type "list", dict := none, data := .seq acc' c', slots := #[] } →
      ItemsOf (fun i v => items[items.size - 1 - i]? = some v) acc' items.size → R (.ok (.ret .none)) { s with heap := h', toks := tk }) :
    wpAny (model prog w) A.in1 (Builtin.«list.__init__» ⟨[.ref S, .ref it], []⟩)
      (fun fin s' => match fin with | .done f => R (.ok f) s' | .again c' => c'.quiet = true ∧ codeAny (model prog w) A c' R s') (fun e s' => R (.error e) s') s := by
  show wpAny _ _ (do let old ← Builtin.List.listItems (.ref S); Builtin.List.listUpdate (.ref S) (fun _ => #[]); letGo old.toList.reverse; Builtin.List.listExtendWith (.ref S) (.ref it) .none) _ _ s
  refine wpAny_bind ?_
  unfold Builtin.List.listItems
  refine wpAny_bind (wpAny_seqItems hS rfl (wpAny_pure ?_))
  show wpAny _ _ (updateSeq S (fun _ => #[]) >>= fun _ => letGo (#[] : Array Value).toList.reverse >>= fun _ => Builtin.List.listExtendWith (.ref S) (.ref it) .none) _ _ s
  refine wpAny_bind (wpAny_updateSeq hS rfl ?_)
  have hS₂ := Heap.get?_update_self (Obj.mapSeq (fun _ => (#[] : Array Value))) hS rfl
  have oth : ∀ b o, b ≠ S → s.heap.get? b = some o → (s.heap.update S (Obj.mapSeq (fun _ => (#[] : Array Value)))).get? b = some o :=
    fun b o hb e => (Heap.get?_update_other _ _ (Ne.symm hb)).trans e
  refine wpAny_bind (wpAny_letGo ?_)
  obtain ⟨ol, hol, r⟩ := id hl
  refine ext_rev (s := { s with heap := s.heap.update S (Obj.mapSeq (fun _ => (#[] : Array Value))) }) hh (hit.at fun o e => oth it o (Ne.symm hSi) e) ⟨ol, oth l ol (Ne.symm hSl) hol, r⟩ hne hn S hSi hSl .none _ hS₂ fun h' tk acc' c' hk hS' hacc => ?_
  exact hR h' tk acc' c' (fun b o hb hb2 e => hk b o hb hb2 (oth b o hb e)) hS' hacc
theorem call_list_rev {Q : Value → Shared → Prop} {it l : Addr} {items : Array Value} (hh : A.handled = none) (hit : s.heap.IsRevIter it l ((items.size : Int) - 1)) (hl : s.heap.IsList l items) (hne : l ≠ it) (hn : items.size ≤ sizeLine)
    (hQ : ∀ (h' : Heap) (tk : Nat) (acc' : Array Value) (c' : Nat), (∀ b o, b ≠ it → s.heap.get? b = some o → h'.get? b = some o) →
      h'.get? s.heap.objs.size = some { cls := .type "list", dict := none, data := .seq acc' c', slots := #[] } → ItemsOf (fun i v => items[items.size - 1 - i]? = some v) acc' items.size → Q (.ref s.heap.objs.size) { s with heap := h', toks := tk }) :
    wpAny (model prog w) A (call (.type "list") [.ref it]) Q E s := by
  refine callType_codes (Q₁ := fun obj s₁ => obj = .ref s.heap.objs.size ∧ s₁ = { s with heap := s.heap.push { cls := .type "list", data := .seq #[] } }) F.called_list (F.typeCall_list_1 _) F.entry_list_init
    (code_list_new _ ⟨rfl, rfl⟩) fun obj s₁ h₁ => ?_
  obtain ⟨rfl, rfl⟩ := h₁
  have hS : (s.heap.push { cls := .type "list", data := .seq #[] }).get? s.heap.objs.size = some { cls := .type "list", data := .seq #[] } := Heap.get?_push_size _ rfl
  obtain ⟨oi, hoi, _⟩ := id hit
  obtain ⟨ol, hol, _⟩ := id hl
  have hSi : s.heap.objs.size ≠ it := Nat.ne_of_gt (Heap.lt_size hoi)
  have hSl : s.heap.objs.size ≠ l := Nat.ne_of_gt (Heap.lt_size hol)
  refine ⟨⟨_, hS, rfl⟩, F.args_list_init_2 _ _, init_rev (s := { s with heap := s.heap.push { cls := .type "list", data := .seq #[] } }) (A := A.in1) hh (hit.at fun o e => Heap.get?_push_of_some _ e) (hl.push _) hne hn _ hSi hSl hS fun h' tk acc' c' hk hS' hacc => ?_⟩
  exact ⟨rfl, hQ h' tk acc' c' (fun b o hb e => hk b o (Nat.ne_of_lt (Heap.lt_size e)) hb (Heap.get?_push_of_some _ e)) hS' hacc⟩
end
/-- list(reversed(x)), x a list: a new list -/
def tLstRev (K : PySem.W.Frag) (te : TE) : TE := fun σ H Q => te σ H fun v H1 => ∃ (a : Addr) (xs : List V), v = .ref a ∧ SqL K H1 a xs ∧ ∀ q, H1 q = none → Q (.ref q) (upd H1 q (.lst xs.reverse))
theorem pe_lstRev {X : Cx} {e : Expr} {te : TE} {p p2 pos pos2 : Pos} (hc : X.calm = true) (hg : Gl X "list") (hm : X.mg "list" = none) (hg2 : Gl X "reversed") (hm2 : X.mg "reversed" = none) (he : PE X e te)
    (hs : starEach [e] X.env = (false, eval e X.env) :: starEach [] X.env := by rfl)
    (hs2 : starEach [.Call (.Name "reversed" p2) [e] [] pos2] X.env = (false, eval (.Call (.Name "reversed" p2) [e] [] pos2) X.env) :: starEach [] X.env := by rfl) :
    PE X (.Call (.Name "list" p) [.Call (.Name "reversed" p2) [e] [] pos2] [] pos) (tLstRev X.K te) := by
  refine ⟨fun pins s σ H Q I h => ?_⟩
  refine Call_ (ld_blt I hg hm boot_list (PyProof.Rows.callWith_type1 (args_cons (Call_ (ld_blt I hg2 hm2 PyProof.Rows.boot_reversed (PyProof.Rows.callWith_type1 (args_cons (thn (he.run pins s σ H _ I h) fun u s1 ⟨v, H1, I1, r1, q1⟩ => args_nil ?_) hs) hs rfl))) hs2) hs2 rfl))
  obtain ⟨a, xs, ev, hq, q⟩ := q1
  subst ev
  obtain rfl : u = Value.ref a := r1
  obtain ⟨its, rv, p', hz⟩ := I1.list hq
  refine call_reversed_list p'.isList (args_nil ?_)
  have k0 : ∀ b o, s1.heap.get? b = some o → (s1.heap.push (revObj a ((its.toArray.size : Int) - 1))).get? b = some o := fun b o e => Heap.get?_push_of_some _ e
  have I2 : Inv X pins σ H1 { s1 with heap := s1.heap.push (revObj a ((its.toArray.size : Int) - 1)) } := I1.kept (t' := s1.toks) k0
  obtain ⟨f0, f1, f2, f3, f4, f5⟩ := I1.fpOk (H' := H1) (b := s1.heap.objs.size) (Nat.le_refl _) (I1.hok.fresh (Nat.le_refl _))
  have hl := p'.isList
  obtain ⟨ol, hol, _⟩ := id hl
  have hne : a ≠ s1.heap.objs.size := Nat.ne_of_lt (Heap.lt_size hol)
  have hn : its.toArray.size ≤ sizeLine := by rw [List.size_toArray, ← rv.length]; exact hz
  have hnew : (s1.heap.push (revObj a ((its.toArray.size : Int) - 1))).objs.size = s1.heap.objs.size + 1 := by simp [Heap.push]
  have hfr : s1.heap.objs.size ≤ (s1.heap.push (revObj a ((its.toArray.size : Int) - 1))).objs.size := by rw [hnew]; exact Nat.le_succ _
  refine call_list_rev (s := { s1 with heap := s1.heap.push (revObj a ((its.toArray.size : Int) - 1)) }) (I1.ok.hd hc) ⟨_, Heap.get?_push_size _ rfl, rfl, rfl⟩ (hl.push _) hne hn fun h' tk acc c' hk hS' hi => ?_
  have h9 : Inv X pins σ (upd H1 (s1.heap.push (revObj a ((its.toArray.size : Int) - 1))).objs.size (.lst xs.reverse)) { s1 with heap := h', toks := tk } :=
    I2.turnedNew (t' := tk) (ch := [s1.heap.objs.size]) (fun b o hb e => hk b o (fun z => hb (by simp [z])) e) (fun b hb => by
      have e : b = s1.heap.objs.size := by simpa using hb
      subst e
      exact ⟨f0, f1, f2, f3, f4, f5⟩) (Nat.le_refl _) (show ObjOk X.prog X.w _ _ _ (.lst xs.reverse) from ⟨by rw [List.length_reverse]; exact hz, acc.toList, c', RT.vals_rev rv hi, by rw [Array.toArray_toList]; exact hS'⟩)
  exact ⟨.ref (s1.heap.push (revObj a ((its.toArray.size : Int) - 1))).objs.size, _, h9, rfl, q _ (I2.hok.fresh (Nat.le_refl _))⟩
section
variable {X : Cx} {F0 : Hp} {Γ : Gm} {L : Lg} {k : D → Lg → Prop} {e : Expr} {pos p p2 pos2 : Pos}
theorem AsL.sq {K : PySem.W.Frag} {F H : Hp} {L : Lg} {x : D} {ds : List D} {v : V} (a : AsL L x ds) (l : Led K F L H) (r : Rep K F x v) : ∃ p xs, v = .ref p ∧ SqL K H p xs ∧ Reps K F ds xs := a.read l r
/-- list(reversed(xs)), the new list to be changed -/
theorem ek_revO (hc : X.calm = true) (hm : X.mg "list" = none) (hg : Gl X "list") (hm2 : X.mg "reversed" = none) (hg2 : Gl X "reversed") (h : EvK X F0 e Γ L fun x L1 => ∃ ds, AsL L1 x ds ∧ ∀ p, k (.ref p) ((p, .lst ds.reverse) :: L1))
    (hs : starEach [e] X.env = (false, eval e X.env) :: starEach [] X.env := by rfl)
    (hs2 : starEach [.Call (.Name "reversed" p2) [e] [] pos2] X.env = (false, eval (.Call (.Name "reversed" p2) [e] [] pos2) X.env) :: starEach [] X.env := by rfl) : EvK X F0 (.Call (.Name "list" p) [.Call (.Name "reversed" p2) [e] [] pos2] [] pos) Γ L k := fun F σ H Q E q =>
  wpE.of (pe_lstRev hc hg hm hg2 hm2 we hs hs2) (h F σ H _ E fun x L1 F1 v H1 ⟨ds, a, h1⟩ E1 s1 r1 => by
    obtain ⟨p, xs, rfl, hx, rx⟩ := a.read E1.led r1
    exact ⟨p, xs, rfl, hx, fun n hn => q _ _ F1 _ _ (h1 n) ⟨E1.ge, E1.led.newL hn rx.rev, E1.sl⟩ s1 .ref⟩)
end
end Vs

set_option Elab.async false
set_option linter.all false
set_option maxRecDepth 100000
set_option maxHeartbeats 4000000
namespace Vs
open PySem PySem.Spec PyProof.Rows L2
/-! ### tuples -/
section
variable {X : Cx} {F0 : Hp} {Γ : Gm} {L : Lg} {k : D → Lg → Prop} {e a b : Expr} {lo hi : Option Expr} {pos p p2 p3 : Pos}
/-- tuple(xs) -/
theorem ek_tupOf (hm : X.mg "tuple" = none) (hg : Gl X "tuple") (h : EvK X F0 e Γ L fun x L1 => ∃ ds, (AsL L1 x ds ∨ x = .tup ds) ∧ k (.tup ds) L1)
    (na : starEach [e] X.env = (false, eval e X.env) :: starEach [] X.env := by rfl) : EvK X F0 (.Call (.Name "tuple" p) [e] [] pos) Γ L k := fun F σ H Q E q =>
  wpE.of (pe_tupleOf hg hm we na) (h F σ H _ E fun x L1 F1 v H1 ⟨ds, a, h1⟩ E1 s1 r1 => by
    rcases a with a | rfl
    · obtain ⟨p, xs, rfl, hx, rx⟩ := a.read E1.led r1
      refine .inl ⟨p, xs, rfl, hx, fun n hn => ?_⟩
      have s2 : Same F1 (upd F1 n (.tup xs)) := same_new (E1.led.free hn)
      exact q _ L1 _ _ _ h1 (E1.new hn) (s1.trans s2) (.tup (.inl (.inl upd_same)) (rx.mono s2))
    · cases r1 with
      | tup hx rx => exact .inr ⟨_, _, rfl, seqT E1.led.sub hx, q _ L1 F1 _ H1 h1 E1 s1 (.tup hx rx)⟩)
/-- s + t, tuples -/
theorem ek_catT (h : EvK X F0 a Γ L fun x L1 => EvK X F0 b Γ L1 fun y L2 => ∃ ds es, x = .tup ds ∧ y = .tup es ∧ ds.length + es.length ≤ sizeLine ∧ k (.tup (ds ++ es)) L2) : EvK X F0 (.BinOp a .Add b pos) Γ L k := fun F σ H Q E q =>
  wpE.of (pe_op op_catA we we) (h F σ H _ E fun x L1 F1 v H1 h1 E1 s1 r1 => h1 F1 σ H1 _ E1 fun y L2 F2 u H2 ⟨ds, es, e1, e2, hz, h2⟩ E2 s2 r2 => by
    subst e1 e2
    have r1' := r1.mono s2
    cases r1' with
    | tup hx rx =>
      cases r2 with
      | tup hy ry =>
        refine ⟨_, _, _, _, rfl, rfl, seqT E2.led.sub hx, seqT E2.led.sub hy, by rw [← rx.length, ← ry.length]; exact hz, fun z => ?_, fun _ z => ?_, fun _ _ n hn => ?_⟩
        · subst z
          cases rx
          exact q _ L2 F2 _ H2 h2 E2 (s1.trans s2) (.tup hy ry)
        · subst z
          cases ry
          rw [List.append_nil] at h2
          exact q _ L2 F2 _ H2 h2 E2 (s1.trans s2) (.tup hx rx)
        · exact q _ L2 _ _ _ h2 (E2.new hn) (s1.trans (s2.trans (same_new (E2.led.free hn)))) (.tup (.inl (.inl upd_same)) ((rx.append ry).mono (same_new (E2.led.free hn)))))
theorem cut_all {xs : List D} {lo hi : Option Int} (h : HT.sIx xs.length 0 lo = 0 ∧ HT.sIx xs.length xs.length hi = xs.length) : cutD xs lo hi = xs := by
  unfold cutD
  rw [h.1, h.2, List.drop_zero, Nat.sub_zero, List.take_of_length_le (Nat.le_refl _)]
/-- t[i:j], a tuple -/
theorem ek_slT (h : EvK X F0 a Γ L fun x L1 => EoK X F0 lo Γ L1 fun i L2 => EoK X F0 hi Γ L2 fun j L3 => ∃ ds, x = .tup ds ∧ k (.tup (cutD ds i j)) L3) : EvK X F0 (.Subscript a (.Slice lo hi none p2) pos) Γ L k := fun F σ H Q E q =>
  wpE.of (pe_slice sl_tupA we wo wo) (h F σ H _ E fun x L1 F1 v H1 h1 E1 s1 r1 => h1 F1 σ H1 _ E1 fun i L2 F2 H2 h2 E2 s2 => h2 F2 σ H2 _ E2 fun j L3 F3 H3 ⟨ds, e1, h3⟩ E3 s3 => by
    subst e1
    have r1' := r1.mono (s2.trans s3)
    cases r1' with
    | tup hx rx =>
      refine ⟨_, _, rfl, seqT E3.led.sub hx, fun z => ?_, fun z n hn => ?_⟩
      · rw [← rx.length] at z
        rw [cut_all z] at h3
        exact q _ L3 F3 _ H3 h3 E3 (s1.trans (s2.trans s3)) (.tup hx rx)
      · exact q _ L3 _ _ _ h3 (E3.new hn) (s1.trans (s2.trans (s3.trans (same_new (E3.led.free hn))))) (.tup (.inl (.inl upd_same)) (rx.cut.mono (same_new (E3.led.free hn)))))
theorem rgV_reps {K : PySem.W.Frag} {F : Hp} {a b : Int} : Reps K F (rangeD a (b - a).toNat) (rgV a b) := by
  unfold rangeD rgV
  generalize (b - a).toNat = n
  have g : ∀ l : List Nat, Reps K F (l.map fun (i : Nat) => D.int (a + (i : Int))) (l.map fun (i : Nat) => V.int (a + (i : Nat))) := fun l => by
    induction l with
    | nil => exact .nil
    | cons x l ih => exact .cons .int ih
  exact g _
/-- list(range(a, b)) -/
theorem ek_listR2 (hc : X.calm = true) (hm : X.mg "list" = none) (hg : Gl X "list") (hm2 : X.mg "range" = none) (hg2 : Gl X "range") (h : EvK X F0 a Γ L fun x L1 => ∃ i, x = .int i ∧ EvK X F0 b Γ L1 fun y L2 => ∃ j, y = .int j ∧ RgOk i j ∧ k (.lst (rangeD i (j - i).toNat)) L2)
    (na : starEach [.Call (.Name "range" p2) [a, b] [] p3] X.env = (false, eval (.Call (.Name "range" p2) [a, b] [] p3) X.env) :: starEach [] X.env := by rfl)
    (na2 : starEach [a, b] X.env = (false, eval a X.env) :: starEach [b] X.env := by rfl) (nb : starEach [b] X.env = (false, eval b X.env) :: starEach [] X.env := by rfl) (hp : (backTo p3 (starEach [b] X.env)).any (·.1) = false := by rfl) :
    EvK X F0 (.Call (.Name "list" p) [.Call (.Name "range" p2) [a, b] [] p3] [] pos) Γ L k := fun F σ H Q E q =>
  wpE.of (pe_listRg hc hg hm (prg_2 hg2 hm2 we we na2 nb hp) na) (h F σ H _ E fun x L1 F1 v H1 ⟨i, e1, h1⟩ E1 s1 r1 => h1 F1 σ H1 _ E1 fun y L2 F2 u H2 ⟨j, e2, hr, h2⟩ E2 s2 r2 => by
    subst e1 e2
    cases r1
    cases r2
    refine ⟨i, j, rfl, rfl, hr, fun n hn => ?_⟩
    exact q _ L2 _ _ _ h2 (E2.new hn) (s1.trans (s2.trans (same_new (E2.led.free hn)))) (.lst (.inl (.inl upd_same)) rgV_reps))
theorem ek_listR1 (hc : X.calm = true) (hm : X.mg "list" = none) (hg : Gl X "list") (hm2 : X.mg "range" = none) (hg2 : Gl X "range") (h : EvK X F0 b Γ L fun y L2 => ∃ j, y = .int j ∧ RgOk 0 j ∧ k (.lst (rangeD 0 j.toNat)) L2)
    (na : starEach [.Call (.Name "range" p2) [b] [] p3] X.env = (false, eval (.Call (.Name "range" p2) [b] [] p3) X.env) :: starEach [] X.env := by rfl)
    (nb : starEach [b] X.env = (false, eval b X.env) :: starEach [] X.env := by rfl) :
    EvK X F0 (.Call (.Name "list" p) [.Call (.Name "range" p2) [b] [] p3] [] pos) Γ L k := fun F σ H Q E q =>
  wpE.of (pe_listRg hc hg hm (prg_1 hg2 hm2 we nb) na) (h F σ H _ E fun y L2 F2 u H2 ⟨j, e2, hr, h2⟩ E2 s2 r2 => by
    subst e2
    cases r2
    refine ⟨j, rfl, hr, fun n hn => ?_⟩
    have h3 : k (.lst (rangeD 0 (j - 0).toNat)) L2 := by rw [Int.sub_zero]; exact h2
    exact q _ L2 _ _ _ h3 (E2.new hn) (s2.trans (same_new (E2.led.free hn))) (.lst (.inl (.inl upd_same)) rgV_reps))
end
end Vs

set_option Elab.async false
set_option linter.all false
set_option maxRecDepth 100000
set_option maxHeartbeats 4000000
namespace Vs
open PySem PySem.Spec PyProof.Rows L2
/-! ### ranges as values, x in .. -/
section
variable {X : Cx} {F0 : Hp} {Γ : Gm} {L : Lg} {k : D → Lg → Prop} {kt : Bool → Lg → Prop} {e a b c o : Expr} {es rest : List Expr} {pos p2 apos cpos : Pos}
theorem ek_rng2 {p : Pos} (hm : X.mg "range" = none) (hg : Gl X "range") (h : EvK X F0 a Γ L fun x L1 => ∃ i, x = .int i ∧ EvK X F0 b Γ L1 fun y L2 => ∃ j, y = .int j ∧ k (.rng i j) L2)
    (he : starEach [a, b] X.env = (false, eval a X.env) :: starEach [b] X.env := by rfl) (he2 : starEach [b] X.env = (false, eval b X.env) :: starEach [] X.env := by rfl) (hpl : (backTo pos (starEach [b] X.env)).any (·.1) = false := by rfl) :
    EvK X F0 (.Call (.Name "range" p) [a, b] [] pos) Γ L k := fun F σ H Q E q =>
  wpE.of (pe_callTy cr_range2 hg hm (by decide +kernel) (pa_cons we (pa_cons we pa_nil he2) he) (by decide) (by decide) he hpl) (h F σ H _ E fun x L1 F1 v H1 ⟨i, e1, h1⟩ E1 s1 r1 => h1 F1 σ H1 _ E1 fun y L2 F2 u H2 ⟨j, e2, h2⟩ E2 s2 r2 => by
    subst e1 e2
    cases r1
    cases r2
    exact ⟨i, j, rfl, fun p hp => q _ L2 _ _ _ h2 (E2.new hp) (s1.trans (s2.trans (same_new (E2.led.free hp)))) (.rng upd_same)⟩)
theorem op_notin_rng : OpR X (compareOp .NotIn) (fun x y H Q => ∃ i a lo hi, x = V.int i ∧ y = V.ref a ∧ H a = some (.rng lo hi) ∧ Q (.bl (!decide (lo ≤ i ∧ i < hi))) H) := by
  intro pins s σ H x y v u Q I rx ry h
  obtain ⟨i, a, lo, hi, rfl, rfl, ha, q⟩ := h
  obtain ⟨k, rfl⟩ := rx
  obtain rfl : u = Value.ref a := ry
  obtain ⟨t1, t2, t3, ho⟩ := I.hok a _ ha
  show wpAny _ _ (do return Value.bool (!(← contains (Value.ref a) (Value.int i k)))) _ _ s
  refine wpAny_bind (wpAny_contains_slot (T := "range") ⟨_, ho, rfl⟩ PySem.F.slot_range_contains (call_meets PySem.F.slot_range_contains ⟨_, ho, rfl⟩ PySem.F.entry_range_contains (PySem.F.args_range_contains_2 _ _) (q_contains a lo hi i t1 t2 t3 k)
    ⟨ho, wpAny_truthy_bool (wpAny_pure ⟨.bl _, H, I, rfl, ?_⟩)⟩))
  rw [place1]
  exact q
theorem rd_rng {op : CmpOp} {g : Bool → Bool} (h : EvK X F0 a Γ L fun x L1 => ∃ i, x = .int i ∧ EvK X F0 b Γ L1 fun y L2 => ∃ lo hi, y = .rng lo hi ∧ k (.bl (g (decide (lo ≤ i ∧ i < hi)))) L2) :
    RdK X F0 (tOp (fun x y H Q => ∃ i a lo hi, x = V.int i ∧ y = V.ref a ∧ H a = some (.rng lo hi) ∧ Q (.bl (g (decide (lo ≤ i ∧ i < hi)))) H) (wpE X a) (wpE X b)) Γ L k := fun F σ H Q E q =>
  h F σ H _ E fun x L1 F1 v H1 ⟨i, e1, h1⟩ E1 s1 r1 => h1 F1 σ H1 _ E1 fun y L2 F2 u H2 ⟨lo, hi, e2, h2⟩ E2 s2 r2 => by
    subst e1 e2
    cases r1
    cases r2 with
    | rng hr => exact ⟨i, _, lo, hi, rfl, rfl, E2.led.sub _ _ hr, q _ L2 F2 _ H2 h2 E2 (s1.trans s2) .bl⟩
theorem ek_inR (h : EvK X F0 a Γ L fun x L1 => ∃ i, x = .int i ∧ EvK X F0 b Γ L1 fun y L2 => ∃ lo hi, y = .rng lo hi ∧ k (.bl (decide (lo ≤ i ∧ i < hi))) L2) (hm : behindInMarks .In b = false := by rfl) : EvK X F0 (.Compare a [.In] [b] pos) Γ L k := (rd_rng (op := .In) (g := id) h).ev (pe_cmpR op_in_rng we we hm)
theorem ek_notinR (h : EvK X F0 a Γ L fun x L1 => ∃ i, x = .int i ∧ EvK X F0 b Γ L1 fun y L2 => ∃ lo hi, y = .rng lo hi ∧ k (.bl (!decide (lo ≤ i ∧ i < hi))) L2) (hm : behindInMarks .NotIn b = false := by rfl) : EvK X F0 (.Compare a [.NotIn] [b] pos) Γ L k := (rd_rng (op := .NotIn) (g := (!·)) h).ev (pe_cmpR op_notin_rng we we hm)
/-- a test is the value's -/
theorem evk_mono {k k' : D → Lg → Prop} (h : EvK X F0 e Γ L k) (hk : ∀ d L', k d L' → k' d L') : EvK X F0 e Γ L k' := fun F σ H Q E q => h F σ H Q E fun d L' F' v H' h1 => q d L' F' v H' (hk d L' h1)
theorem et_inR (h : EvK X F0 a Γ L fun x L1 => ∃ i, x = .int i ∧ EvK X F0 b Γ L1 fun y L2 => ∃ lo hi, y = .rng lo hi ∧ ∃ t, D.bl (decide (lo ≤ i ∧ i < hi)) = .bl t ∧ kt t L2) (hm : behindInMarks .In b = false := by rfl) : EtK X F0 (.Compare a [.In] [b] pos) Γ L kt := (rd_rng (op := .In) (g := id) (k := fun d L2 => ∃ t, d = .bl t ∧ kt t L2) h).tst (pt_cmpR op_in_rng we we hm)
theorem et_notinR (h : EvK X F0 a Γ L fun x L1 => ∃ i, x = .int i ∧ EvK X F0 b Γ L1 fun y L2 => ∃ lo hi, y = .rng lo hi ∧ ∃ t, D.bl (!decide (lo ≤ i ∧ i < hi)) = .bl t ∧ kt t L2) (hm : behindInMarks .NotIn b = false := by rfl) : EtK X F0 (.Compare a [.NotIn] [b] pos) Γ L kt := (rd_rng (op := .NotIn) (g := (!·)) (k := fun d L2 => ∃ t, d = .bl t ∧ kt t L2) h).tst (pt_cmpR op_notin_rng we we hm)
/-! x in xs, numbers -/
theorem inV_ints {i : Int} : ∀ {ns : List Int}, inV (.int i) (ns.map V.int) = decide (i ∈ ns)
  | [] => by simp [inV]
  | n :: ns => by
    have ih := inV_ints (i := i) (ns := ns)
    unfold inV at ih ⊢
    rw [List.map_cons, List.any_cons, ih]
    show ((n == i) || decide (i ∈ ns)) = decide (i ∈ n :: ns)
    by_cases h : n = i
    · subst h; simp
    · have h2 : ¬ i = n := fun z => h z.symm
      simp [h, h2]
theorem flat_ints : ∀ {ns : List Int}, (ns.map V.int).all flatV = true
  | [] => rfl
  | n :: ns => by rw [List.map_cons, List.all_cons, flat_ints]; rfl
/-- a list or a tuple -/
def AsS (L : Lg) (x : D) (ds : List D) : Prop := AsL L x ds ∨ x = .tup ds
theorem AsS.read {K : PySem.W.Frag} {F H : Hp} {L : Lg} {x : D} {v : V} {ds : List D} (a : AsS L x ds) (l : Led K F L H) (r : Rep K F x v) : ∃ p xs, v = .ref p ∧ (SqL K H p xs ∨ SqT K H p xs) ∧ Reps K F ds xs := by
  rcases a with a | rfl
  · obtain ⟨p, xs, h1, h2, h3⟩ := a.read l r
    exact ⟨p, xs, h1, .inl h2, h3⟩
  · cases r with
    | tup hx rx => exact ⟨_, _, rfl, .inr (seqT l.sub hx), rx⟩
theorem rd_inI {neg : Bool} (h : EvK X F0 a Γ L fun x L1 => ∃ i, x = .int i ∧ EvK X F0 b Γ L1 fun y L2 => ∃ ns, AsS L2 y (dI ns) ∧ k (.bl (if neg then !decide (i ∈ ns) else decide (i ∈ ns))) L2) : RdK X F0 (tOp (rIn X.K neg) (wpE X a) (wpE X b)) Γ L k := fun F σ H Q E q =>
  h F σ H _ E fun x L1 F1 v H1 ⟨i, e1, h1⟩ E1 s1 r1 => h1 F1 σ H1 _ E1 fun y L2 F2 u H2 ⟨ns, as, h2⟩ E2 s2 r2 => by
    subst e1
    cases r1
    obtain ⟨p, xs, rfl, hx, rx⟩ := as.read E2.led r2
    have e := il_reps rx
    subst e
    refine ⟨p, _, rfl, hx, rfl, flat_ints, ?_⟩
    rw [inV_ints]
    exact q _ L2 F2 _ H2 h2 E2 (s1.trans s2) .bl
theorem ek_inI (h : EvK X F0 a Γ L fun x L1 => ∃ i, x = .int i ∧ EvK X F0 b Γ L1 fun y L2 => ∃ ns, AsS L2 y (dI ns) ∧ k (.bl (decide (i ∈ ns))) L2) (hm : behindInMarks .In b = false := by rfl) : EvK X F0 (.Compare a [.In] [b] pos) Γ L k := (rd_inI (neg := false) h).ev (pe_cmpR op_in_seq we we hm)
theorem ek_notinI (h : EvK X F0 a Γ L fun x L1 => ∃ i, x = .int i ∧ EvK X F0 b Γ L1 fun y L2 => ∃ ns, AsS L2 y (dI ns) ∧ k (.bl (!decide (i ∈ ns))) L2) (hm : behindInMarks .NotIn b = false := by rfl) : EvK X F0 (.Compare a [.NotIn] [b] pos) Γ L k := (rd_inI (neg := true) h).ev (pe_cmpR op_notIn_seq we we hm)
theorem et_inI (h : EvK X F0 a Γ L fun x L1 => ∃ i, x = .int i ∧ EvK X F0 b Γ L1 fun y L2 => ∃ ns, AsS L2 y (dI ns) ∧ ∃ t, D.bl (decide (i ∈ ns)) = .bl t ∧ kt t L2) (hm : behindInMarks .In b = false := by rfl) : EtK X F0 (.Compare a [.In] [b] pos) Γ L kt := (rd_inI (neg := false) (k := fun d L2 => ∃ t, d = .bl t ∧ kt t L2) h).tst (pt_cmpR op_in_seq we we hm)
theorem et_notinI (h : EvK X F0 a Γ L fun x L1 => ∃ i, x = .int i ∧ EvK X F0 b Γ L1 fun y L2 => ∃ ns, AsS L2 y (dI ns) ∧ ∃ t, D.bl (!decide (i ∈ ns)) = .bl t ∧ kt t L2) (hm : behindInMarks .NotIn b = false := by rfl) : EtK X F0 (.Compare a [.NotIn] [b] pos) Γ L kt := (rd_inI (neg := true) (k := fun d L2 => ∃ t, d = .bl t ∧ kt t L2) h).tst (pt_cmpR op_notIn_seq we we hm)
/-- x in xs, data of any depth -/
theorem rd_inD (h : EvK X F0 a Γ L fun x L1 => EvK X F0 b Γ L1 fun y L2 => ∃ d ds, Dpd L2 x d ∧ Dpd L2 y (.list ds) ∧ SeqAt.shaped d = true ∧ SeqAt.shaped (.list ds) = true ∧ k (.bl (ds.any fun z => PyData.eqv z d)) L2) : RdK X F0 (tOp (rInD X.K) (wpE X a) (wpE X b)) Γ L k := fun F σ H Q E q =>
  h F σ H _ E fun x L1 F1 v H1 h1 E1 s1 r1 => h1 F1 σ H1 _ E1 fun y L2 F2 u H2 ⟨d, ds, d1, d2, z1, z2, h2⟩ E2 s2 r2 =>
    ⟨d, ds, d1.dp E2.led (r1.mono s2), d2.dp E2.led r2, z1, z2, q _ L2 F2 _ H2 h2 E2 (s1.trans s2) .bl⟩
theorem rd_notinD (h : EvK X F0 a Γ L fun x L1 => EvK X F0 b Γ L1 fun y L2 => ∃ d ds, Dpd L2 x d ∧ Dpd L2 y (.list ds) ∧ SeqAt.shaped d = true ∧ SeqAt.shaped (.list ds) = true ∧ k (.bl (!ds.any fun z => PyData.eqv z d)) L2) : RdK X F0 (tOp (rNotInD X.K) (wpE X a) (wpE X b)) Γ L k := fun F σ H Q E q =>
  h F σ H _ E fun x L1 F1 v H1 h1 E1 s1 r1 => h1 F1 σ H1 _ E1 fun y L2 F2 u H2 ⟨d, ds, d1, d2, z1, z2, h2⟩ E2 s2 r2 =>
    ⟨d, ds, d1.dp E2.led (r1.mono s2), d2.dp E2.led r2, z1, z2, q _ L2 F2 _ H2 h2 E2 (s1.trans s2) .bl⟩
theorem ek_inD (hu : X.A.units + 65 < cLine) (h : EvK X F0 a Γ L fun x L1 => EvK X F0 b Γ L1 fun y L2 => ∃ d ds, Dpd L2 x d ∧ Dpd L2 y (.list ds) ∧ SeqAt.shaped d = true ∧ SeqAt.shaped (.list ds) = true ∧ k (.bl (ds.any fun z => PyData.eqv z d)) L2) (hm : behindInMarks .In b = false := by rfl) : EvK X F0 (.Compare a [.In] [b] pos) Γ L k := (rd_inD h).ev (pe_cmpR (op_inD hu) we we hm)
theorem ek_notinD (hu : X.A.units + 65 < cLine) (h : EvK X F0 a Γ L fun x L1 => EvK X F0 b Γ L1 fun y L2 => ∃ d ds, Dpd L2 x d ∧ Dpd L2 y (.list ds) ∧ SeqAt.shaped d = true ∧ SeqAt.shaped (.list ds) = true ∧ k (.bl (!ds.any fun z => PyData.eqv z d)) L2) (hm : behindInMarks .NotIn b = false := by rfl) : EvK X F0 (.Compare a [.NotIn] [b] pos) Γ L k := (rd_notinD h).ev (pe_cmpR (op_notInD hu) we we hm)
theorem et_inD (hu : X.A.units + 65 < cLine) (h : EvK X F0 a Γ L fun x L1 => EvK X F0 b Γ L1 fun y L2 => ∃ d ds, Dpd L2 x d ∧ Dpd L2 y (.list ds) ∧ SeqAt.shaped d = true ∧ SeqAt.shaped (.list ds) = true ∧ ∃ t, D.bl (ds.any fun z => PyData.eqv z d) = .bl t ∧ kt t L2) (hm : behindInMarks .In b = false := by rfl) : EtK X F0 (.Compare a [.In] [b] pos) Γ L kt := (rd_inD (k := fun d L2 => ∃ t, d = .bl t ∧ kt t L2) h).tst (pt_cmpR (op_inD hu) we we hm)
theorem et_notinD (hu : X.A.units + 65 < cLine) (h : EvK X F0 a Γ L fun x L1 => EvK X F0 b Γ L1 fun y L2 => ∃ d ds, Dpd L2 x d ∧ Dpd L2 y (.list ds) ∧ SeqAt.shaped d = true ∧ SeqAt.shaped (.list ds) = true ∧ ∃ t, D.bl (!ds.any fun z => PyData.eqv z d) = .bl t ∧ kt t L2) (hm : behindInMarks .NotIn b = false := by rfl) : EtK X F0 (.Compare a [.NotIn] [b] pos) Γ L kt := (rd_notinD (k := fun d L2 => ∃ t, d = .bl t ∧ kt t L2) h).tst (pt_cmpR (op_notInD hu) we we hm)
/-! min, max of a list of numbers -/
def minI (ns : List Int) : Int := ns.min?.getD 0
def maxI (ns : List Int) : Int := ns.max?.getD 0
theorem minI_at {ns : List Int} {m : Int} (h : m ∈ ns) (h2 : ∀ y ∈ ns, m ≤ y) : minI ns = m := by
  unfold minI
  rw [List.min?_eq_some_iff.mpr ⟨h, h2⟩]
  rfl
theorem maxI_at {ns : List Int} {m : Int} (h : m ∈ ns) (h2 : ∀ y ∈ ns, y ≤ m) : maxI ns = m := by
  unfold maxI
  rw [List.max?_eq_some_iff.mpr ⟨h, h2⟩]
  rfl
theorem minI_ok {ns : List Int} (h : 0 < ns.length) : minI ns ∈ ns ∧ ∀ y ∈ ns, minI ns ≤ y := by
  cases e : ns.min? with
  | none => rw [List.min?_eq_none_iff] at e; subst e; exact absurd h (Nat.lt_irrefl _)
  | some m =>
    have e2 : minI ns = m := by unfold minI; rw [e]; rfl
    rw [e2]
    exact List.min?_eq_some_iff.mp e
theorem maxI_ok {ns : List Int} (h : 0 < ns.length) : maxI ns ∈ ns ∧ ∀ y ∈ ns, y ≤ maxI ns := by
  cases e : ns.max? with
  | none => rw [List.max?_eq_none_iff] at e; subst e; exact absurd h (Nat.lt_irrefl _)
  | some m =>
    have e2 : maxI ns = m := by unfold maxI; rw [e]; rfl
    rw [e2]
    exact List.max?_eq_some_iff.mp e
theorem ek_minL {p : Pos} (hc : X.calm = true) (hm : X.mg "min" = none) (hg : Gl X "min") (h : EvK X F0 e Γ L fun x L1 => ∃ ns : List Int, AsL L1 x (dI ns) ∧ 0 < ns.length ∧ k (.int (minI ns)) L1)
    (he : starEach [e] X.env = (false, eval e X.env) :: starEach [] X.env := by rfl) (hpl : (backTo pos (starEach [] X.env)).any (·.1) = false := by rfl) : EvK X F0 (.Call (.Name "min" p) [e] [] pos) Γ L k := fun F σ H Q E q =>
  wpE.of (pe_callB (cr_min hc) hg hm (by decide +kernel) (pa_cons we pa_nil he) (by decide) (by decide) he hpl) (h F σ H _ E fun x L1 F1 v H1 ⟨ns, a, hl, h1⟩ E1 s1 r1 => by
    obtain ⟨p, xs, rfl, hx, rx⟩ := a.read E1.led r1
    have e := il_reps rx
    subst e
    exact ⟨p, ns, rfl, hx, hl, fun m m1 m2 => by rw [minI_at m1 m2] at h1; exact q _ L1 F1 _ H1 h1 E1 s1 .int⟩)
theorem ek_maxL {p : Pos} (hc : X.calm = true) (hm : X.mg "max" = none) (hg : Gl X "max") (h : EvK X F0 e Γ L fun x L1 => ∃ ns : List Int, AsL L1 x (dI ns) ∧ 0 < ns.length ∧ k (.int (maxI ns)) L1)
    (he : starEach [e] X.env = (false, eval e X.env) :: starEach [] X.env := by rfl) (hpl : (backTo pos (starEach [] X.env)).any (·.1) = false := by rfl) : EvK X F0 (.Call (.Name "max" p) [e] [] pos) Γ L k := fun F σ H Q E q =>
  wpE.of (pe_callB (cr_max hc) hg hm (by decide +kernel) (pa_cons we pa_nil he) (by decide) (by decide) he hpl) (h F σ H _ E fun x L1 F1 v H1 ⟨ns, a, hl, h1⟩ E1 s1 r1 => by
    obtain ⟨p, xs, rfl, hx, rx⟩ := a.read E1.led r1
    have e := il_reps rx
    subst e
    exact ⟨p, ns, rfl, hx, hl, fun m m1 m2 => by rw [maxI_at m1 m2] at h1; exact q _ L1 F1 _ H1 h1 E1 s1 .int⟩)
end
/-! ### xs.extend, xs.clear, xs.pop -/
theorem q_extendL (l : Addr) (items : Array Value) (n : Nat) (b : Addr) (items2 : Array Value) (n2 : Nat) (dd2 : Option Addr) (sl2 : Array (Option Value)) (hc0 : ¬(!items.isEmpty && Builtin.List.listTooLong (items.size + items2.size)) = true) (hc1 : items.size ≤ sizeLine) (hs2 : items.size + items2.size ≤ sizeLine + 1) :
    Meets (Builtin.«list.extend» ⟨[.ref l, .ref b], []⟩) (fun _ R s => s.heap.get? l = some { cls := .type "list", dict := none, data := .seq items n, slots := #[] } ∧ s.heap.get? b = some { cls := .type "list", dict := dd2, data := .seq items2 n2, slots := sl2 } ∧ R (.ok (.ret Value.none)) { s with heap := s.heap.update l (Obj.mapSeq fun x => x ++ items2), toks := s.toks }) :=
  .of_wp fun prog w A R s h => by
    obtain ⟨hp, g, d, tk, os⟩ := s; obtain ⟨hl, hb, h⟩ := h; have f1 := AutoSeq1.idx_int; have f2 := AutoSeq1.sub_tuple_tuple; have f3 := AutoSeq1.sub_list_list; have f4 := AutoSeq1.sub_tuple_list; have f5 := AutoSeq1.sub_list_tuple;
    have hz' : (items ++ items2).size ≤ sizeLine + 1 := by rw [Array.size_append]; exact hs2
    wp_walk using (wpAny_updateSeq hl rfl (hz := hc1) (_hz' := hz')), wpAny_loadPart' hl, wpAny_loadPart' hb; exact ⟨_, rfl, h⟩
theorem q_extendT (l : Addr) (items : Array Value) (n : Nat) (b : Addr) (items2 : Array Value) (n2 : Nat) (dd2 : Option Addr) (sl2 : Array (Option Value)) (hc0 : ¬(!items.isEmpty && Builtin.List.listTooLong (items.size + items2.size)) = true) (hc1 : items.size ≤ sizeLine) (hs2 : items.size + items2.size ≤ sizeLine + 1) :
    Meets (Builtin.«list.extend» ⟨[.ref l, .ref b], []⟩) (fun _ R s => s.heap.get? l = some { cls := .type "list", dict := none, data := .seq items n, slots := #[] } ∧ s.heap.get? b = some { cls := .type "tuple", dict := dd2, data := .seq items2 n2, slots := sl2 } ∧ R (.ok (.ret Value.none)) { s with heap := s.heap.update l (Obj.mapSeq fun x => x ++ items2), toks := s.toks }) :=
  .of_wp fun prog w A R s h => by
    obtain ⟨hp, g, d, tk, os⟩ := s; obtain ⟨hl, hb, h⟩ := h; have f1 := AutoSeq1.idx_int; have f2 := AutoSeq1.sub_tuple_tuple; have f3 := AutoSeq1.sub_list_list; have f4 := AutoSeq1.sub_tuple_list; have f5 := AutoSeq1.sub_list_tuple;
    have hz' : (items ++ items2).size ≤ sizeLine + 1 := by rw [Array.size_append]; exact hs2
    wp_walk using (wpAny_updateSeq hl rfl (hz := hc1) (_hz' := hz')), wpAny_loadPart' hl, wpAny_loadPart' hb; exact ⟨_, rfl, h⟩
def rExtQ (K : PySem.W.Frag) : V → List V → Hp → VK → Prop := fun x vs H Q => ∃ l b xs zs, x = .ref l ∧ vs = [.ref b] ∧ H l = some (.lst xs) ∧ (SqL K H b zs ∨ SqT K H b zs) ∧ xs.length + zs.length ≤ sizeLine ∧ Q .non (upd H l (.lst (xs ++ zs)))
theorem mt_extendQ {X : Cx} : MtM X "list.extend" (rExtQ X.K) := by
  intro pins s σ H x vs v us Q I rx rv h
  obtain ⟨l, b, xs, zs, rfl, rfl, hH, hB, hz, q⟩ := h
  cases rx
  obtain ⟨u, rfl, ru⟩ := rv.one
  cases ru
  obtain ⟨z, its, n, r, hl, e⟩ := I.lstM hH
  rcases hB with hB | hB
  · obtain ⟨its2, r2, ⟨o2, n2, g2, c2, d2, e2⟩, hl2⟩ := I.list hB
    obtain ⟨oc2, od2, dt2, sl2⟩ := o2
    dsimp only at c2 e2
    subst c2 e2
    have hn2 := r2.length
    have hsz : its.toArray.size + its2.toArray.size ≤ sizeLine := by rw [List.size_toArray, List.size_toArray]; omega
    have hlong : ¬ (!its.toArray.isEmpty && Builtin.List.listTooLong (its.toArray.size + its2.toArray.size)) = true := by
      rw [notLongL hsz, Bool.and_false]
      exact Bool.false_ne_true
    refine call_meets PySem.F.slot_list_extend ⟨_, e, rfl⟩ PySem.F.entry_list_extend (PySem.F.args_list_extend_2 _ _)
      (q_extendL l its.toArray n b its2.toArray n2 od2 sl2 hlong (by rw [List.size_toArray]; omega) (by omega)) ⟨e, g2, ?_⟩
    refine ⟨.non, _, I.lset (its' := its ++ its2) hH e (by simp) (r.append r2) ?_, rfl, q⟩
    rw [List.length_append]
    omega
  · obtain ⟨its2, r2, ⟨o2, g2, c2, n2, e2⟩, hl2⟩ := I.tuple hB
    obtain ⟨oc2, od2, dt2, sl2⟩ := o2
    dsimp only at c2 e2
    subst c2 e2
    have hn2 := r2.length
    have hsz : its.toArray.size + its2.toArray.size ≤ sizeLine := by rw [List.size_toArray, List.size_toArray]; omega
    have hlong : ¬ (!its.toArray.isEmpty && Builtin.List.listTooLong (its.toArray.size + its2.toArray.size)) = true := by
      rw [notLongL hsz, Bool.and_false]
      exact Bool.false_ne_true
    refine call_meets PySem.F.slot_list_extend ⟨_, e, rfl⟩ PySem.F.entry_list_extend (PySem.F.args_list_extend_2 _ _)
      (q_extendT l its.toArray n b its2.toArray n2 od2 sl2 hlong (by rw [List.size_toArray]; omega) (by omega)) ⟨e, g2, ?_⟩
    refine ⟨.non, _, I.lset (its' := its ++ its2) hH e (by simp) (r.append r2) ?_, rfl, q⟩
    rw [List.length_append]
    omega
theorem Reps.erase {K : PySem.W.Frag} {F : Hp} : ∀ {ds : List D} {vs : List V} (i : Nat), Reps K F ds vs → Reps K F (ds.eraseIdx i) (vs.eraseIdx i)
  | _, _, _, .nil => .nil
  | _, _, 0, .cons _ t => t
  | _, _, i + 1, .cons q t => .cons q (Reps.erase i t)
section
variable {X : Cx} {F0 : Hp} {Γ : Gm} {L : Lg} {k : D → Lg → Prop} {e o : Expr} {apos cpos : Pos}
/-- xs.extend(e) -/
theorem ek_ext (h : EvK X F0 o Γ L fun x L1 => ∃ p ds1, x = .ref p ∧ AsL L1 x ds1 ∧ EvK X F0 e Γ L1 fun y L2 => ∃ ds es j L3, Get L2 j (p, C.lst ds) ∧ AsS L2 y es ∧ Put L2 j (p, C.lst (ds ++ es)) L3 ∧ ds.length + es.length ≤ sizeLine ∧ k .non L3)
    (hbase : attributeBase o "extend" X.env (eval o X.env) = eval o X.env := by rfl)
    (hfew : ((backTo cpos (starEach [e] X.env)).all (fun x => !x.1) && (backToKw cpos (keywordEach [] X.env)).all (fun x => x.1.isSome)
      && decide (([e] : List Expr).length + ([] : List Keyword).length + (if ([] : List Keyword).isEmpty then 0 else 1) < 30)) = true := by rfl)
    (hline : (apos.endLine == cpos.line) = true := by rfl) (hs : starEach [e] X.env = (false, eval e X.env) :: starEach [] X.env := by rfl) (hplain : (backTo cpos (starEach [] X.env)).any (·.1) = false := by rfl) :
    EvK X F0 (.Call (.Attribute o "extend" apos) [e] [] cpos) Γ L k := fun F σ H Q E q =>
  wpE.of (pe_bm PySem.F.plainAttrs_list PySem.F.slot_list_extend PySem.F.type_list_extend mt_extendQ we (pa_cons we pa_nil hs) hbase hfew hline hs hplain)
    (h F σ H _ E fun x L1 F1 v H1 ⟨p, ds1, e1, a1, h1⟩ E1 s1 r1 => by
      subst e1
      obtain ⟨p', xs1, ev, hx1, _⟩ := a1.read E1.led r1
      cases r1
      refine ⟨?_, ?_⟩
      · cases ev
        exact .inl ⟨rfl, xs1, hx1⟩
      · refine h1 F1 σ H1 _ E1 fun y L2 F2 u H2 ⟨ds, es, j, L3, g, as, pt, hz, h2⟩ E2 s2 r2 => ?_
        obtain ⟨xs, hx, rx⟩ := E2.led.lst g
        obtain ⟨b, zs, rfl, hb, rz⟩ := as.read E2.led r2
        refine ⟨p, b, xs, zs, rfl, rfl, hx, hb, by rw [← rx.length, ← rz.length]; exact hz, ?_⟩
        exact q _ L3 F2 _ _ h2 (E2.to (Same.refl F2) (E2.led.put g pt ⟨_, upd_same, rx.append rz⟩)) (s1.trans s2) .non)
/-- xs.clear() -/
theorem ek_clear (h : EvK X F0 o Γ L fun x L1 => ∃ p ds j L2, x = .ref p ∧ Get L1 j (p, C.lst ds) ∧ Put L1 j (p, C.lst []) L2 ∧ k .non L2)
    (hbase : attributeBase o "clear" X.env (eval o X.env) = eval o X.env := by rfl) (hline : (apos.endLine == cpos.line) = true := by rfl) :
    EvK X F0 (.Call (.Attribute o "clear" apos) [] [] cpos) Γ L k := fun F σ H Q E q =>
  wpE.of (pe_bm0 PySem.F.plainAttrs_list PySem.F.slot_list_clear PySem.F.type_list_clear mt_clear we hbase hline)
    (h F σ H _ E fun x L1 F1 v H1 ⟨p, ds, j, L2, e1, g, pt, h1⟩ E1 s1 r1 => by
      subst e1
      obtain ⟨xs, hx, rx⟩ := E1.led.lst g
      cases r1
      exact ⟨.inl ⟨rfl, xs, .inl (.inl hx)⟩, p, xs, rfl, rfl, hx, q _ L2 F1 _ _ h1 (E1.to (Same.refl F1) (E1.led.put g pt ⟨_, upd_same, .nil⟩)) s1 .non⟩)
/-- xs.pop(i) -/
theorem ek_popAt (h : EvK X F0 o Γ L fun x L1 => ∃ p ds1, x = .ref p ∧ AsL L1 x ds1 ∧ EvK X F0 e Γ L1 fun y L2 => ∃ ds j L3 i n d, y = .int i ∧ Get L2 j (p, C.lst ds) ∧ ixN ds.length i = some n ∧ ds[n]? = some d ∧ ds.length ≤ 1000000 ∧ Put L2 j (p, C.lst (ds.eraseIdx n)) L3 ∧ k d L3)
    (hbase : attributeBase o "pop" X.env (eval o X.env) = eval o X.env := by rfl)
    (hfew : ((backTo cpos (starEach [e] X.env)).all (fun x => !x.1) && (backToKw cpos (keywordEach [] X.env)).all (fun x => x.1.isSome)
      && decide (([e] : List Expr).length + ([] : List Keyword).length + (if ([] : List Keyword).isEmpty then 0 else 1) < 30)) = true := by rfl)
    (hline : (apos.endLine == cpos.line) = true := by rfl) (hs : starEach [e] X.env = (false, eval e X.env) :: starEach [] X.env := by rfl) (hplain : (backTo cpos (starEach [] X.env)).any (·.1) = false := by rfl) :
    EvK X F0 (.Call (.Attribute o "pop" apos) [e] [] cpos) Γ L k := fun F σ H Q E q =>
  wpE.of (pe_bm PySem.F.plainAttrs_list PySem.F.slot_list_pop PySem.F.type_list_pop mt_popAt we (pa_cons we pa_nil hs) hbase hfew hline hs hplain)
    (h F σ H _ E fun x L1 F1 v H1 ⟨p, ds1, e1, a1, h1⟩ E1 s1 r1 => by
      subst e1
      obtain ⟨p', xs1, ev, hx1, _⟩ := a1.read E1.led r1
      cases r1
      refine ⟨?_, ?_⟩
      · cases ev
        exact .inl ⟨rfl, xs1, hx1⟩
      · refine h1 F1 σ H1 _ E1 fun y L2 F2 u H2 ⟨ds, j, L3, i, n, d, e2, g, hi, hd, hz, pt, h2⟩ E2 s2 r2 => ?_
        subst e2
        cases r2
        obtain ⟨xs, hx, rx⟩ := E2.led.lst g
        obtain ⟨i1, i2, i3, i4⟩ := ixN_seq hi
        obtain ⟨w, hw, rw_⟩ := rx.get hd
        rw [rx.length] at i1 i3 i4 hz
        exact ⟨p, xs, i, n, w, rfl, rfl, hx, by omega, by omega, i1, hw, q d L3 F2 _ _ h2 (E2.to (Same.refl F2) (E2.led.put g pt ⟨_, upd_same, rx.erase n⟩)) (s1.trans s2) rw_⟩)
end
end Vs

set_option Elab.async false
set_option linter.all false
set_option maxRecDepth 100000
set_option maxHeartbeats 4000000
namespace Vs
open PySem PySem.Spec PyProof.Rows L2
/-! ### fields and dicts as lists of pairs -/
/-- what stands at a key -/
def atK {κ α : Type} [DecidableEq κ] (k : κ) : List (κ × α) → Option α
  | [] => none
  | (j, x) :: r => if j = k then some x else atK k r
/-- put at a key: in its place, or at the end -/
def putA {κ α : Type} [DecidableEq κ] (k : κ) (v : α) : List (κ × α) → List (κ × α)
  | [] => [(k, v)]
  | (j, x) :: r => if j = k then (j, v) :: r else (j, x) :: putA k v r
def dropA {κ α : Type} [DecidableEq κ] (k : κ) (kvs : List (κ × α)) : List (κ × α) := kvs.filter fun kv => decide (kv.1 ≠ k)
theorem atK_put {κ α : Type} [DecidableEq κ] {k j : κ} {v : α} : ∀ {r : List (κ × α)}, atK j (putA k v r) = if k = j then some v else atK j r
  | [] => by
    show (if k = j then some v else none) = _
    rfl
  | (i, x) :: r => by
    unfold putA
    by_cases hi : i = k
    · rw [if_pos hi]
      subst hi
      show (if i = j then some v else atK j r) = if i = j then some v else if i = j then some x else atK j r
      by_cases h : i = j <;> simp [h]
    · rw [if_neg hi]
      show (if i = j then some x else atK j (putA k v r)) = if k = j then some v else if i = j then some x else atK j r
      rw [atK_put]
      by_cases h : i = j
      · subst h
        rw [if_pos rfl, if_pos rfl, if_neg (fun z => hi z.symm)]
      · rw [if_neg h, if_neg h]
section
variable {K : PySem.W.Frag} {F : Hp}
theorem RepP.lookup {f : Str} {d : D} : ∀ {fs : List (Str × D)} {ps : List (Str × V)}, RepP K F fs ps → atK f fs = some d → ∃ v, ps.lookup f = some v ∧ Rep K F d v
  | _, _, .nil, h => nomatch h
  | (g, y) :: fs, (_, u) :: ps, .cons r t, h => by
    unfold atK at h
    by_cases hg : g = f
    · rw [if_pos hg] at h
      have hb : (f == g) = true := beq_iff_eq.mpr hg.symm
      refine ⟨u, ?_, by rw [← Option.some.inj h]; exact r⟩
      rw [List.lookup_cons, hb]
    · rw [if_neg hg] at h
      obtain ⟨v, h1, h2⟩ := t.lookup h
      have hb : (f == g) = false := beq_eq_false_iff_ne.mpr fun z => hg z.symm
      refine ⟨v, ?_, h2⟩
      rw [List.lookup_cons, hb]
      exact h1
theorem RepP.none {f : Str} : ∀ {fs : List (Str × D)} {ps : List (Str × V)}, RepP K F fs ps → atK f fs = .none → ps.lookup f = .none
  | _, _, .nil, _ => rfl
  | (g, y) :: fs, (_, u) :: ps, .cons r t, h => by
    unfold atK at h
    by_cases hg : g = f
    · rw [if_pos hg] at h
      cases h
    · rw [if_neg hg] at h
      have hb : (f == g) = false := beq_eq_false_iff_ne.mpr fun z => hg z.symm
      rw [List.lookup_cons, hb]
      exact t.none h
theorem RepP.putF {f : Str} {d : D} {v : V} (rd : Rep K F d v) : ∀ {fs : List (Str × D)} {ps : List (Str × V)}, RepP K F fs ps → RepP K F (putA f d fs) (L2.putF f v ps)
  | _, _, .nil => .cons rd .nil
  | (g, y) :: fs, (_, u) :: ps, .cons r t => by
    unfold putA L2.putF
    by_cases hg : g = f
    · rw [if_pos hg, if_pos hg]
      exact .cons rd t
    · rw [if_neg hg, if_neg hg]
      exact .cons r (t.putF rd)
theorem RepP.length {κ : Type} : ∀ {fs : List (κ × D)} {ps : List (κ × V)}, RepP K F fs ps → fs.length = ps.length
  | _, _, .nil => rfl
  | _, _, .cons _ t => congrArg (· + 1) t.length
variable {κ : Type} [DecidableEq κ]
theorem RepP.val {k : κ} : ∀ {fs : List (κ × D)} {ps : List (κ × V)}, RepP K F fs ps → (∀ d, atK k fs = some d → ∃ v, valV ps k = some v ∧ Rep K F d v) ∧ (atK k fs = .none → valV ps k = .none)
  | _, _, .nil => ⟨fun _ h => (nomatch h), fun _ => rfl⟩
  | (g, y) :: fs, (_, u) :: ps, .cons r t => by
    obtain ⟨h1, h2⟩ := RepP.val (k := k) t
    by_cases hg : g = k
    · refine ⟨fun d h => ?_, fun h => ?_⟩
      · unfold atK at h
        rw [if_pos hg] at h
        exact ⟨u, valV_pos (p := (g, u)) hg, by rw [← Option.some.inj h]; exact r⟩
      · unfold atK at h
        rw [if_pos hg] at h
        cases h
    · refine ⟨fun d h => ?_, fun h => ?_⟩
      · unfold atK at h
        rw [if_neg hg] at h
        obtain ⟨v, h3, h4⟩ := h1 d h
        exact ⟨v, (valV_neg (p := (g, u)) hg).trans h3, h4⟩
      · unfold atK at h
        rw [if_neg hg] at h
        exact (valV_neg (p := (g, u)) hg).trans (h2 h)
/-- as the dict itself does it -/
def putB (kvs : List (κ × D)) (k : κ) (v : D) : List (κ × D) := if (kvs.any fun kv => decide (kv.1 = k)) = true then kvs.map (fun kv => if kv.1 = k then (kv.1, v) else kv) else kvs ++ [(k, v)]
theorem RepP.any {k : κ} : ∀ {fs : List (κ × D)} {ps : List (κ × V)}, RepP K F fs ps → (fs.any fun kv => decide (kv.1 = k)) = (ps.any fun kv => decide (kv.1 = k))
  | _, _, .nil => rfl
  | (g, y) :: fs, (_, u) :: ps, .cons r t => by rw [List.any_cons, List.any_cons, t.any]
theorem RepP.app {fs gs : List (κ × D)} {ps qs : List (κ × V)} (h : RepP K F fs ps) (h2 : RepP K F gs qs) : RepP K F (fs ++ gs) (ps ++ qs) := by
  induction h with
  | nil => exact h2
  | cons r t ih => exact .cons r ih
theorem RepP.mapK {k : κ} {d : D} {v : V} (rd : Rep K F d v) : ∀ {fs : List (κ × D)} {ps : List (κ × V)}, RepP K F fs ps → RepP K F (fs.map fun kv => if kv.1 = k then (kv.1, d) else kv) (ps.map fun kv => if kv.1 = k then (kv.1, v) else kv)
  | _, _, .nil => .nil
  | (g, y) :: fs, (_, u) :: ps, .cons r t => by
    rw [List.map_cons, List.map_cons]
    by_cases hg : g = k
    · simp only [hg, if_true]
      exact .cons rd (RepP.mapK rd t)
    · simp only [hg, if_false]
      exact .cons r (RepP.mapK rd t)
theorem RepP.putK {k : κ} {d : D} {v : V} (rd : Rep K F d v) {fs : List (κ × D)} {ps : List (κ × V)} (h : RepP K F fs ps) : RepP K F (putB fs k d) (L2.putK ps k v) := by
  unfold putB L2.putK
  rw [h.any (k := k)]
  split
  · exact h.mapK rd
  · exact h.app (.cons rd .nil)
theorem RepP.drop {k : κ} : ∀ {fs : List (κ × D)} {ps : List (κ × V)}, RepP K F fs ps → RepP K F (dropA k fs) (dropK ps k)
  | _, _, .nil => .nil
  | (g, y) :: fs, (_, u) :: ps, .cons r t => by
    have ih := RepP.drop (k := k) t
    unfold dropA L2.dropK at ih ⊢
    rw [List.filter_cons, List.filter_cons]
    by_cases hg : g = k
    · simp only [hg, ne_eq, not_true, decide_false, Bool.false_eq_true, if_false]
      simpa using ih
    · simp only [hg, ne_eq, not_false_iff, decide_true, if_true]
      exact .cons r (by simpa using ih)
end
/-- a dict's keys are unlike -/
def Nd {κ α : Type} (kvs : List (κ × α)) : Prop := (kvs.map (·.1)).Nodup
theorem Led.new2 {K : PySem.W.Frag} {F : Hp} {L : Lg} {H : Hp} {x dx : Addr} {Cc : Addr} (e : Led K F L H) (h : H x = none) (hd : H dx = none) (ne : dx ≠ x) : Led K F ((x, .obj Cc []) :: L) (upd (upd H dx (.own x)) x (.ins Cc dx [])) := by
  have nx := e.nofr h
  have nd := e.nofr hd
  refine ⟨fun b u z => ?_, ?_, fun p hp => ?_⟩
  · have n1 : b ≠ x := ne_of_none (e.sub b u z) h
    have n2 : b ≠ dx := ne_of_none (e.sub b u z) hd
    rw [upd_ne n1, upd_ne n2]
    exact e.sub b u z
  · rw [List.map_cons]
    refine List.nodup_cons.mpr ⟨fun z => ?_, e.nod⟩
    obtain ⟨p, hp, z⟩ := List.mem_map.mp z
    exact nx p hp z
  · rcases List.mem_cons.mp hp with rfl | hp
    · exact ⟨e.free h, dx, [], upd_same, .nil⟩
    · obtain ⟨h1, h2⟩ := e.ent p hp
      exact ⟨h1, h2.mono (Same.refl F) ((upd_ne (nx p hp)).trans (upd_ne (nd p hp)))⟩
/-! calls that may raise, at the slots -/
section
variable {X : Cx} {k : Nat} {f Cl : Addr} {fd : FuncData} {ps : List Str} {sp : Sp} {E : L2.St → XK} {x m : Str} {p pos apos : Pos} {e o : Expr} {es : List Expr} {ta : TE} {t : TA}
def tMethS (Cl : Addr) (m : Str) (sp : Sp) (E : L2.St → XK) (ta : TE) (t : TA) : TE := fun σ H Q => ta σ H fun x H1 => ∃ a dx fs, x = .ref a ∧ H1 a = some (.ins Cl dx fs) ∧ fs.lookup m = none ∧ t σ H1 fun vs H2 => sp (x :: vs) H2 Q (E σ)
def tMakeS (Cl : Addr) (sp : Sp) (E : L2.St → XK) (t : TA) : TE := fun σ H Q => t σ H fun vs H1 => ∀ x dx, H1 x = none → H1 dx = none → dx ≠ x → sp (.ref x :: vs) (upd (upd H1 dx (.own x)) x (.ins Cl dx [])) (fun v H2 => v = .non ∧ Q (.ref x) H2) (E σ)
theorem pe_methS {pl : Sem Bool} (he : PE X o ta) (c : Cls X.K Cl) (hm : Meth X.K Cl m f) (F : FnOk X.prog X.w X.K X.mg X.base (L2.CX X.prog X.w) k f fd ps sp) (hr : Room k X.A) (hb : Binds X.K fd ps []) (hx : ∀ σ, PassesAt (L2.CX X.prog X.w) X σ (E σ)) (ha : PA X (e :: es) t)
    (hst : starEach (e :: es) X.env = (false, eval e X.env) :: starEach es X.env := by rfl) (hpl : (backTo pos (starEach es X.env)).any (·.1) = false := by rfl)
    (ht : eval (.Call (.Attribute o m apos) (e :: es) [] pos) X.env = (do
      let ov ← eval o X.env
      standAt apos.atName
      let (f, first) ← holding [ov] (getMethod ov m pl)
      callWith pos f first (backTo pos (starEach (e :: es) X.env)) (backToKw pos (keywordEach [] X.env))) := by rfl) :
    PE X (.Call (.Attribute o m apos) (e :: es) [] pos) (tMethS Cl m sp E ta t) := by
  refine ⟨fun pins s σ H Q I h => ?_⟩
  refine PySem.W.methodCall_KW (pl := pl) (thn (he.run pins s σ H _ I h) fun u s1 ⟨x, H1, I1, rx, a, dx, fs, ex, ea, l, q⟩ => ?_) ht
  subst ex
  obtain rfl : u = Value.ref a := rx
  refine getmeth_ok I1 ea c hm l ?_
  refine PySem.W.callWith_K (first := [.ref a]) (h₀ := X.base) I.ok.mod.kin hm.kp (thn (ha.run pos pins s1 σ H1 _ I1 q) fun us s2 ⟨vs, H2, I2, r, q2⟩ => ⟨I2.kIn, ?_⟩) hst hpl
  exact run_fnS (us := .ref a :: us) (vs := .ref a :: vs) F hr hb (hx σ) I2 (.cons rfl r) q2
theorem pe_meth0S {pl : Sem Bool} (he : PE X o ta) (c : Cls X.K Cl) (hm : Meth X.K Cl m f) (F : FnOk X.prog X.w X.K X.mg X.base (L2.CX X.prog X.w) k f fd ps sp) (hr : Room k X.A) (hb : Binds X.K fd ps []) (hx : ∀ σ, PassesAt (L2.CX X.prog X.w) X σ (E σ))
    (ht : eval (.Call (.Attribute o m apos) [] [] pos) X.env = (do
      let ov ← eval o X.env
      standAt apos.atName
      let (f, first) ← holding [ov] (getMethod ov m pl)
      callWith pos f first (backTo pos (starEach [] X.env)) (backToKw pos (keywordEach [] X.env))) := by rfl) :
    PE X (.Call (.Attribute o m apos) [] [] pos) (tMethS Cl m sp E ta tNil) := by
  refine ⟨fun pins s σ H Q I h => ?_⟩
  refine PySem.W.methodCall_KW (pl := pl) (thn (he.run pins s σ H _ I h) fun u s1 ⟨x, H1, I1, rx, a, dx, fs, ex, ea, l, q⟩ => ?_) ht
  subst ex
  obtain rfl : u = Value.ref a := rx
  refine getmeth_ok I1 ea c hm l ?_
  exact PySem.W.callWith_K0 (first := [.ref a]) I1.kIn hm.kp (run_fnS (us := [.ref a]) (vs := [.ref a]) F hr hb (hx σ) I1 (.cons rfl .nil) q)
theorem run_makeS {pins : List (Addr × Obj)} {σ : L2.St} {H : Hp} {s : Shared} {Q : VK} {us : List Value} {vs : List V} (M : L2.Mk X.K Cl f) (F : FnOk X.prog X.w X.K X.mg X.base (L2.CX X.prog X.w) k f fd ps sp) (hr : Room (k + 1) X.A) (hb : Binds X.K fd ps [])
    (hx : PassesAt (L2.CX X.prog X.w) X σ (E σ)) (I : Inv X pins σ H s) (r : Vals vs us)
    (h : ∀ x dx, H x = none → H dx = none → dx ≠ x → sp (.ref x :: vs) (upd (upd H dx (.own x)) x (.ins Cl dx [])) (fun v H2 => v = .non ∧ Q (.ref x) H2) (E σ)) :
    wpAny (model X.prog X.w) X.A (call (.ref Cl) us) (EP X pins σ Q) X.xe s := by
  have hq := h (s.heap.objs.size + 1) s.heap.objs.size (I.hok.fresh (Nat.le_succ _)) (I.hok.fresh (Nat.le_refl _)) (Nat.ne_of_lt (Nat.lt_succ_self _))
  have I2 := Inv.made (C := Cl) I
  have r2 : Vals (V.ref (s.heap.objs.size + 1) :: vs) (Value.ref (s.heap.objs.size + 1) :: us) := .cons rfl r
  have hl : (Value.ref (s.heap.objs.size + 1) :: us).length = ps.length := by
    have e := r2.length
    rw [F.len _ _ _ _ hq] at e
    exact e.symm
  have b := hb _ (Value.ref (s.heap.objs.size + 1) :: us) I2.kIn (by rw [List.append_nil]; exact hl)
  rw [List.append_nil] at b
  refine wpAny_call (make_map (f := f) I.kIn M.makes M.init (beq_iff_eq.mp M.fn) (codeAny_mono (F.run _ X.stack _ _ ⟨Value.ref (s.heap.objs.size + 1) :: us, []⟩ (Value.ref (s.heap.objs.size + 1) :: us) _ _ (E σ) (hr.make Cl us [])
    (I2.env0.make Cl us []) b r2 hq) fun r s' hq' => ?_))
  cases r with
  | error e => exact hx pins _ _ e s' I2 hq'
  | ok fl =>
    cases fl with
    | ret u =>
      obtain ⟨v, H', I3, rv, ev, q3⟩ := I2.after hq'
      subst ev
      exact ⟨rv, ⟨V.ref (s.heap.objs.size + 1), H', I3, rfl, q3⟩⟩
    | next => exact False.elim hq'
    | brk => exact False.elim hq'
    | cont => exact False.elim hq'
theorem pe_makeS (M : L2.Mk X.K Cl f) (F : FnOk X.prog X.w X.K X.mg X.base (L2.CX X.prog X.w) k f fd ps sp) (hr : Room (k + 1) X.A) (hg : Gl X x) (hm : X.mg x = some (.ref Cl)) (hb : Binds X.K fd ps []) (hx : ∀ σ, PassesAt (L2.CX X.prog X.w) X σ (E σ))
    (ha : PA X (e :: es) t) (hdb : (x == ("__debug__" : Str)) = false := by decide) (he : starEach (e :: es) X.env = (false, eval e X.env) :: starEach es X.env := by rfl) (hpl : (backTo pos (starEach es X.env)).any (·.1) = false := by rfl) :
    PE X (.Call (.Name x p) (e :: es) [] pos) (tMakeS Cl sp E t) := by
  refine ⟨fun pins s σ H Q I h => ?_⟩
  refine wpAny_Call_Name_kw (ld_glob I hg hm ?_ hdb)
  refine PySem.W.callWith_K (h₀ := X.base) I.ok.mod.kin M.kp (thn (ha.run pos pins s σ H _ I h) fun us s1 ⟨vs, H1, I1, r, q⟩ => ⟨I1.kIn, ?_⟩) he hpl
  exact run_makeS M F hr hb (hx σ) I1 r q
theorem pe_make0S (M : L2.Mk X.K Cl f) (F : FnOk X.prog X.w X.K X.mg X.base (L2.CX X.prog X.w) k f fd ps sp) (hr : Room (k + 1) X.A) (hg : Gl X x) (hm : X.mg x = some (.ref Cl)) (hb : Binds X.K fd ps []) (hx : ∀ σ, PassesAt (L2.CX X.prog X.w) X σ (E σ))
    (hdb : (x == ("__debug__" : Str)) = false := by decide) : PE X (.Call (.Name x p) [] [] pos) (tMakeS Cl sp E tNil) := by
  refine ⟨fun pins s σ H Q I h => ?_⟩
  refine wpAny_Call_Name_kw (ld_glob I hg hm ?_ hdb)
  exact PySem.W.callWith_K0 I.kIn M.kp (run_makeS (us := []) M F hr hb (hx σ) I .nil h)
end
/-- a method of the class at Cl -/
structure Met (P : Program) (w : World) (K : PySem.W.Frag) (mg : Str → Option Value) (base : Heap) (n : Nat) (Cl : Addr) (m : Str) (ps : List Str) (S : SpD) : Prop where
  cl : Cls K Cl
  ex : ∃ f fd, Meth K Cl m f ∧ Binds K fd ps [] ∧ FnOk P w K mg base (L2.CX P w) n f fd ps (spOf K S)
abbrev MetX (X : Cx) (n : Nat) (Cl : Addr) (m : Str) (ps : List Str) (S : SpD) : Prop := Met X.prog X.w X.K X.mg X.base n Cl m ps S
/-- the class x can be made by its __init__ -/
structure Mkr (P : Program) (w : World) (K : PySem.W.Frag) (mg : Str → Option Value) (base : Heap) (n : Nat) (x : Str) (Cl : Addr) (ps : List Str) (S : SpD) : Prop where
  gm : mg x = some (.ref Cl)
  ex : ∃ f fd, L2.Mk K Cl f ∧ Binds K fd ps [] ∧ FnOk P w K mg base (L2.CX P w) n f fd ps (spOf K S)
abbrev MkX (X : Cx) (n : Nat) (x : Str) (Cl : Addr) (ps : List Str) (S : SpD) : Prop := Mkr X.prog X.w X.K X.mg X.base n x Cl ps S
theorem Met.imp {P : Program} {w : World} {K : PySem.W.Frag} {mg : Str → Option Value} {base : Heap} {n : Nat} {Cl : Addr} {m : Str} {ps : List Str} {S S' : SpD} (G : Met P w K mg base n Cl m ps S) (h : ∀ ds L q e, S' ds L q e → S ds L q e) : Met P w K mg base n Cl m ps S' := by
  obtain ⟨f, fd, h1, h3, F⟩ := G.ex
  exact ⟨G.cl, f, fd, h1, h3, F.imp fun vs H Q E ⟨F, ds, L, q, e, l, r, s, k1, k2⟩ => ⟨F, ds, L, q, e, l, r, h ds L q e s, k1, k2⟩⟩
theorem Mkr.imp {P : Program} {w : World} {K : PySem.W.Frag} {mg : Str → Option Value} {base : Heap} {n : Nat} {x : Str} {Cl : Addr} {ps : List Str} {S S' : SpD} (G : Mkr P w K mg base n x Cl ps S) (h : ∀ ds L q e, S' ds L q e → S ds L q e) : Mkr P w K mg base n x Cl ps S' := by
  obtain ⟨f, fd, h1, h3, F⟩ := G.ex
  exact ⟨G.gm, f, fd, h1, h3, F.imp fun vs H Q E ⟨F, ds, L, q, e, l, r, s, k1, k2⟩ => ⟨F, ds, L, q, e, l, r, h ds L q e s, k1, k2⟩⟩
section
variable {X : Cx} {F0 : Hp} {Γ : Gm} {L : Lg} {k : D → Lg → Prop} {ka : List D → Lg → Prop} {kt : Bool → Lg → Prop} {e a b c o i : Expr} {es rest : List Expr} {pos p2 apos cpos p' : Pos} {N Nc : List Str} {sc : Scope} {Z : Xc → Gm → Lg → Prop}
/-- o.f -/
theorem ek_fld {f : Str} {Cl : Addr} (cl : Cls X.K Cl) (na : NoAttr X.K Cl f) (h : EvK X F0 o Γ L fun x L1 => ∃ p fs j d, x = .ref p ∧ Get L1 j (p, C.obj Cl fs) ∧ atK f fs = some d ∧ k d L1)
    (hb : attributeBase o f X.env (eval o X.env) = eval o X.env := by rfl) : EvK X F0 (.Attribute o f pos) Γ L k := fun F σ H Q E q =>
  wpE.of (pe_fld we hb) (h F σ H _ E fun x L1 F1 v H1 ⟨p, fs, j, d, e1, g, hl, h1⟩ E1 s1 r1 => by
    subst e1
    cases r1
    obtain ⟨_, dx, ps, h2, h3⟩ := E1.led.ent _ g.mem
    obtain ⟨u, h4, h5⟩ := h3.lookup hl
    exact ⟨p, Cl, dx, ps, u, rfl, h2, cl, na, h4, q d L1 F1 u H1 h1 E1 s1 h5⟩)
/-- o.f = e -/
theorem sk_fld {f : Str} {Cl : Addr} {ks : Ks} (cl : Cls X.K Cl) (na : NoAttr X.K Cl f) (h : EvK X F0 e Γ L fun y L1 => EvK X F0 o Γ L1 fun x L2 => ∃ p fs j L3, x = .ref p ∧ Get L2 j (p, C.obj Cl fs) ∧ fs.length < 1000 ∧ Put L2 j (p, C.obj Cl (putA f y fs)) L3 ∧ ks.nx Γ L3)
    (hs : swapsWith e (some (.Attribute o f p')) pos.line X.env = pure false := by rfl) : SK X F0 (.Assign [.Attribute o f p'] e pos) Γ L ks := fun F σ H Dn E q =>
  wpS.of (ps_fld we we hs) (h F σ H _ E fun y L1 F1 v H1 h1 E1 s1 r1 => h1 F1 σ H1 _ E1 fun x L2 F2 u H2 ⟨p, fs, j, L3, e1, g, hz, pt, h2⟩ E2 s2 r2 => by
    subst e1
    cases r2
    obtain ⟨_, dx, ps, h3, h4⟩ := E2.led.ent _ g.mem
    exact ⟨p, Cl, dx, ps, rfl, h3, cl, na, by rw [← h4.length]; exact hz, q.nx Γ L3 F2 σ _ h2 (E2.to (Same.refl F2) (E2.led.put g pt ⟨dx, _, upd_same, h4.putF (r1.mono s2)⟩))⟩)
/-- o.m(e, ..) -/
theorem ek_meth {m : Str} {Cl : Addr} {n : Nat} {ps : List Str} {S : SpD} {pl : Sem Bool} (tk : Takes X (ZW X.K F0 Z)) (G : MetX X n Cl m ps S) (hr : Room n X.A)
    (h : EvK X F0 o Γ L fun x L1 => ∃ p fs j, x = .ref p ∧ Get L1 j (p, C.obj Cl fs) ∧ atK m fs = none ∧ EaK X F0 (e :: es) Γ L1 fun ds L2 => S (.ref p :: ds) L2 k fun x L3 => Z x Γ L3)
    (hst : starEach (e :: es) X.env = (false, eval e X.env) :: starEach es X.env := by rfl) (hpl : (backTo pos (starEach es X.env)).any (·.1) = false := by rfl)
    (ht : eval (.Call (.Attribute o m apos) (e :: es) [] pos) X.env = (do
      let ov ← eval o X.env
      standAt apos.atName
      let (f, first) ← holding [ov] (getMethod ov m pl)
      callWith pos f first (backTo pos (starEach (e :: es) X.env)) (backToKw pos (keywordEach [] X.env))) := by rfl) :
    EvK X F0 (.Call (.Attribute o m apos) (e :: es) [] pos) Γ L k := fun F σ H Q E q => by
  obtain ⟨f, fd, hm, hb, G2⟩ := G.ex
  refine wpE.of (pe_methS (pl := pl) (E := L2.WE (ZW X.K F0 Z)) we G.cl hm G2 hr hb (fun σ => passAt tk σ) wa hst hpl ht) ?_
  refine h F σ H _ E fun x L1 F1 v H1 ⟨p, fs, j, e1, g, ha, h1⟩ E1 s1 r1 => ?_
  subst e1
  cases r1
  obtain ⟨_, dx, qs, h3, h4⟩ := E1.led.ent _ g.mem
  refine ⟨p, dx, qs, rfl, h3, h4.none ha, h1 F1 σ H1 _ E1 fun ds L2 F2 vs H2 h2 E2 s2 r2 => ?_⟩
  exact ⟨F2, .ref p :: ds, L2, k, fun x L3 => Z x Γ L3, E2.led, .cons .ref r2, h2, fun r L' F' v H' hq s3 l3 r3 => q r L' F' v H' hq ⟨E2.ge.trans s3, l3, E2.sl.mono s3⟩ (s1.trans (s2.trans s3)) r3,
    fun x L' F' od H' he s3 l3 x3 => ⟨x, Γ, L', F', rfl, he, ⟨E2.ge.trans s3, l3, E2.sl.mono s3⟩, x3⟩⟩
theorem ek_meth0 {m : Str} {Cl : Addr} {n : Nat} {ps : List Str} {S : SpD} {pl : Sem Bool} (tk : Takes X (ZW X.K F0 Z)) (G : MetX X n Cl m ps S) (hr : Room n X.A)
    (h : EvK X F0 o Γ L fun x L1 => ∃ p fs j, x = .ref p ∧ Get L1 j (p, C.obj Cl fs) ∧ atK m fs = none ∧ S [.ref p] L1 k fun x L3 => Z x Γ L3)
    (ht : eval (.Call (.Attribute o m apos) [] [] pos) X.env = (do
      let ov ← eval o X.env
      standAt apos.atName
      let (f, first) ← holding [ov] (getMethod ov m pl)
      callWith pos f first (backTo pos (starEach [] X.env)) (backToKw pos (keywordEach [] X.env))) := by rfl) :
    EvK X F0 (.Call (.Attribute o m apos) [] [] pos) Γ L k := fun F σ H Q E q => by
  obtain ⟨f, fd, hm, hb, G2⟩ := G.ex
  refine wpE.of (pe_meth0S (pl := pl) (E := L2.WE (ZW X.K F0 Z)) we G.cl hm G2 hr hb (fun σ => passAt tk σ) ht) ?_
  refine h F σ H _ E fun x L1 F1 v H1 ⟨p, fs, j, e1, g, ha, h1⟩ E1 s1 r1 => ?_
  subst e1
  cases r1
  obtain ⟨_, dx, qs, h3, h4⟩ := E1.led.ent _ g.mem
  refine ⟨p, dx, qs, rfl, h3, h4.none ha, ?_⟩
  exact ⟨F1, [.ref p], L1, k, fun x L3 => Z x Γ L3, E1.led, .cons .ref .nil, h1, fun r L' F' v H' hq s3 l3 r3 => q r L' F' v H' hq ⟨E1.ge.trans s3, l3, E1.sl.mono s3⟩ (s1.trans s3) r3,
    fun x L' F' od H' he s3 l3 x3 => ⟨x, Γ, L', F', rfl, he, ⟨E1.ge.trans s3, l3, E1.sl.mono s3⟩, x3⟩⟩
/-- C(e, ..) -/
theorem ek_make {x : Str} {Cl : Addr} {n : Nat} {ps : List Str} {S : SpD} {p : Pos} (tk : Takes X (ZW X.K F0 Z)) (G : MkX X n x Cl ps S) (hr : Room (n + 1) X.A) (h : EaK X F0 (e :: es) Γ L fun ds L1 => ∀ p, S (.ref p :: ds) ((p, .obj Cl []) :: L1) (fun d L2 => d = .non ∧ k (.ref p) L2) fun x L2 => Z x Γ L2) (hg : Gl X x)
    (hdb : (x == ("__debug__" : Str)) = false := by decide) (he : starEach (e :: es) X.env = (false, eval e X.env) :: starEach es X.env := by rfl) (hpl : (backTo pos (starEach es X.env)).any (·.1) = false := by rfl) :
    EvK X F0 (.Call (.Name x p) (e :: es) [] pos) Γ L k := fun F σ H Q E q => by
  obtain ⟨f, fd, hm, hb, G2⟩ := G.ex
  refine wpE.of (pe_makeS (E := L2.WE (ZW X.K F0 Z)) hm G2 hr hg G.gm hb (fun σ => passAt tk σ) wa hdb he hpl) ?_
  refine h F σ H _ E fun ds L1 F1 vs H1 h1 E1 s1 r1 x dx hx hdx ne => ?_
  have l := E1.led.new2 (Cc := Cl) hx hdx ne
  exact ⟨F1, .ref x :: ds, (x, .obj Cl []) :: L1, _, fun y L2 => Z y Γ L2, l, .cons .ref r1, h1 x, fun r L' F' v H' ⟨hn, hq⟩ s3 l3 r3 => by
      subst hn
      cases r3
      exact ⟨rfl, q _ L' F' _ H' hq ⟨E1.ge.trans s3, l3, E1.sl.mono s3⟩ (s1.trans s3) .ref⟩,
    fun y L' F' od H' he s3 l3 x3 => ⟨y, Γ, L', F', rfl, he, ⟨E1.ge.trans s3, l3, E1.sl.mono s3⟩, x3⟩⟩
theorem ek_make0 {x : Str} {Cl : Addr} {n : Nat} {ps : List Str} {S : SpD} {p : Pos} (tk : Takes X (ZW X.K F0 Z)) (G : MkX X n x Cl ps S) (hr : Room (n + 1) X.A) (h : ∀ p, S [.ref p] ((p, .obj Cl []) :: L) (fun d L2 => d = .non ∧ k (.ref p) L2) fun x L2 => Z x Γ L2) (hg : Gl X x)
    (hdb : (x == ("__debug__" : Str)) = false := by decide) : EvK X F0 (.Call (.Name x p) [] [] pos) Γ L k := fun F σ H Q E q => by
  obtain ⟨f, fd, hm, hb, G2⟩ := G.ex
  refine wpE.of (pe_make0S (E := L2.WE (ZW X.K F0 Z)) hm G2 hr hg G.gm hb (fun σ => passAt tk σ) hdb) ?_
  intro x dx hx hdx ne
  have l := E.led.new2 (Cc := Cl) hx hdx ne
  exact ⟨F, [.ref x], (x, .obj Cl []) :: L, _, fun y L2 => Z y Γ L2, l, .cons .ref .nil, h x, fun r L' F' v H' ⟨hn, hq⟩ s3 l3 r3 => by
      subst hn
      cases r3
      exact ⟨rfl, q _ L' F' _ H' hq ⟨E.ge.trans s3, l3, E.sl.mono s3⟩ s3 .ref⟩,
    fun y L' F' od H' he s3 l3 x3 => ⟨y, Γ, L', F', rfl, he, ⟨E.ge.trans s3, l3, E.sl.mono s3⟩, x3⟩⟩
end
end Vs

set_option Elab.async false
set_option linter.all false
set_option maxRecDepth 100000
set_option maxHeartbeats 4000000
namespace Vs
open PySem PySem.Spec PyProof.Rows L2
/-! ### dicts -/
def kD : Key → D
  | .inl i => .int i
  | .inr x => .str x
theorem kD_v {K : PySem.W.Frag} {F : Hp} {k : Key} {v : V} (r : Rep K F (kD k) v) : v = kV k := by
  cases k <;> cases r <;> rfl
theorem kD_rep {K : PySem.W.Frag} {F : Hp} {k : Key} : Rep K F (kD k) (kV k) := by
  cases k
  · exact .int
  · exact .str
theorem atK_putB {κ : Type} [DecidableEq κ] {kvs : List (κ × D)} {k j : κ} {v : D} : atK j (putB kvs k v) = if k = j then some v else atK j kvs := by
  unfold putB
  have hm : ∀ l : List (κ × D), atK j (l.map fun kv => if kv.1 = k then (kv.1, v) else kv) = if k = j then (if (l.any fun kv => decide (kv.1 = k)) = true then some v else none) else atK j l := fun l => by
    induction l with
    | nil => by_cases h : k = j <;> simp [atK, h]
    | cons p l ih =>
      obtain ⟨g, y⟩ := p
      rw [List.map_cons, List.any_cons]
      by_cases hg : g = k
      · subst hg
        simp only [if_true, decide_true, Bool.true_or]
        show (if g = j then some v else _) = _
        by_cases h : g = j
        · rw [if_pos h, if_pos h]
        · rw [if_neg h, if_neg h, ih, if_neg h]
          show _ = (if g = j then some y else atK j l)
          rw [if_neg h]
      · simp only [if_neg hg, decide_eq_false hg, Bool.false_or]
        show (if g = j then some y else _) = _
        by_cases h : k = j
        · rw [if_pos h, if_neg (fun z => hg (z.trans h.symm)), ih, if_pos h]
        · rw [if_neg h]
          show _ = (if g = j then some y else atK j l)
          by_cases h2 : g = j
          · rw [if_pos h2, if_pos h2]
          · rw [if_neg h2, if_neg h2, ih, if_neg h]
  have ha : ∀ l : List (κ × D), (l.any fun kv => decide (kv.1 = k)) = false → atK j (l ++ [(k, v)]) = if k = j then some v else atK j l := fun l => by
    induction l with
    | nil => intro _; rfl
    | cons p l ih =>
      obtain ⟨g, y⟩ := p
      intro h
      rw [List.any_cons, Bool.or_eq_false_iff] at h
      have hg : ¬ g = k := of_decide_eq_false h.1
      show (if g = j then some y else atK j (l ++ [(k, v)])) = if k = j then some v else if g = j then some y else atK j l
      rw [ih h.2]
      by_cases h1 : g = j
      · rw [if_pos h1, if_pos h1, if_neg (fun z => hg (h1.trans z.symm))]
      · rw [if_neg h1, if_neg h1]
  split
  · rename_i h
    rw [hm, if_pos h]
  · rename_i h
    exact ha kvs (by simpa only [Bool.not_eq_true] using h)
theorem putB_len {κ : Type} [DecidableEq κ] {kvs : List (κ × D)} {k : κ} {v : D} : (putB kvs k v).length ≤ kvs.length + 1 := by
  unfold putB
  split
  · rw [List.length_map]; omega
  · rw [List.length_append]; exact Nat.le_refl _
theorem putB_new {κ : Type} [DecidableEq κ] {kvs : List (κ × D)} {k : κ} {v : D} (h : atK k kvs = none) : putB kvs k v = kvs ++ [(k, v)] := by
  unfold putB
  rw [if_neg]
  intro z
  induction kvs with
  | nil => cases z
  | cons p l ih =>
    obtain ⟨g, y⟩ := p
    unfold atK at h
    by_cases hg : g = k
    · rw [if_pos hg] at h; cases h
    · rw [if_neg hg] at h
      rw [List.any_cons, decide_eq_false hg, Bool.false_or] at z
      exact ih h z
/-- a dict that is read: of the ledger, or locked while it is walked -/
inductive AsD (F1 : Hp) (K : PySem.W.Frag) (L : Lg) : D → List (Key × D) → Prop
  | own {p : Addr} {kvs : List (Key × D)} {j : Nat} : Get L j (p, C.dic kvs) → AsD F1 K L (.ref p) kvs
  | lok {p : Addr} {kvs : List (Key × D)} {od : Obj} {ps : List (Key × V)} : F1 p = some (.frz od (.dK ps)) → RepP K F1 kvs ps → AsD F1 K L (.ref p) kvs
theorem AsD.read {K : PySem.W.Frag} {F1 F H : Hp} {L : Lg} {x : D} {v : V} {kvs : List (Key × D)} (a : AsD F1 K L x kvs) (s : Same F1 F) (l : Led K F L H) (r : Rep K F x v) : ∃ p ps, v = .ref p ∧ Rd H p (.dK ps) ∧ RepP K F kvs ps := by
  cases a with
  | own g =>
    cases r
    obtain ⟨_, ps, h1, h2⟩ := l.ent _ g.mem
    exact ⟨_, ps, rfl, .inl h1, h2⟩
  | lok h1 h2 =>
    cases r
    exact ⟨_, _, rfl, .inr ⟨_, l.sub _ _ (s _ _ h1)⟩, h2.mono s⟩
theorem AsD.app {F1 : Hp} {K : PySem.W.Frag} {L M : Lg} {x : D} {kvs : List (Key × D)} (a : AsD F1 K L x kvs) : AsD F1 K (L ++ M) x kvs := by
  cases a with
  | own g => exact .own g.app
  | lok h1 h2 => exact .lok h1 h2
theorem AsD.up {F0 F1 : Hp} {K : PySem.W.Frag} {L : Lg} {x : D} {kvs : List (Key × D)} (a : AsD F0 K L x kvs) (s : Same F0 F1) : AsD F1 K L x kvs := by
  cases a with
  | own g => exact .own g
  | lok h1 h2 => exact .lok (s _ _ h1) (h2.mono s)
theorem rd_get {K : PySem.W.Frag} {F H : Hp} {p : Addr} {kvs : List (Key × D)} {ps : List (Key × V)} {k : Key} (r : Rd H p (.dK ps)) (rp : RepP K F kvs ps) : ∃ o, DGet H p (kV k) o ∧ (∀ d, atK k kvs = some d → ∃ v, o = some v ∧ Rep K F d v) ∧ o.isSome = (atK k kvs).isSome := by
  obtain ⟨h1, h2⟩ := rp.val (k := k)
  refine ⟨valV ps k, .inl ⟨ps, k, r, rfl, rfl⟩, fun d hd => h1 d hd, ?_⟩
  cases e : atK k kvs with
  | none => rw [h2 e]; rfl
  | some d =>
    obtain ⟨v, hv, _⟩ := h1 d e
    rw [hv]
    rfl
section
variable {X : Cx} {F0 : Hp} {Γ : Gm} {L : Lg} {k : D → Lg → Prop} {ka : List D → Lg → Prop} {kt : Bool → Lg → Prop} {e a b c o i f : Expr} {es rest : List Expr} {pos p2 apos cpos p' : Pos} {N Nc : List Str} {sc : Scope} {Z : Xc → Gm → Lg → Prop}
theorem ek_dnew (h : ∀ p, k (.ref p) ((p, .dic []) :: L)) : EvK X F0 (.Dict [] [] pos) Γ L k := fun F σ H Q E q =>
  wpE.of pe_dnewK fun p hp => q _ _ F _ _ (h p) (E.to (Same.refl F) ⟨E.led.sub.trans (same_new hp), by
    rw [List.map_cons]
    refine List.nodup_cons.mpr ⟨fun z => ?_, E.led.nod⟩
    obtain ⟨q, hq, z⟩ := List.mem_map.mp z
    exact E.led.nofr hp q hq z, fun q hq => by
    rcases List.mem_cons.mp hq with rfl | hq
    · exact ⟨E.led.free hp, [], upd_same, .nil⟩
    · obtain ⟨h1, h2⟩ := E.led.ent q hq
      exact ⟨h1, h2.mono (Same.refl F) (upd_ne (E.led.nofr hp q hq))⟩⟩) (Same.refl F) .ref
/-- d[i] -/
theorem ek_dget (hu : X.A.units + 64 < cLine) (h : EvK X F0 o Γ L fun x L1 => EvK X F0 i Γ L1 fun y L2 => ∃ kvs key d, AsD F0 X.K L2 x kvs ∧ y = kD key ∧ atK key kvs = some d ∧ k d L2) (hs : NoSl i := by intro _ _; rfl) : EvK X F0 (.Subscript o i pos) Γ L k := fun F σ H Q E q =>
  wpE.of (pe_dget (by omega) we we hs) (h F σ H _ E fun x L1 F1 v H1 h1 E1 s1 r1 => h1 F1 σ H1 _ E1 fun y L2 F2 u H2 ⟨kvs, key, d, as, e1, hd, h2⟩ E2 s2 r2 => by
    subst e1
    have e2 := kD_v r2
    subst e2
    obtain ⟨p, ps, rfl, rd, rp⟩ := as.read E2.ge E2.led (r1.mono s2)
    obtain ⟨o, g, h3, _⟩ := rd_get (k := key) rd rp
    obtain ⟨v, rfl, rv⟩ := h3 d hd
    exact ⟨p, v, rfl, g, q d L2 F2 v H2 h2 E2 (s1.trans s2) rv⟩)
theorem ek_din (hu : X.A.units + 64 < cLine) (h : EvK X F0 i Γ L fun y L1 => EvK X F0 o Γ L1 fun x L2 => ∃ kvs key, AsD F0 X.K L2 x kvs ∧ y = kD key ∧ k (.bl (atK key kvs).isSome) L2) (hm : behindInMarks .In o = false := by rfl) : EvK X F0 (.Compare i [.In] [o] pos) Γ L k := fun F σ H Q E q =>
  wpE.of (pe_cmp (pc_din (by omega) we we) hm) (h F σ H _ E fun y L1 F1 v H1 h1 E1 s1 r1 => h1 F1 σ H1 _ E1 fun x L2 F2 u H2 ⟨kvs, key, as, e1, h2⟩ E2 s2 r2 => by
    subst e1
    have e2 := kD_v r1
    subst e2
    obtain ⟨p, ps, rfl, rd, rp⟩ := as.read E2.ge E2.led r2
    obtain ⟨o, g, _, h3⟩ := rd_get (k := key) rd rp
    refine ⟨p, o, rfl, g, ?_⟩
    rw [h3]
    exact q _ L2 F2 _ H2 h2 E2 (s1.trans s2) .bl)
theorem ek_dnotin (hu : X.A.units + 64 < cLine) (h : EvK X F0 i Γ L fun y L1 => EvK X F0 o Γ L1 fun x L2 => ∃ kvs key, AsD F0 X.K L2 x kvs ∧ y = kD key ∧ k (.bl (!(atK key kvs).isSome)) L2) (hm : behindInMarks .NotIn o = false := by rfl) : EvK X F0 (.Compare i [.NotIn] [o] pos) Γ L k := fun F σ H Q E q =>
  wpE.of (pe_cmp (pc_dnotin (by omega) we we) hm) (h F σ H _ E fun y L1 F1 v H1 h1 E1 s1 r1 => h1 F1 σ H1 _ E1 fun x L2 F2 u H2 ⟨kvs, key, as, e1, h2⟩ E2 s2 r2 => by
    subst e1
    have e2 := kD_v r1
    subst e2
    obtain ⟨p, ps, rfl, rd, rp⟩ := as.read E2.ge E2.led r2
    obtain ⟨o, g, _, h3⟩ := rd_get (k := key) rd rp
    refine ⟨p, o, rfl, g, ?_⟩
    rw [h3]
    exact q _ L2 F2 _ H2 h2 E2 (s1.trans s2) .bl)
theorem et_din (hu : X.A.units + 64 < cLine) (h : EvK X F0 i Γ L fun y L1 => EvK X F0 o Γ L1 fun x L2 => ∃ kvs key, AsD F0 X.K L2 x kvs ∧ y = kD key ∧ kt (atK key kvs).isSome L2) (hm : behindInMarks .In o = false := by rfl) : EtK X F0 (.Compare i [.In] [o] pos) Γ L kt := fun F σ H Q E q =>
  wpT.of (pt_cmp (pc_din (by omega) we we) hm) (h F σ H _ E fun y L1 F1 v H1 h1 E1 s1 r1 => h1 F1 σ H1 _ E1 fun x L2 F2 u H2 ⟨kvs, key, as, e1, h2⟩ E2 s2 r2 => by
    subst e1
    have e2 := kD_v r1
    subst e2
    obtain ⟨p, ps, rfl, rd, rp⟩ := as.read E2.ge E2.led r2
    obtain ⟨o, g, _, h3⟩ := rd_get (k := key) rd rp
    refine ⟨p, o, rfl, g, _, rfl, ?_⟩
    rw [h3]
    exact q _ L2 F2 H2 h2 E2 (s1.trans s2))
theorem et_dnotin (hu : X.A.units + 64 < cLine) (h : EvK X F0 i Γ L fun y L1 => EvK X F0 o Γ L1 fun x L2 => ∃ kvs key, AsD F0 X.K L2 x kvs ∧ y = kD key ∧ kt (!(atK key kvs).isSome) L2) (hm : behindInMarks .NotIn o = false := by rfl) : EtK X F0 (.Compare i [.NotIn] [o] pos) Γ L kt := fun F σ H Q E q =>
  wpT.of (pt_cmp (pc_dnotin (by omega) we we) hm) (h F σ H _ E fun y L1 F1 v H1 h1 E1 s1 r1 => h1 F1 σ H1 _ E1 fun x L2 F2 u H2 ⟨kvs, key, as, e1, h2⟩ E2 s2 r2 => by
    subst e1
    have e2 := kD_v r1
    subst e2
    obtain ⟨p, ps, rfl, rd, rp⟩ := as.read E2.ge E2.led r2
    obtain ⟨o, g, _, h3⟩ := rd_get (k := key) rd rp
    refine ⟨p, o, rfl, g, _, rfl, ?_⟩
    rw [h3]
    exact q _ L2 F2 H2 h2 E2 (s1.trans s2))
/-- d[i] = e -/
theorem sk_dput {ks : Ks} (hu : X.A.units + 64 < cLine) (h : EvK X F0 e Γ L fun v L1 => EvK X F0 o Γ L1 fun x L2 => EvK X F0 i Γ L2 fun y L3 => ∃ p kvs key j L4, x = .ref p ∧ Get L3 j (p, C.dic kvs) ∧ y = kD key ∧ kvs.length < sizeLine ∧ Put L3 j (p, C.dic (putB kvs key v)) L4 ∧ ks.nx Γ L4)
    (hs : swapsWith e (some (.Subscript o i p')) pos.line X.env = pure false := by rfl) : SK X F0 (.Assign [.Subscript o i p'] e pos) Γ L ks := fun F σ H Dn E q =>
  wpS.of (ps_dput (by omega) we we we hs) (h F σ H _ E fun v L1 F1 u H1 h1 E1 s1 r1 => h1 F1 σ H1 _ E1 fun x L2 F2 u2 H2 h2 E2 s2 r2 => h2 F2 σ H2 _ E2 fun y L3 F3 u3 H3 ⟨p, kvs, key, j, L4, e1, g, e2, hz, pt, h3⟩ E3 s3 r3 => by
    subst e1 e2
    cases r2
    have e3 := kD_v r3
    subst e3
    obtain ⟨_, ps, h4, h5⟩ := E3.led.ent _ g.mem
    refine ⟨p, _, rfl, .inl ⟨ps, key, h4, rfl, by rw [← h5.length]; exact hz, rfl⟩, q.nx Γ L4 F3 σ _ h3 (E3.to (Same.refl F3) (E3.led.put g pt ⟨_, upd_same, h5.putK (r1.mono (s2.trans s3))⟩))⟩)
/-- len(d) -/
theorem ek_lenD {p : Pos} (hm : X.mg "len" = none) (hg : Gl X "len") (h : EvK X F0 e Γ L fun x L1 => ∃ p kvs j, x = .ref p ∧ Get L1 j (p, C.dic kvs) ∧ k (.int (kvs.length : Int)) L1)
    (he : starEach [e] X.env = (false, eval e X.env) :: starEach [] X.env := by rfl) (hpl : (backTo pos (starEach [] X.env)).any (·.1) = false := by rfl) : EvK X F0 (.Call (.Name "len" p) [e] [] pos) Γ L k := fun F σ H Q E q =>
  wpE.of (pe_callB call_lenD hg hm boot_len (pa_cons we pa_nil he) (by decide) (by decide) he hpl) (h F σ H _ E fun x L1 F1 v H1 ⟨p, kvs, j, e1, g, h1⟩ E1 s1 r1 => by
    subst e1
    cases r1
    obtain ⟨_, ps, h4, h5⟩ := E1.led.ent _ g.mem
    refine ⟨p, ps, rfl, h4, ?_⟩
    rw [← h5.length]
    exact q _ L1 F1 _ H1 h1 E1 s1 .int)
end
/-! ### a dict locked while it is walked -/
def delH (F : Hp) (p : Addr) : Hp := fun b => if b = p then none else F b
theorem delH_ne {F : Hp} {p b : Addr} (h : b ≠ p) : delH F p b = F b := if_neg h
theorem delH_at {F : Hp} {p : Addr} : delH F p p = none := if_pos rfl
section
variable {K : PySem.W.Frag} {F : Hp} {p : Addr} {od : Obj} {ps : List (Key × V)}
theorem SqL.del (hp : F p = some (.frz od (.dK ps))) {a : Addr} {xs : List V} (h : SqL K F a xs) : SqL K (delH F p) a xs := by
  rcases h with (h | ⟨o, h⟩) | h
  · refine .inl (.inl ?_)
    rw [delH_ne]
    · exact h
    · intro z; subst z; rw [hp] at h; cases h
  · refine .inl (.inr ⟨o, ?_⟩)
    rw [delH_ne]
    · exact h
    · intro z; subst z; rw [hp] at h; cases h
  · exact .inr h
theorem SqT.del (hp : F p = some (.frz od (.dK ps))) {a : Addr} {xs : List V} (h : SqT K F a xs) : SqT K (delH F p) a xs := by
  rcases h with (h | ⟨o, h⟩) | h
  · refine .inl (.inl ?_)
    rw [delH_ne]
    · exact h
    · intro z; subst z; rw [hp] at h; cases h
  · refine .inl (.inr ⟨o, ?_⟩)
    rw [delH_ne]
    · exact h
    · intro z; subst z; rw [hp] at h; cases h
  · exact .inr h
mutual
theorem Rep.del (hp : F p = some (.frz od (.dK ps))) : ∀ {d : D} {v : V}, Rep K F d v → Rep K (delH F p) d v
  | _, _, .non => .non
  | _, _, .bl => .bl
  | _, _, .int => .int
  | _, _, .str => .str
  | _, _, .lst h r => .lst (SqL.del hp h) (Reps.del hp r)
  | _, _, .tup h r => .tup (SqT.del hp h) (Reps.del hp r)
  | _, _, .ref => .ref
  | _, _, .ty => .ty
  | _, _, .rng h => .rng (by
    rw [delH_ne]
    · exact h
    · intro z; subst z; rw [hp] at h; cases h)
theorem Reps.del (hp : F p = some (.frz od (.dK ps))) : ∀ {ds : List D} {vs : List V}, Reps K F ds vs → Reps K (delH F p) ds vs
  | _, _, .nil => .nil
  | _, _, .cons r t => .cons (Rep.del hp r) (Reps.del hp t)
end
theorem RepP.del (hp : F p = some (.frz od (.dK ps))) {κ : Type} {ds : List (κ × D)} {vs : List (κ × V)} (r : RepP K F ds vs) : RepP K (delH F p) ds vs := by
  induction r with
  | nil => exact .nil
  | cons r t ih => exact .cons (r.del hp) ih
theorem Slots.del (hp : F p = some (.frz od (.dK ps))) {Γ : Gm} {σ : L2.St} (r : Slots K F Γ σ) : Slots K (delH F p) Γ σ := by
  induction r with
  | nil => exact .nil
  | no t ih => exact .no ih
  | so r t ih => exact .so (r.del hp) ih
theorem CRep.del (hp : F p = some (.frz od (.dK ps))) {H H' : Hp} {a : Addr} {c : C} (e : H' a = H a) (h : CRep K F H a c) : CRep K (delH F p) H' a c := by
  cases c with
  | lst ds => obtain ⟨xs, h1, h2⟩ := h; exact ⟨xs, e.trans h1, h2.del hp⟩
  | obj c fs => obtain ⟨dx, qs, h1, h2⟩ := h; exact ⟨dx, qs, e.trans h1, h2.del hp⟩
  | dic kvs => obtain ⟨qs, h1, h2⟩ := h; exact ⟨qs, e.trans h1, h2.del hp⟩
  | dit kvs => obtain ⟨qs, h1, h2⟩ := h; exact ⟨qs, e.trans h1, h2.del hp⟩
end
theorem Led.lock {K : PySem.W.Frag} {F H : Hp} {L L1 : Lg} {p : Addr} {kvs : List (Key × D)} {j : Nat} (e : Led K F L H) (r : Rem L j (p, .dic kvs) L1) : ∃ ps, H p = some (.dK ps) ∧ RepP K F kvs ps ∧ F p = none ∧
    ∀ od, Led K (upd F p (.frz od (.dK ps))) L1 (upd H p (.frz od (.dK ps))) := by
  obtain ⟨hF, ps, h1, h2⟩ := e.ent _ r.get.mem
  refine ⟨ps, h1, h2, hF, fun od => ⟨fun b u z => ?_, (r.sub.map _).nodup e.nod, fun q hq => ?_⟩⟩
  · by_cases hb : b = p
    · subst hb; rw [upd_same] at z ⊢; exact z
    · rw [upd_ne hb] at z ⊢; exact e.sub b u z
  · obtain ⟨a1, a2⟩ := e.ent q (r.sub.subset hq)
    have ne := Rem.ne e.nod r q hq
    exact ⟨(upd_ne ne).trans a1, a2.mono (same_new hF) (upd_ne ne)⟩
theorem Led.unlock {K : PySem.W.Frag} {F H : Hp} {L : Lg} {p : Addr} {kvs : List (Key × D)} {od : Obj} {ps : List (Key × V)} (e : Led K F L H) (hF : F p = some (.frz od (.dK ps))) (rp : RepP K F kvs ps) : Led K (delH F p) ((p, .dic kvs) :: L) (upd H p (.dK ps)) := by
  have ne : ∀ q ∈ L, q.1 ≠ p := fun q hq z => by
    have := (e.ent q hq).1
    rw [z, hF] at this
    cases this
  refine ⟨fun b u z => ?_, ?_, fun q hq => ?_⟩
  · by_cases hb : b = p
    · subst hb; rw [delH_at] at z; cases z
    · rw [delH_ne hb] at z; rw [upd_ne hb]; exact e.sub b u z
  · rw [List.map_cons]
    refine List.nodup_cons.mpr ⟨fun z => ?_, e.nod⟩
    obtain ⟨q, hq, z⟩ := List.mem_map.mp z
    exact ne q hq z
  · rcases List.mem_cons.mp hq with rfl | hq
    · exact ⟨delH_at, ps, upd_same, rp.del hF⟩
    · obtain ⟨a1, a2⟩ := e.ent q hq
      exact ⟨(delH_ne (ne q hq)).trans a1, a2.del hF (upd_ne (ne q hq))⟩
theorem same_del {F0 F : Hp} {p : Addr} (s : Same F0 F) (h : F0 p = none) : Same F0 (delH F p) := fun b u z => by
  rw [delH_ne (ne_of_none z h)]
  exact s b u z
def keysD (kvs : List (Key × D)) : List D := kvs.map fun kv => kD kv.1
section
variable {X : Cx} {F0 : Hp} {Γ : Gm} {L L1 : Lg} {k : Ks} {a tg : Expr} {body : List Stmt} {pos : Pos} {N Nc : List Str} {sc : Scope} {Z : Xc → Gm → Lg → Prop} {p : Addr} {kvs : List (Key × D)} {j : Nat}
/-- for tg in d: d is locked meanwhile -/
theorem sk_forD (cf : Cf X N Nc sc F0 Z) (r : Rem L j (p, .dic kvs) L1)
    (he : ∀ F1, Cf X N Nc sc F1 Z → ∀ kk : D → Lg → Prop, kk (.ref p) L1 → EvK X F1 a Γ L1 kk) (Pv : Nat → Gm → Lg → Prop) (h0 : Pv 0 Γ L1)
    (hb : ∀ F1, Cf X N Nc sc F1 Z → (∀ M, AsD F1 X.K M (.ref p) kvs) → ∀ i d Γ' L', (keysD kvs)[i]? = some d → Pv i Γ' L' → TgK X F1 tg d Γ' L' fun Γ2 L2 => BK X F1 body Γ2 L2
      { nx := Pv (i + 1), ct := Pv (i + 1), bk := fun Γ3 L3 => k.nx Γ3 ((p, .dic kvs) :: L3), rt := fun d L3 => k.rt d ((p, .dic kvs) :: L3) }) (hd : ∀ Γ' L', Pv kvs.length Γ' L' → k.nx Γ' ((p, .dic kvs) :: L'))
    (hs : ∀ x, foldedSetIterable a X.env x = pure x := by intro _; rfl) : SK X F0 (.For tg a body [] pos) Γ L k := fun F σ H Dn E q => by
  obtain ⟨ps, h1, h2, h3, hl⟩ := E.led.lock r
  have hF0 : F0 p = none := E.ge.free h3
  refine wpS.of (ps_lock (ps_for cf.own cf.calm (pi_keys we) wg wb hs)) ⟨p, .dK ps, h1, trivial, fun od => ?_⟩
  have s1 : Same F (upd F p (.frz od (.dK ps))) := same_new h3
  have g01 : Same F0 (upd F p (.frz od (.dK ps))) := E.ge.trans s1
  have cf1 := cf.up g01
  have E1 : At X.K (upd F p (.frz od (.dK ps))) (upd F p (.frz od (.dK ps))) Γ L1 σ (upd H p (.frz od (.dK ps))) := ⟨Same.refl _, hl od, E.sl.mono s1⟩
  have as : ∀ M, AsD (upd F p (.frz od (.dK ps))) X.K M (.ref p) kvs := fun M => .lok upd_same (h2.mono s1)
  have out : ∀ {F2 : Hp} {Lb : Lg} {σ2 : L2.St} {H2 : Hp} {Γ2 : Gm}, At X.K (upd F p (.frz od (.dK ps))) F2 Γ2 Lb σ2 H2 → H2 p = some (.frz od (.dK ps)) ∧ At X.K F0 (delH F2 p) Γ2 ((p, .dic kvs) :: Lb) σ2 (upd H2 p (.dK ps)) := fun E2 => by
    have hp2 := E2.ge _ _ upd_same
    exact ⟨E2.led.sub _ _ hp2, same_del (g01.trans E2.ge) hF0, E2.led.unlock hp2 (h2.mono (s1.trans E2.ge)), E2.sl.del hp2⟩
  refine he _ cf1 (fun x L' => x = .ref p ∧ L' = L1) ⟨rfl, rfl⟩ _ σ _ _ E1 fun x L' F2 v H2 ⟨e1, e2⟩ E2 s2 r2 => ?_
  subst e1 e2
  cases r2
  have hp2 := E2.ge _ _ upd_same
  refine ⟨p, od, rfl, .inl ⟨ps, E2.led.sub _ _ hp2, fun i m σ H => ∃ F' Γ L, i + m = kvs.length ∧ Pv i Γ L ∧ At X.K (upd F p (.frz od (.dK ps))) F' Γ L σ H, ⟨kvs.length, F2, Γ, _, by omega, h0, E2⟩, ?_⟩⟩
  rintro i m σ3 H3 ⟨F3, Γ3, L3, hm, hP, E3⟩
  have hp3 := E3.led.sub _ _ (E3.ge _ _ upd_same)
  by_cases hi : i < kvs.length
  · refine .inr ⟨⟨hp3, by rw [← h2.length]; exact hi⟩, fun σ' H' => ∃ F' Γ L, Pv (i + 1) Γ L ∧ At X.K (upd F p (.frz od (.dK ps))) F' Γ L σ' H', fun σ' H' ⟨F4, Γ4, L4, b, c⟩ => ⟨m - 1, by omega, F4, Γ4, L4, by omega, b, c⟩, ?_⟩
    rintro x H' ⟨rfl, key, v, hk, rfl⟩
    have hkd : (keysD kvs)[i]? = some (kD key) := by
      have g : ∀ {kvs : List (Key × D)} {ps : List (Key × V)} {i : Nat}, RepP X.K F kvs ps → ps[i]? = some (key, v) → (keysD kvs)[i]? = some (kD key) := fun {kvs ps i} r => by
        induction r generalizing i with
        | nil => intro z; cases i <;> cases z
        | cons r t ih =>
          intro z
          cases i with
          | zero => cases z; rfl
          | succ i => exact ih z
      exact g h2 hk
    refine hb _ cf1 as i (kD key) Γ3 L3 hkd hP F3 σ3 H' _ _ E3 kD_rep fun Γ4 L4 F4 σ4 H4 h4 E4 => ?_
    refine h4 F4 σ4 H4 _ E4 ⟨fun Γ L F σ H h E => ⟨F, Γ, L, h, E⟩, fun d L F v H h s l r => ?_, fun Γ L F σ H h E => ?_, fun Γ L F σ H h E => ⟨F, Γ, L, h, E⟩⟩
    · have hp5 := s _ _ upd_same
      exact ⟨l.sub _ _ hp5, q.rt d _ _ v _ h (same_del (g01.trans s) hF0) (l.unlock hp5 (h2.mono (s1.trans s))) (r.del hp5)⟩
    · obtain ⟨o1, o2⟩ := out E
      exact ⟨o1, q.nx Γ _ _ σ _ h o2⟩
  · have e : i = kvs.length := by omega
    subst e
    refine .inl ⟨⟨hp3, by rw [← h2.length]; exact Nat.le_refl _⟩, ?_⟩
    obtain ⟨o1, o2⟩ := out E3
    exact ⟨o1, q.nx Γ3 _ _ σ3 _ (hd Γ3 L3 hP) o2⟩
end
end Vs

set_option Elab.async false
set_option linter.all false
set_option maxRecDepth 100000
set_option maxHeartbeats 4000000
namespace Vs
open PySem PySem.Spec PyProof.Rows L2
section
variable {X : Cx} {F0 : Hp} {Γ : Gm} {L : Lg} {k : Ks} {e a b c i tg iter : Expr} {st : Stmt} {rest body orelse : List Stmt} {pos p' p tpos : Pos} {N Nc : List Str} {sc : Scope} {Z : Xc → Gm → Lg → Prop} {elts : List Expr} {kk : Nat}
/-- for tg in iter: the ledger keeps what is walked -/
theorem sk_forQ (cf : Cf X N Nc sc F0 Z) (h : EiP X F0 tg iter Γ L fun ds L1 => ∃ Pv : Nat → Gm → Lg → Prop, Pv 0 Γ L1 ∧ (∀ i Γ' L', Pv i Γ' L' → ∃ M, L' = L1 ++ M) ∧
      (∀ F1, Cf X N Nc sc F1 Z → ∀ i d Γ' L', ds[i]? = some d → Pv i Γ' L' → TgK X F1 tg d Γ' L' fun Γ2 L2 => BK X F1 body Γ2 L2 { k with nx := Pv (i + 1), ct := Pv (i + 1), bk := k.nx }) ∧ (∀ Γ' L', Pv ds.length Γ' L' → k.nx Γ' L'))
    (hs : ∀ x, foldedSetIterable iter X.env x = pure x := by intro _; rfl) : SK X F0 (.For tg iter body [] pos) Γ L k := fun F σ H Dn E q =>
  wpS.of (ps_for cf.own cf.calm wi wg wb hs) (h F σ H _ E fun ds L1 F1 H1 J ⟨Pv, h0, hM, hb, hd⟩ E1 s1 it => by
    refine ⟨fun i m σ H => ∃ F Γ L, i + m = ds.length ∧ Same F1 F ∧ Pv i Γ L ∧ At X.K F0 F Γ L σ H, ⟨ds.length, F1, Γ, L1, by omega, Same.refl F1, h0, E1⟩, ?_⟩
    rintro i m σ2 H2 ⟨F2, Γ2, L2, hm, s2, hP, E2⟩
    obtain ⟨M, eM⟩ := hM _ _ _ hP
    have l2 := E2.led
    rw [eM] at l2
    by_cases hi : i < ds.length
    · refine .inr ⟨it.go i H2 F2 M hi s2 l2, fun σ' H' => ∃ F Γ L, Same F1 F ∧ Pv (i + 1) Γ L ∧ At X.K F0 F Γ L σ' H', fun σ' H' ⟨F3, Γ3, L3, a, b, c⟩ => ⟨m - 1, by omega, F3, Γ3, L3, by omega, a, b, c⟩, fun x H' hy => ?_⟩
      obtain ⟨d, F3, hdi, s3, l3, r3⟩ := it.yld i H2 x H' F2 M s2 l2 hy hi
      rw [← eM] at l3
      refine hb F1 (cf.up E1.ge) i d Γ2 L2 hdi hP F3 σ2 H' x _ ((E2.to s3 l3).base (s2.trans s3)) r3 fun Γ4 L4 F4 σ4 H4 h4 E4 => ?_
      have q' := q.up (F1 := F1) E1.ge
      exact h4 F4 σ4 H4 _ E4 ⟨fun Γ L F σ H h E => ⟨F, Γ, L, E.ge, h, E.low E1.ge⟩, q'.rt, q'.nx, fun Γ L F σ H h E => ⟨F, Γ, L, E.ge, h, E.low E1.ge⟩⟩
    · have e : i = ds.length := by omega
      subst e
      exact .inl ⟨it.stop _ H2 F2 M (Nat.le_refl _) s2 l2, q.nx Γ2 L2 F2 σ2 H2 (hd Γ2 L2 hP) E2⟩)
theorem eip_enum {kl : List D → Lg → Prop} (hm : X.mg "enumerate" = none) (hg : Gl X "enumerate") (h : EvK X F0 a Γ L fun x L1 => ∃ ds, AsL L1 x ds ∧ kl (enumD ds) L1) (hs : starEach [a] X.env = [(false, eval a X.env)] := by rfl) :
    EiP X F0 (.Tuple elts kk tpos) (.Call (.Name "enumerate" p) [a] [] pos) Γ L kl := fun F σ H R E q =>
  wpI.of (pi_enum hg hm (pa_cons we pa_nil hs) hs) (h F σ H _ E fun x L1 F1 v H1 ⟨ds, as, h1⟩ E1 s1 r1 => by
    obtain ⟨p, xs, rfl, hx, rx⟩ := as.read E1.led r1
    have rd : ∀ {F' : Hp} {L' : Lg} {H' : Hp}, Same F1 F' → Led X.K F' (L1 ++ L') H' → ∃ xs, SqL X.K H' p xs ∧ Reps X.K F' ds xs := fun s l => by
      obtain ⟨p', ys, e, hy, ry⟩ := as.app.read l (r1.mono s)
      cases e
      exact ⟨ys, hy, ry⟩
    refine ⟨p, xs, rfl, hx, q _ L1 F1 H1 _ h1 E1 s1 ⟨?_, ?_, ?_⟩⟩
    · intro i H F' L' hi s l
      obtain ⟨ys, hy, ry⟩ := rd s l
      have hi' : i < ys.length := by rw [← ry.length]; rw [enumD_len] at hi; exact hi
      exact ⟨ys, ys[i], hy, List.getElem?_eq_getElem hi'⟩
    · rintro i H x H' F' L' s l ⟨T, y, rfl, hT, rfl, hy⟩ hi
      obtain ⟨ys, hy2, ry⟩ := rd s l
      obtain ⟨d, hd, rd'⟩ := ry.got (hy ys hy2)
      have s2 : Same F' (upd F' T (.tup [.int (i : Nat), y])) := same_new (l.free hT)
      exact ⟨.tup [.int (i : Int), d], _, by rw [enumD_get, hd]; rfl, s2, l.new hT, .tup (.inl (.inl upd_same)) (.cons .int (.cons (rd'.mono s2) .nil))⟩
    · intro i H F' L' hi s l
      obtain ⟨ys, hy, ry⟩ := rd s l
      exact ⟨ys, hy, by rw [← ry.length]; rw [enumD_len] at hi; exact hi⟩)
/-- for (i, x) in enumerate(xs), xs a name of either kind -/
theorem sk_forNE {x : D} {ds : List D} (hm : X.mg "enumerate" = none) (hg : Gl X "enumerate") (cf : Cf X N Nc sc F0 Z)
    (he : ∀ kk : D → Lg → Prop, kk x L → EvK X F0 a Γ L kk) (hx : AsL L x ds) (Pv : Nat → Gm → Lg → Prop) (h0 : Pv 0 Γ L) (hp : ∀ i Γ' L', Pv i Γ' L' → AsL L' x ds)
    (hb : ∀ F1, Cf X N Nc sc F1 Z → ∀ i d Γ' L', (enumD ds)[i]? = some d → Pv i Γ' L' → TgK X F1 (.Tuple elts kk tpos) d Γ' L' fun Γ2 L2 => BK X F1 body Γ2 L2 { k with nx := Pv (i + 1), ct := Pv (i + 1), bk := k.nx }) (hd : ∀ Γ' L', Pv (enumD ds).length Γ' L' → k.nx Γ' L')
    (hs : starEach [a] X.env = [(false, eval a X.env)] := by rfl) (hs2 : ∀ y, foldedSetIterable (.Call (.Name "enumerate" p) [a] [] p') X.env y = pure y := by intro _; rfl) : SK X F0 (.For (.Tuple elts kk tpos) (.Call (.Name "enumerate" p) [a] [] p') body [] pos) Γ L k := fun F σ H Dn E q =>
  wpS.of (ps_for cf.own cf.calm (pi_enum hg hm (pa_cons we pa_nil hs) hs) wg wb hs2) (he (fun y L' => y = x ∧ L' = L) ⟨rfl, rfl⟩ F σ H _ E fun y L1 F1 v H1 ⟨e1, e2⟩ E1 s1 r1 => by
    subst e1 e2
    obtain ⟨q0, xs, rfl, hxs, rx⟩ := hx.read E1.led r1
    have rd : ∀ {F2 : Hp} {Lb : Lg} {H : Hp} {i : Nat} {Γ' : Gm}, Same F1 F2 → Pv i Γ' Lb → Led X.K F2 Lb H → ∃ xs, SqL X.K H q0 xs ∧ Reps X.K F2 ds xs := fun s hP l => by
      obtain ⟨q1, ys, e, h1, h2⟩ := (hp _ _ _ hP).read l (r1.mono s)
      cases e
      exact ⟨ys, h1, h2⟩
    refine ⟨q0, xs, rfl, hxs, fun i m σ H => ∃ F' Γ L, i + m = (enumD ds).length ∧ Same F1 F' ∧ Pv i Γ L ∧ At X.K F0 F' Γ L σ H, ⟨(enumD ds).length, F1, Γ, _, by omega, Same.refl F1, h0, E1⟩, ?_⟩
    rintro i m σ2 H2 ⟨F2, Γ2, Lb, hm, s2, hP, E2⟩
    obtain ⟨ys, hy, ry⟩ := rd s2 hP E2.led
    by_cases hi : i < (enumD ds).length
    · have hi' : i < ys.length := by rw [← ry.length]; rw [enumD_len] at hi; exact hi
      refine .inr ⟨⟨ys, ys[i], hy, List.getElem?_eq_getElem hi'⟩, fun σ' H' => ∃ F' Γ L, Same F1 F' ∧ Pv (i + 1) Γ L ∧ At X.K F0 F' Γ L σ' H', fun σ' H' ⟨F3, Γ3, L3, a, b, c⟩ => ⟨m - 1, by omega, F3, Γ3, L3, by omega, a, b, c⟩, ?_⟩
      rintro z H' ⟨T, y, rfl, hT, rfl, hz⟩
      obtain ⟨d, hdi, rd'⟩ := ry.got (hz ys hy)
      have s3 : Same F2 (upd F2 T (.tup [.int (i : Nat), y])) := same_new (E2.led.free hT)
      have E3 := E2.new (o := .tup [.int (i : Nat), y]) hT
      refine hb F1 (cf.up E1.ge) i (.tup [.int (i : Int), d]) Γ2 Lb (by rw [enumD_get, hdi]; rfl) hP _ σ2 _ _ _ (E3.base (s2.trans s3)) (.tup (.inl (.inl upd_same)) (.cons .int (.cons (rd'.mono s3) .nil))) fun Γ4 L4 F4 σ4 H4 h4 E4 => ?_
      have q' := q.up (F1 := F1) E1.ge
      exact h4 F4 σ4 H4 _ E4 ⟨fun Γ L F σ H h E => ⟨F, Γ, L, E.ge, h, E.low E1.ge⟩, q'.rt, q'.nx, fun Γ L F σ H h E => ⟨F, Γ, L, E.ge, h, E.low E1.ge⟩⟩
    · have e : i = (enumD ds).length := by omega
      subst e
      exact .inl ⟨⟨ys, hy, by rw [← ry.length, ← enumD_len (ds := ds)]; exact Nat.le_refl _⟩, q.nx Γ2 Lb F2 σ2 H2 (hd Γ2 Lb hP) E2⟩)
end
end Vs

set_option Elab.async false
set_option linter.all false
set_option maxRecDepth 100000
set_option maxHeartbeats 4000000
namespace Vs
open PySem PySem.Spec PyProof.Rows L2
/-! ### a, b = x, y with plain local names -/
theorem swapped_scope {ts : List Expr} {e : Expr} {E E' : Env} (h : E.scope = E'.scope) : swappedStores ts e E = swappedStores ts e E' := by
  unfold swappedStores Env.blockKind Env.kindOf
  rw [h]
section
variable {X : Cx} {F0 : Hp} {Γ : Gm} {L : Lg} {k : Ks} {a b c3 : Expr} {pos px py pz pt pt2 : Pos} {kt k2 : Nat} {N Nc : List Str} {sc : Scope} {x y z : Str} {i j l : Nat} {Z : Xc → Gm → Lg → Prop}
theorem sk_par (c : Cf X N Nc sc F0 Z) (h : EaK X F0 [a, b] Γ L fun ds L' => ∃ d1 d2, ds = [d1, d2] ∧ ∃ Γ1, Put Γ i (some d1) Γ1 ∧ ∃ Γ2, Put Γ1 j (some d2) Γ2 ∧ k.nx Γ2 L')
    (hi : N[i]? = some x := by rfl) (hj : N[j]? = some y := by rfl) (hij : i ≠ j := by decide) (hx : sc.names.lookup x = some .local := by rfl) (hy : sc.names.lookup y = some .local := by rfl)
    (hw : swappedStores [.Tuple [.Name x px, .Name y py] kt pt] (.Tuple [a, b] k2 pt2) { (default : Env) with scope := sc } = pure (some [x, y]) := by rfl)
    (hs : swapsWithSole [.Tuple [.Name x px, .Name y py] kt pt] (.Tuple [a, b] k2 pt2) pos.line X.env = pure false := by rfl) :
    SK X F0 (.Assign [.Tuple [.Name x px, .Name y py] kt pt] (.Tuple [a, b] k2 pt2) pos) Γ L k := fun F σ H Dn E q =>
  wpS.of (ps_par c.calm (by rw [c.n]; exact c.nd) (by rw [c.n]; exact get_app hi) (by rw [c.n]; exact get_app hj) hij (by rw [c.scp]; exact hx) (by rw [c.scp]; exact hy) wa
    ((swapped_scope (E' := { (default : Env) with scope := sc }) c.scp).trans hw) hs) (h F σ H _ E fun ds L1 F1 vs H1 ⟨d1, d2, e, Γ1, p1, Γ2, p2, hk⟩ E1 s1 r1 => by
    subst e
    cases r1 with
    | cons r r1 =>
      cases r1 with
      | cons r' r1 =>
        cases r1
        exact ⟨_, _, rfl, q.nx Γ2 L1 F1 _ H1 hk ⟨E1.ge, E1.led, (E1.sl.put r p1).put r' p2⟩⟩)
theorem sk_par3 (c : Cf X N Nc sc F0 Z) (h : EaK X F0 [a, b, c3] Γ L fun ds L' => ∃ d1 d2 d3, ds = [d1, d2, d3] ∧ ∃ Γ1, Put Γ i (some d1) Γ1 ∧ ∃ Γ2, Put Γ1 j (some d2) Γ2 ∧ ∃ Γ3, Put Γ2 l (some d3) Γ3 ∧ k.nx Γ3 L')
    (hi : N[i]? = some x := by rfl) (hj : N[j]? = some y := by rfl) (hl : N[l]? = some z := by rfl) (hij : i ≠ j := by decide) (hil : i ≠ l := by decide) (hjl : j ≠ l := by decide) (hx : sc.names.lookup x = some .local := by rfl) (hy : sc.names.lookup y = some .local := by rfl) (hz : sc.names.lookup z = some .local := by rfl)
    (hw : swappedStores [.Tuple [.Name x px, .Name y py, .Name z pz] kt pt] (.Tuple [a, b, c3] k2 pt2) { (default : Env) with scope := sc } = pure (some [x, y, z]) := by rfl)
    (hs : swapsWithSole [.Tuple [.Name x px, .Name y py, .Name z pz] kt pt] (.Tuple [a, b, c3] k2 pt2) pos.line X.env = pure false := by rfl) :
    SK X F0 (.Assign [.Tuple [.Name x px, .Name y py, .Name z pz] kt pt] (.Tuple [a, b, c3] k2 pt2) pos) Γ L k := fun F σ H Dn E q =>
  wpS.of (ps_par3 c.calm (by rw [c.n]; exact c.nd) (by rw [c.n]; exact get_app hi) (by rw [c.n]; exact get_app hj) (by rw [c.n]; exact get_app hl) hij hil hjl (by rw [c.scp]; exact hx) (by rw [c.scp]; exact hy) (by rw [c.scp]; exact hz) wa
    ((swapped_scope (E' := { (default : Env) with scope := sc }) c.scp).trans hw) hs) (h F σ H _ E fun ds L1 F1 vs H1 ⟨d1, d2, d3, e, Γ1, p1, Γ2, p2, Γ3, p3, hk⟩ E1 s1 r1 => by
    subst e
    cases r1 with
    | cons r r1 =>
      cases r1 with
      | cons r' r1 =>
        cases r1 with
        | cons r'' r1 =>
          cases r1
          exact ⟨_, _, _, rfl, q.nx Γ3 L1 F1 _ H1 hk ⟨E1.ge, E1.led, ((E1.sl.put r p1).put r' p2).put r'' p3⟩⟩)
end
/-! ### and, or: what a part leaves in the ledger is dropped -/
section
variable {X : Cx} {F0 : Hp} {Γ : Gm} {L L1 : Lg} {k : D → Lg → Prop} {kt : Bool → Lg → Prop} {a b : Expr} {rest : List Expr} {pos : Pos} {σ : L2.St} {F H : Hp}
theorem At.dropS (E : At X.K F0 F Γ L1 σ H) (hs : L.Sublist L1) : At X.K F0 F Γ L σ H := ⟨E.ge, ⟨E.led.sub, (hs.map _).nodup E.led.nod, fun p hp => E.led.ent p (hs.subset hp)⟩, E.sl⟩
theorem ek_subL {P : D → Prop} (h : EvK X F0 a Γ L fun x L1 => P x ∧ L.Sublist L1) : EvK X F0 a Γ L fun x L1 => P x ∧ L1 = L := fun F σ H Q E q =>
  h F σ H Q E fun x L1 F1 v H1 ⟨e1, e2⟩ E1 s1 r1 => q x L F1 v H1 ⟨e1, rfl⟩ (E1.dropS e2) s1 r1
theorem et_subL {P : Bool → Prop} (h : EtK X F0 a Γ L fun x L1 => P x ∧ L.Sublist L1) : EtK X F0 a Γ L fun x L1 => P x ∧ L1 = L := fun F σ H Q E q =>
  h F σ H Q E fun x L1 F1 H1 ⟨e1, e2⟩ E1 s1 => q x L F1 H1 ⟨e1, rfl⟩ (E1.dropS e2) s1
theorem ew_subL {P : Bool → Prop} (h : EwK X F0 a Γ L fun x L1 => P x ∧ L.Sublist L1) : EwK X F0 a Γ L fun x L1 => P x ∧ L1 = L := fun F σ H Q E q =>
  h F σ H Q E fun x L1 F1 H1 ⟨e1, e2⟩ E1 s1 => q x L F1 H1 ⟨e1, rfl⟩ (E1.dropS e2) s1
theorem ek_andS {p q : Bool} (ha : EvK X F0 a Γ L fun x L1 => x = .bl p ∧ L.Sublist L1) (hb : p = true → EvK X F0 (.BoolOp .And (b :: rest) pos) Γ L fun y L2 => y = .bl q ∧ L.Sublist L2) (h : k (.bl (p && q)) L) : EvK X F0 (.BoolOp .And (a :: b :: rest) pos) Γ L k := ek_and' (ek_subL ha) (fun e => ek_subL (hb e)) h
theorem ek_orS {p q : Bool} (ha : EvK X F0 a Γ L fun x L1 => x = .bl p ∧ L.Sublist L1) (hb : p = false → EvK X F0 (.BoolOp .Or (b :: rest) pos) Γ L fun y L2 => y = .bl q ∧ L.Sublist L2) (h : k (.bl (p || q)) L) : EvK X F0 (.BoolOp .Or (a :: b :: rest) pos) Γ L k := ek_or (ek_subL ha) (fun e => ek_subL (hb e)) h
theorem ew_andS {p q : Bool} (ha : EtK X F0 a Γ L fun x L1 => x = p ∧ L.Sublist L1) (hb : p = true → EwK X F0 (.BoolOp .And (b :: rest) pos) Γ L fun y L2 => y = q ∧ L.Sublist L2) (h : kt (p && q) L) : EwK X F0 (.BoolOp .And (a :: b :: rest) pos) Γ L kt := ew_and (et_subL ha) (fun e => ew_subL (hb e)) h
theorem ew_orS {p q : Bool} (ha : EtK X F0 a Γ L fun x L1 => x = p ∧ L.Sublist L1) (hb : p = false → EwK X F0 (.BoolOp .Or (b :: rest) pos) Γ L fun y L2 => y = q ∧ L.Sublist L2) (h : kt (p || q) L) : EwK X F0 (.BoolOp .Or (a :: b :: rest) pos) Γ L kt := ew_or (et_subL ha) (fun e => ew_subL (hb e)) h
end
/-! ### name = [..] with a name that a comprehension reads -/
theorem swaps_scope {t : Option Expr} {e : Expr} {n : Nat} {E E' : Env} (h : E.scope = E'.scope) : swapsWith e t n E = swapsWith e t n E' := by
  unfold swapsWith Env.blockKind Env.kindOf
  rw [h]
section
variable {X : Cx} {F0 : Hp} {Γ : Gm} {L : Lg} {k : Ks} {e : Expr} {pos p' : Pos} {N Nc : List Str} {sc : Scope} {x : Str} {i : Nat}
theorem sk_setC (c : Cn X N Nc sc) (h : EvK X F0 e Γ L fun d L' => ∃ Γ', Put Γ i (some d) Γ' ∧ k.nx Γ' L') (hi : N[i]? = some x := by rfl)
    (hs : swapsWith e (some (.Name x p')) pos.line { (default : Env) with scope := sc } = pure false := by rfl) (hw : swappedStores [.Name x p'] e X.env = pure none := by rfl) : SK X F0 (.Assign [.Name x p'] e pos) Γ L k :=
  sk_set c h hi ((swaps_scope (E' := { (default : Env) with scope := sc }) c.scp).trans hs) hw
end
end Vs

set_option Elab.async false
set_option linter.all false
set_option maxRecDepth 100000
set_option maxHeartbeats 4000000
namespace Vs
open PySem PySem.Spec PyProof.Rows L2
/-! ### d.pop(k, x), d.get(k, x) -/
section
variable {X : Cx} {F0 : Hp} {Γ : Gm} {L : Lg} {k : D → Lg → Prop} {o e f : Expr} {apos cpos : Pos}
theorem ek_dpop2 (h : EvK X F0 o Γ L fun x L1 => ∃ p kvs1 j1, x = .ref p ∧ Get L1 j1 (p, C.dic kvs1) ∧ EvK X F0 e Γ L1 fun y L2 => EvK X F0 f Γ L2 fun z L3 => ∃ kvs key j, y = kD key ∧ Get L3 j (p, C.dic kvs) ∧
      (∀ d, atK key kvs = some d → ∃ L4, Put L3 j (p, C.dic (dropA key kvs)) L4 ∧ k d L4) ∧ (atK key kvs = none → k z L3))
    (hb : attributeBase o "pop" X.env (eval o X.env) = eval o X.env := by rfl)
    (hfew : ((backTo cpos (starEach [e, f] X.env)).all (fun x => !x.1) && (backToKw cpos (keywordEach [] X.env)).all (fun x => x.1.isSome)
      && decide (([e, f] : List Expr).length + ([] : List Keyword).length + (if ([] : List Keyword).isEmpty then 0 else 1) < 30)) = true := by rfl)
    (hline : (apos.endLine == cpos.line) = true := by rfl) (ht : backTo cpos (starEach [e, f] X.env) = [(false, eval e X.env), (false, eval f X.env)] := by rfl) :
    EvK X F0 (.Call (.Attribute o "pop" apos) [e, f] [] cpos) Γ L k := fun F σ H Q E q =>
  wpE.of (pe_dpop2 we we we ⟨hb, hfew, hline, ht⟩) (h F σ H _ E fun x L1 F1 v H1 ⟨p, kvs1, j1, e1, g1, h1⟩ E1 s1 r1 => by
    subst e1
    cases r1
    obtain ⟨_, ps1, a1, b1⟩ := E1.led.ent _ g1.mem
    refine ⟨p, rfl, .inl ⟨ps1, .inl a1⟩, h1 F1 σ H1 _ E1 fun y L2 F2 u H2 h2 E2 s2 r2 => h2 F2 σ H2 _ E2 fun z L3 F3 w H3 ⟨kvs, key, j, e2, g, h3, h4⟩ E3 s3 r3 => ?_⟩
    subst e2
    have e3 := kD_v r2
    subst e3
    obtain ⟨_, ps, a3, b3⟩ := E3.led.ent _ g.mem
    refine ⟨ps, key, a3, rfl, fun v hv => ?_, fun hv => ?_⟩
    · cases hd : atK key kvs with
      | none => rw [b3.val.2 hd] at hv; cases hv
      | some d =>
        obtain ⟨v', e4, r4⟩ := b3.val.1 d hd
        rw [e4] at hv
        cases hv
        obtain ⟨L4, pt, h5⟩ := h3 d hd
        exact q d L4 F3 _ _ h5 (E3.to (Same.refl F3) (E3.led.put g pt ⟨_, upd_same, b3.drop⟩)) (s1.trans (s2.trans s3)) r4
    · refine q z L3 F3 w H3 (h4 ?_) E3 (s1.trans (s2.trans s3)) r3
      cases hd : atK key kvs with
      | none => rfl
      | some d =>
        obtain ⟨v', e4, _⟩ := b3.val.1 d hd
        rw [e4] at hv
        cases hv)
theorem ek_dget2 (hu : X.A.units + 64 < cLine) (h : EvK X F0 o Γ L fun x L1 => ∃ p kvs1, x = .ref p ∧ AsD F0 X.K L1 x kvs1 ∧ EvK X F0 e Γ L1 fun y L2 => EvK X F0 f Γ L2 fun z L3 => ∃ kvs key, y = kD key ∧ AsD F0 X.K L3 (.ref p) kvs ∧ k ((atK key kvs).getD z) L3)
    (hb : attributeBase o "get" X.env (eval o X.env) = eval o X.env := by rfl)
    (hfew : ((backTo cpos (starEach [e, f] X.env)).all (fun x => !x.1) && (backToKw cpos (keywordEach [] X.env)).all (fun x => x.1.isSome)
      && decide (([e, f] : List Expr).length + ([] : List Keyword).length + (if ([] : List Keyword).isEmpty then 0 else 1) < 30)) = true := by rfl)
    (hline : (apos.endLine == cpos.line) = true := by rfl) (ht : backTo cpos (starEach [e, f] X.env) = [(false, eval e X.env), (false, eval f X.env)] := by rfl) :
    EvK X F0 (.Call (.Attribute o "get" apos) [e, f] [] cpos) Γ L k := fun F σ H Q E q =>
  wpE.of (pe_dget2 (by omega) we we we ⟨hb, hfew, hline, ht⟩) (h F σ H _ E fun x L1 F1 v H1 ⟨p, kvs1, e1, as1, h1⟩ E1 s1 r1 => by
    subst e1
    obtain ⟨p1, ps1, ev1, rd1, rp1⟩ := as1.read E1.ge E1.led r1
    cases r1
    cases ev1
    refine ⟨p, rfl, .inl ⟨ps1, rd1⟩, h1 F1 σ H1 _ E1 fun y L2 F2 u H2 h2 E2 s2 r2 => h2 F2 σ H2 _ E2 fun z L3 F3 w H3 ⟨kvs, key, e2, as, h3⟩ E3 s3 r3 => ?_⟩
    subst e2
    have e3 := kD_v r2
    subst e3
    obtain ⟨p2, ps, ev, rd, rp⟩ := as.read E3.ge E3.led .ref
    cases ev
    obtain ⟨ov, g, h4, h5⟩ := rd_get (k := key) rd rp
    refine ⟨ov, g, ?_⟩
    cases hd : atK key kvs with
    | none =>
      rw [hd] at h3 h5
      cases ov with
      | none => exact q _ L3 F3 _ H3 h3 E3 (s1.trans (s2.trans s3)) r3
      | some _ => cases h5
    | some d =>
      obtain ⟨v', rfl, rv⟩ := h4 d hd
      rw [hd] at h3
      exact q _ L3 F3 _ H3 h3 E3 (s1.trans (s2.trans s3)) rv)
end
end Vs

set_option Elab.async false
set_option linter.all false
set_option maxRecDepth 100000
set_option maxHeartbeats 4000000
namespace Vs
open PySem PySem.Spec PyProof.Rows L2
/-! ### the ledger put in another order, some entries forgotten -/
def SubP (L L1 : Lg) : Prop := ∃ L2 : Lg, L.Sublist L2 ∧ L2.Perm L1
theorem SubP.refl {L : Lg} : SubP L L := ⟨L, List.Sublist.refl L, List.Perm.refl L⟩
theorem SubP.of_sub {L L1 : Lg} (h : L.Sublist L1) : SubP L L1 := ⟨L1, h, List.Perm.refl _⟩
theorem SubP.of_perm {L L1 : Lg} (h : L.Perm L1) : SubP L L1 := ⟨L, List.Sublist.refl _, h⟩
section
variable {X : Cx} {F0 : Hp} {Γ : Gm} {L L1 : Lg} {k : D → Lg → Prop} {kk : Ks} {ka : List D → Lg → Prop} {e : Expr} {ss : List Stmt} {σ : L2.St} {F H : Hp}
theorem At.subP (E : At X.K F0 F Γ L1 σ H) (hs : SubP L L1) : At X.K F0 F Γ L σ H := by
  obtain ⟨L2, h1, h2⟩ := hs
  exact ⟨E.ge, ⟨E.led.sub, (h1.map _).nodup ((h2.map _).nodup_iff.mpr E.led.nod), fun p hp => E.led.ent p (h2.mem_iff.mp (h1.subset hp))⟩, E.sl⟩
theorem bk_lg (hs : SubP L L1) (h : BK X F0 ss Γ L kk) : BK X F0 ss Γ L1 kk := fun F σ H Dn E q => h F σ H Dn (E.subP hs) q
theorem ek_lg (hs : SubP L L1) (h : EvK X F0 e Γ L k) : EvK X F0 e Γ L1 k := fun F σ H Q E q => h F σ H Q (E.subP hs) q
theorem ea_nilS (h : ∃ L', SubP L' L ∧ ka [] L') : EaK X F0 [] Γ L ka := fun F σ H Q E q => by
  obtain ⟨L', hs, h1⟩ := h
  exact wpA.of pa_nil (q [] L' F [] H h1 (E.subP hs) (Same.refl F) .nil)
theorem ek_drpP (h : EvK X F0 e Γ L fun d L1 => ∃ L2, SubP L2 L1 ∧ k d L2) : EvK X F0 e Γ L k := fun F σ H Q E q =>
  h F σ H Q E fun d L1 F1 v H1 ⟨L2, hs, h1⟩ E1 s1 r1 => q d L2 F1 v H1 h1 (E1.subP hs) s1 r1
/-- a list of the ledger frozen, where it is one of the ledger's -/
theorem ek_frzO (h : EvK X F0 e Γ L fun d L1 => (∃ p ds j L2 L3, d = .ref p ∧ Rem L1 j (p, C.lst ds) L2 ∧ SubP L3 L2 ∧ k (.lst ds) L3) ∨ k d L1) : EvK X F0 e Γ L k := fun F σ H Q E q =>
  h F σ H Q E fun d L1 F1 v H1 hd E1 s1 rr => by
    rcases hd with ⟨p, ds, j, L2, L3, hd, r, hs, hk⟩ | hk
    · subst hd
      cases rr
      obtain ⟨xs, l, s2, rx⟩ := E1.led.frz r
      have E2 : At X.K F0 (upd F1 p (.lst xs)) Γ L2 σ H1 := ⟨E1.ge.trans s2, l, E1.sl.mono s2⟩
      exact q _ L3 _ _ H1 hk (E2.subP hs) (s1.trans s2) (.lst (.inl (.inl upd_same)) (rx.mono s2))
    · exact q d L1 F1 v H1 hk E1 s1 rr
end
end Vs

set_option Elab.async false
set_option linter.all false
set_option maxRecDepth 100000
set_option maxHeartbeats 4000000
namespace Vs
open PySem PySem.Spec PyProof.Rows L2
/-! ### the head's facts, and one Bool more -/
abbrev AlE : Type := He.AlD × Bool
def obsE (n : Nat) (fa : List He.Fa) (fn : List He.DefD) (ex : PySem.W.Frag → Bool) (g : Addr → Option Obj) : AlE := (He.obsD fa fn (He.frG g (He.asD g n)), ex (He.frG g (He.asD g n)))
def valE (fn : List He.DefD) : AlE := (He.valD fn, true)
structure SaysE (fa : List He.Fa) (fn : List He.DefD) (ex : PySem.W.Frag → Bool) (K : PySem.W.Frag) : Prop where
  d : He.SaysD fa fn K
  ex : ex K = true
def hookE (n : Nat) (fa : List He.Fa) (fn : List He.DefD) (ex : PySem.W.Frag → Bool) : PySem.W.Hook where
  α := AlE
  obs := fun s => obsE n fa fn ex s.heap.get?
  val := fun _ => valE fn
  says := fun _ h => ∃ K : PySem.W.Frag, K.In h ∧ SaysE fa fn ex K
  of := fun _ _ e => ⟨_, He.frG_in, ⟨congrArg (fun z : AlE => z.1) e, congrArg (fun z : AlE => z.2) e⟩⟩
  keeps := fun _ _ _ ⟨K, hK, c⟩ k => ⟨K, PySem.W.Frag.In.keeps hK k, c⟩
theorem obsE_eq {n : Nat} {fa : List He.Fa} {fn : List He.DefD} {ex : PySem.W.Frag → Bool} {g : Addr → Option Obj} {s : Shared} (h : ∀ a, g a = s.heap.get? a) : obsE n fa fn ex g = (hookE n fa fn ex).obs s := by
  have e : g = s.heap.get? := funext h
  rw [e] <;> rfl
def dd (x : Str) (st : Stmt) : He.DefD := ⟨(x, none), x, x, defArgs st, defBody st, defScope st, [], []⟩
abbrev FunX (K : PySem.W.Frag) (x : Str) (st : Stmt) (fd : FuncData) : Prop := FunD K x x (defArgs st) (defBody st) (defScope st) [] [] (He.fAd K (x, none)) fd
theorem cal_of {P : Program} {w : World} {K : PySem.W.Frag} {mg : Str → Option Value} {base : Heap} {x : Str} {st : Stmt} {fd : FuncData} {N Nc ps : List Str} {n : Nat} {S : SpD}
    (F : FunX K x st fd) (g : mg x = some (.ref (He.ga K x))) (Sc : FnScope (N ++ Nc) ps (defScope st)) (hl : locs N (defScope st) = true) (hb0 : Binds K fd ps []) (hlen : ∀ ds L q e, S ds L q e → ds.length = ps.length)
    (hb : ∀ (X : Cx) (F0 : Hp) (ds : List D) (L : Lg) (q : D → Lg → Prop) (e : Xc → Lg → Prop), X.prog = P → X.w = w → X.K = K → X.mg = mg → X.base = base → Cf X N Nc (defScope st) F0 (fun y _ L' => e y L') → Room n X.A → S ds L q e →
      BK X F0 (defBody st) (ds.map some ++ List.replicate ((N ++ Nc).length - ps.length) none) L { nx := fun _ L' => q .non L', rt := q }) : Cal P w K mg base (n + 1) x ps S :=
  ⟨_, fd, g, F.kp, hb0, fn_ok F Sc hl hlen hb⟩
/-! methods -/
def dm (x m qual : Str) (st : Stmt) : He.DefD := ⟨(x, some m), m, qual, defArgs st, defBody st, defScope st, [], []⟩
abbrev MetD (K : PySem.W.Frag) (x m qual : Str) (st : Stmt) (fd : FuncData) : Prop := FunD K m qual (defArgs st) (defBody st) (defScope st) [] [] (He.fAd K (x, some m)) fd
theorem met_of {P : Program} {w : World} {K : PySem.W.Frag} {mg : Str → Option Value} {base : Heap} {x m qual : Str} {st : Stmt} {fd : FuncData} {N Nc ps : List Str} {n : Nat} {S : SpD}
    (F : MetD K x m qual st fd) (cl : Cls K (He.ga K x)) (me : Meth K (He.ga K x) m (He.ma K (He.ga K x) m)) (Sc : FnScope (N ++ Nc) ps (defScope st)) (hl : locs N (defScope st) = true) (hb0 : Binds K fd ps []) (hlen : ∀ ds L q e, S ds L q e → ds.length = ps.length)
    (hb : ∀ (X : Cx) (F0 : Hp) (ds : List D) (L : Lg) (q : D → Lg → Prop) (e : Xc → Lg → Prop), X.prog = P → X.w = w → X.K = K → X.mg = mg → X.base = base → Cf X N Nc (defScope st) F0 (fun y _ L' => e y L') → Room n X.A → S ds L q e →
      BK X F0 (defBody st) (ds.map some ++ List.replicate ((N ++ Nc).length - ps.length) none) L { nx := fun _ L' => q .non L', rt := q }) : Met P w K mg base (n + 1) (He.ga K x) m ps S :=
  ⟨cl, _, fd, me, hb0, fn_ok F Sc hl hlen hb⟩
theorem mkr_of {P : Program} {w : World} {K : PySem.W.Frag} {mg : Str → Option Value} {base : Heap} {x qual : Str} {st : Stmt} {fd : FuncData} {N Nc ps : List Str} {n : Nat} {S : SpD}
    (F : MetD K x "__init__" qual st fd) (g : mg x = some (.ref (He.ga K x))) (mk : L2.Mk K (He.ga K x) (He.ma K (He.ga K x) "__init__")) (Sc : FnScope (N ++ Nc) ps (defScope st)) (hl : locs N (defScope st) = true) (hb0 : Binds K fd ps []) (hlen : ∀ ds L q e, S ds L q e → ds.length = ps.length)
    (hb : ∀ (X : Cx) (F0 : Hp) (ds : List D) (L : Lg) (q : D → Lg → Prop) (e : Xc → Lg → Prop), X.prog = P → X.w = w → X.K = K → X.mg = mg → X.base = base → Cf X N Nc (defScope st) F0 (fun y _ L' => e y L') → Room n X.A → S ds L q e →
      BK X F0 (defBody st) (ds.map some ++ List.replicate ((N ++ Nc).length - ps.length) none) L { nx := fun _ L' => q .non L', rt := q }) : Mkr P w K mg base (n + 1) x (He.ga K x) ps S :=
  ⟨g, _, fd, mk, hb0, fn_ok F Sc hl hlen hb⟩
/-! ### lists of the top -/
theorem reps_rel {K : PySem.W.Frag} {F : Hp} {xs : List Int} : Reps K F (dI xs) ((xs.map He.Dv.int).map (He.Dv.v K)) := by
  induction xs with
  | nil => exact .nil
  | cons x xs ih => exact .cons .int ih
theorem gobj_ints {K : PySem.W.Frag} {mg : Str → Option Value} {x : Str} {xs : List Int} (g : mg x = some (.ref (He.ga K x))) (h : He.lstB K x (xs.map He.Dv.int) = true) : GObj K mg x (.lst (dI xs)) :=
  ⟨_, g, fun F => .lst (He.lstB_ok h F) reps_rel⟩
/-- the tuple of numbers at t -/
def tupI (K : PySem.W.Frag) (t : Addr) (r : List Int) : Bool := match K.lookup t with
  | some ⟨.type c, _, .seq its _, _⟩ => decide (c = "tuple") && (decide (its.size ≤ sizeLine) && He.relAll (r.map V.int) its.toList)
  | _ => false
theorem tupI_ok {K : PySem.W.Frag} {t : Addr} {r : List Int} (h : tupI K t r = true) (H : Hp) : SqT K H t (r.map V.int) := by
  unfold tupI at h
  cases q : K.lookup t with
  | none =>
    rw [q] at h
    cases h
  | some o =>
    obtain ⟨oc, od, dt, osl⟩ := o
    rw [q] at h
    cases oc with
    | type c =>
      cases dt with
      | seq its n =>
        obtain ⟨h1, h2⟩ := He.ba (show (decide (c = "tuple") && (decide (its.size ≤ sizeLine) && He.relAll (r.map V.int) its.toList)) = true from h)
        obtain ⟨h3, h4⟩ := He.ba h2
        exact .inr ⟨_, its, n, q, congrArg Value.type (of_decide_eq_true h1), rfl, of_decide_eq_true h3, He.relAll_ok h4⟩
      | _ => cases h
    | _ => cases dt <;> cases h
def tupsI (K : PySem.W.Frag) : List Value → List (List Int) → Bool
  | [], [] => true
  | .ref t :: us, r :: rs => tupI K t r && tupsI K us rs
  | _, _ => false
def lstT (K : PySem.W.Frag) (x : Str) (rs : List (List Int)) : Bool := match K.lookup (He.ga K x) with
  | some ⟨.type c, none, .seq its _, _⟩ => decide (c = "list") && (decide (its.size ≤ sizeLine) && tupsI K its.toList rs)
  | _ => false
abbrev dTs (rs : List (List Int)) : List D := rs.map fun r => D.tup (dI r)
theorem tupsI_ok {K : PySem.W.Frag} (F : Hp) : ∀ {us : List Value} {rs : List (List Int)}, tupsI K us rs = true → ∃ vs, Vals vs us ∧ Reps K F (dTs rs) vs
  | [], [], _ => ⟨[], .nil, .nil⟩
  | [], _ :: _, h => by cases h
  | u :: us, [], h => by cases u <;> cases h
  | u :: us, r :: rs, h => by
    cases u with
    | ref t =>
      obtain ⟨h1, h2⟩ := He.ba (show (tupI K t r && tupsI K us rs) = true from h)
      obtain ⟨vs, a, b⟩ := tupsI_ok F h2
      exact ⟨.ref t :: vs, .cons rfl a, .cons (.tup (tupI_ok h1 F) reps_il) b⟩
    | _ => cases h
theorem gobj_tups {K : PySem.W.Frag} {mg : Str → Option Value} {x : Str} {rs : List (List Int)} (g : mg x = some (.ref (He.ga K x))) (h : lstT K x rs = true) : GObj K mg x (.lst (dTs rs)) := by
  unfold lstT at h
  cases q : K.lookup (He.ga K x) with
  | none =>
    rw [q] at h
    cases h
  | some o =>
    obtain ⟨oc, od, dt, osl⟩ := o
    rw [q] at h
    cases oc with
    | type c =>
      cases od with
      | none =>
        cases dt with
        | seq its n =>
          obtain ⟨h1, h2⟩ := He.ba (show (decide (c = "list") && (decide (its.size ≤ sizeLine) && tupsI K its.toList rs)) = true from h)
          obtain ⟨h3, h4⟩ := He.ba h2
          refine ⟨_, g, fun F => ?_⟩
          obtain ⟨vs, a, b⟩ := tupsI_ok F h4
          exact .lst (.inr ⟨_, its, n, q, congrArg Value.type (of_decide_eq_true h1), rfl, rfl, of_decide_eq_true h3, a⟩) b
        | _ => cases h
      | some a => cases dt <;> cases h
    | _ => cases od <;> cases dt <;> cases h
/-! ### the end -/
theorem walk_ofV {l : PySem.W.OpenLaw} {n k : Nat} {q : Program} {loose : List Str} {XP : (Str → Option Value) → Heap → Prop} {YP : World → Heap → Prop} {d : DefRec} {CX : World → CXT} {x : Str}
    (hn : l.most = some n) (hn2 : n ≤ sizeLine) (hdf : d.params.defaults = []) (hr : Room k callerA)
    (F : ∀ (w : World) (mg : Str → Option Value) (fa : Addr) (h : Heap), YP w h → h.Ns mainGlobals mg → mg d.name = some (.ref fa) →
      ∃ (K : PySem.W.Frag) (fd : FuncData) (sp : Sp), K.In h ∧ (∀ (s : Shared) (u : Value), BindsTo s fd ⟨[u], []⟩ [(x, u)]) ∧
        (∀ (H : Hp) (a : Addr) (ns : List Int), ns.length ≤ n → Only H → SqL K H a (ns.map V.int) → sp [.ref a] H (fun v _ => v = .bl true) fun _ _ _ => False) ∧
        ∀ base : Heap, K.In base → base.Ns mainGlobals mg → FnOk l.prog w K mg base (CX w) k fa fd [x] sp)
    (hCX : ∀ (w : World) (H : Hp) (s : Shared) (e : Value) (s' : Shared), CX w [] H s (fun _ _ _ => False) e s' → False) :
    PySem.W.WalkO q loose XP YP l.row.toRowW d [] (fun f vs => PySem.call f vs) := by
  refine Att.attach_call hn hdf fun w s₀ s₁ mg mb fa o pm cd doc a vs ns G Y ho hd hcd hmg hobj hints hlen hg => ?_
  obtain ⟨K, fd, sp, KX, hb, hsp, hF⟩ := F w mg fa _ Y G.T.g hmg
  exact law_call KX G.T.g G.T.b G.T.builtins G.T.nolimit hg hobj hints (Nat.le_trans hlen hn2) hr hF hb (fun H hO hS => hsp H a ns hlen hO hS) fun H e s' => hCX w H s₁ e s'
theorem noCX {P : Program} {w : World} (H : Hp) (s : Shared) (e : Value) (s' : Shared) (h : L2.CX P w [] H s (fun _ _ _ => False) e s') : False := by
  obtain ⟨_, _, _, _, _, _, _, _, _, _, _, _, z⟩ := h
  exact z.elim
/-- the law's own promise -/
theorem law_sp {K : PySem.W.Frag} {S : SpD} (h : ∀ ns : List Int, ns.length ≤ 63 → ∀ q e, (∀ L, q (.bl true) L) → S [.lst (dI ns)] [] q e) (H : Hp) (a : Addr) (ns : List Int) (hl : ns.length ≤ 63) (hO : Only H) (hS : SqL K H a (ns.map V.int)) :
    spOf K S [.ref a] H (fun v _ => v = .bl true) fun _ _ _ => False :=
  ⟨H, [.lst (dI ns)], [], fun d _ => d = .bl true, fun _ _ => False, ⟨Same.refl H, List.nodup_nil, fun p hp => by cases hp⟩, .cons (.lst hS reps_il) .nil, h ns hl _ _ (fun _ => rfl),
    fun r L' F' v H' e _ _ rr => by subst e; cases rr; rfl, fun _ _ _ _ _ he _ _ _ => he⟩
end Vs

set_option Elab.async false
set_option linter.all false
set_option maxRecDepth 100000
set_option maxHeartbeats 4000000
namespace K21
open PySem PySem.Spec PyProof.Rows L2 Vs
def okc (n : Int) (xs : List Int) : Prop := (xs.length : Int) = n ∧ ∀ v ∈ xs, 0 ≤ v ∧ v ≤ 96
/-! ### the plain law of sealed cells -/
def inv97 (a : Int) : Int := (a % 97) ^ 95 % 97
def ckq (i k : Nat) : Int := (-((5 : Int) ^ i * inv97 (5 ^ (18 + k)) * (((List.range 6).filter (· ≠ k)).map fun m => ((5 : Int) ^ i - 5 ^ (18 + m)) * inv97 (5 ^ (18 + k) - 5 ^ (18 + m))).foldl (fun a b => a * b % 97) 1)) % 97
def ckRow (i : Nat) : List Int := (List.range 6).map (ckq i)
def ckRows : List (List Int) := (List.range 18).map ckRow
def pows : List Int := (List.range 96).map fun m => (5 : Int) ^ m % 97
/-- the sum j of the signs from place i on -/
def sj (j : Nat) : Nat → List Int → Int
  | _, [] => 0
  | i, x :: xs => x * 5 ^ (i * j) + sj j (i + 1) xs
theorem sj_app (j : Nat) : ∀ (i : Nat) (xs ys : List Int), sj j i (xs ++ ys) = sj j i xs + sj j (i + xs.length) ys
  | i, [], ys => by simp [sj]
  | i, x :: xs, ys => by
    rw [List.cons_append, sj, sj, sj_app j (i + 1) xs ys, List.length_cons, Int.add_assoc]
    congr 3
    omega
theorem sj_set (j : Nat) : ∀ (i p : Nat) (xs : List Int) (x y : Int), xs[p]? = some x → sj j i (xs.set p y) = sj j i xs + (y - x) * 5 ^ ((i + p) * j)
  | i, _, [], x, y, h => by simp at h
  | i, 0, a :: xs, x, y, h => by
    have e : a = x := by simpa using h
    subst e
    rw [List.set_cons_zero, sj, sj]
    simp only [Nat.add_zero, Int.sub_mul]
    omega
  | i, p + 1, a :: xs, x, y, h => by
    rw [List.set_cons_succ, sj, sj, sj_set j (i + 1) p xs x y (by simpa using h), show i + 1 + p = i + (p + 1) by omega]
    omega
theorem emod_add_r (a b : Int) : (a + b % 97) % 97 = (a + b) % 97 := by rw [Int.add_emod, Int.emod_emod, ← Int.add_emod]
theorem emod_add_l (a b : Int) : (a % 97 + b) % 97 = (a + b) % 97 := by rw [Int.add_emod, Int.emod_emod, ← Int.add_emod]
theorem emod_mul_r (a b : Int) : a * (b % 97) % 97 = a * b % 97 := by rw [Int.mul_emod, Int.emod_emod, ← Int.mul_emod]
theorem emod_mul_l (a b : Int) : a % 97 * b % 97 = a * b % 97 := by rw [Int.mul_emod, Int.emod_emod, ← Int.mul_emod]
theorem p5_per (m : Nat) : (5 : Int) ^ (m % 96) % 97 = 5 ^ m % 97 := by
  have g : ∀ m : Nat, ((5 : Int) ^ 96) ^ m % 97 = 1 := fun m => by
    induction m with
    | zero => rw [Int.pow_zero]; rfl
    | succ m ih => rw [Int.pow_succ, Int.mul_emod, ih]; decide +kernel
  have e : m = 96 * (m / 96) + m % 96 := (Nat.div_add_mod m 96).symm
  rw [show (5 : Int) ^ m = 5 ^ (96 * (m / 96)) * 5 ^ (m % 96) from by rw [← Int.pow_add, ← e], Int.pow_mul, Int.mul_emod, g, Int.one_mul, Int.emod_emod]
theorem pows_get (m : Nat) : pows[m % 96]? = some ((5 : Int) ^ m % 97) := by
  unfold pows
  rw [List.getElem?_map, List.getElem?_range (Nat.mod_lt _ (by decide))]
  show some ((5 : Int) ^ (m % 96) % 97) = _
  rw [p5_per]
/-- no turn of one sign is nought -/
theorem turn_ne {d : Int} (p : Nat) (h : d * 5 ^ p % 97 = 0) : d % 97 = 0 := by
  have e : d * 5 ^ p * 5 ^ (95 * p) = d * 5 ^ (96 * p) := by
    rw [Int.mul_assoc, ← Int.pow_add]
    congr 2
    omega
  have g : (5 : Int) ^ (96 * p) % 97 = 1 := by
    have := p5_per (96 * p)
    rw [Nat.mul_mod_right] at this
    rw [← this]
    rfl
  have h2 : d * 5 ^ (96 * p) % 97 = 0 := by
    rw [← e, Int.mul_emod, h, Int.zero_mul]
    rfl
  rw [Int.mul_emod, g, Int.mul_one, Int.emod_emod] at h2
  exact h2
/-- the sign at place 18 + k of the sealed cell -/
def ckv (xs : List Int) (k : Nat) : List Int := (List.range xs.length).map fun i => xs.getD i 0 * ckq i k
def celOf (xs : List Int) : List Int := xs ++ (List.range 6).map fun k => (ckv xs k).sum % 97
theorem celOf_len {xs : List Int} (h : xs.length = 18) : (celOf xs).length = 24 := by
  unfold celOf
  rw [List.length_append, List.length_map, List.length_range, h]
theorem okc_celOf {xs : List Int} (h : okc 18 xs) : okc 24 (celOf xs) := by
  have hl : xs.length = 18 := by have := h.1; omega
  refine ⟨by rw [celOf_len hl]; rfl, fun v hv => ?_⟩
  unfold celOf at hv
  rcases List.mem_append.mp hv with z | z
  · exact h.2 v z
  · obtain ⟨k, _, rfl⟩ := List.mem_map.mp z
    have h1 := Int.emod_nonneg (ckv xs k).sum (show (97 : Int) ≠ 0 by decide)
    have h2 := Int.emod_lt_of_pos (ckv xs k).sum (show (0 : Int) < 97 by decide)
    omega
theorem ck_id : ∀ (i : Fin 18) (j : Fin 6), ((5 : Int) ^ (i.val * (j.val + 1)) + (ckq i.val 0 * 5 ^ (18 * (j.val + 1)) + (ckq i.val 1 * 5 ^ (19 * (j.val + 1)) + (ckq i.val 2 * 5 ^ (20 * (j.val + 1)) + (ckq i.val 3 * 5 ^ (21 * (j.val + 1)) + (ckq i.val 4 * 5 ^ (22 * (j.val + 1)) + ckq i.val 5 * 5 ^ (23 * (j.val + 1)))))))) % 97 = 0 := by decide +kernel
theorem sum_take {f : Nat → Int} {n : Nat} : ((List.range (n + 1)).map f).sum = ((List.range n).map f).sum + f n := by
  rw [List.range_succ, List.map_append, List.sum_append, List.map_cons, List.map_nil, List.sum_cons, List.sum_nil, Int.add_zero]
theorem sj_take (j : Nat) (xs : List Int) {n : Nat} {x : Int} (h : xs[n]? = some x) : sj j 0 (xs.take (n + 1)) = sj j 0 (xs.take n) + x * 5 ^ (n * j) := by
  have hl := (List.getElem?_eq_some_iff.mp h).1
  rw [List.take_add_one, h, sj_app]
  show _ + sj j _ [x] = _
  rw [List.length_take, Nat.min_eq_left (by omega), Nat.zero_add, sj, sj, Int.add_zero]
theorem celOf_sums {xs : List Int} (h : xs.length = 18) (j : Fin 6) : sj (j.val + 1) 0 (celOf xs) % 97 = 0 := by
  have key : ∀ n, n ≤ 18 → (sj (j.val + 1) 0 (xs.take n) + (((List.range n).map fun i => xs.getD i 0 * ckq i 0).sum * 5 ^ (18 * (j.val + 1)) + (((List.range n).map fun i => xs.getD i 0 * ckq i 1).sum * 5 ^ (19 * (j.val + 1)) + (((List.range n).map fun i => xs.getD i 0 * ckq i 2).sum * 5 ^ (20 * (j.val + 1)) +
      (((List.range n).map fun i => xs.getD i 0 * ckq i 3).sum * 5 ^ (21 * (j.val + 1)) + (((List.range n).map fun i => xs.getD i 0 * ckq i 4).sum * 5 ^ (22 * (j.val + 1)) + ((List.range n).map fun i => xs.getD i 0 * ckq i 5).sum * 5 ^ (23 * (j.val + 1)))))))) % 97 = 0 := by
    intro n hn
    induction n with
    | zero => simp [sj]
    | succ n ih =>
      have ih := ih (by omega)
      obtain ⟨x, hx⟩ : ∃ x, xs[n]? = some x := ⟨_, List.getElem?_eq_getElem (by omega)⟩
      have hg : xs.getD n 0 = x := by rw [List.getD_eq_getElem?_getD, hx]; rfl
      have id := ck_id ⟨n, by omega⟩ j
      dsimp only at id
      rw [sj_take _ _ hx]
      simp only [sum_take, hg]
      generalize (5 : Int) ^ (18 * (j.val + 1)) = a0 at *
      generalize (5 : Int) ^ (19 * (j.val + 1)) = a1 at *
      generalize (5 : Int) ^ (20 * (j.val + 1)) = a2 at *
      generalize (5 : Int) ^ (21 * (j.val + 1)) = a3 at *
      generalize (5 : Int) ^ (22 * (j.val + 1)) = a4 at *
      generalize (5 : Int) ^ (23 * (j.val + 1)) = a5 at *
      generalize (5 : Int) ^ (n * (j.val + 1)) = b at *
      generalize ckq n 0 = c0 at *
      generalize ckq n 1 = c1 at *
      generalize ckq n 2 = c2 at *
      generalize ckq n 3 = c3 at *
      generalize ckq n 4 = c4 at *
      generalize ckq n 5 = c5 at *
      generalize ((List.range n).map fun i => xs.getD i 0 * ckq i 0).sum = s0 at *
      generalize ((List.range n).map fun i => xs.getD i 0 * ckq i 1).sum = s1 at *
      generalize ((List.range n).map fun i => xs.getD i 0 * ckq i 2).sum = s2 at *
      generalize ((List.range n).map fun i => xs.getD i 0 * ckq i 3).sum = s3 at *
      generalize ((List.range n).map fun i => xs.getD i 0 * ckq i 4).sum = s4 at *
      generalize ((List.range n).map fun i => xs.getD i 0 * ckq i 5).sum = s5 at *
      generalize sj (j.val + 1) 0 (xs.take n) = t at *
      have e : t + x * b + ((s0 + x * c0) * a0 + ((s1 + x * c1) * a1 + ((s2 + x * c2) * a2 + ((s3 + x * c3) * a3 + ((s4 + x * c4) * a4 + (s5 + x * c5) * a5))))) =
          (t + (s0 * a0 + (s1 * a1 + (s2 * a2 + (s3 * a3 + (s4 * a4 + s5 * a5)))))) + x * (b + (c0 * a0 + (c1 * a1 + (c2 * a2 + (c3 * a3 + (c4 * a4 + c5 * a5)))))) := by
        simp only [Int.add_mul, Int.mul_add, Int.mul_assoc]
        omega
      rw [e, Int.add_emod, ih, Int.zero_add, Int.emod_emod, Int.mul_emod, id, Int.mul_zero]
      rfl
  have k18 := key 18 (Nat.le_refl _)
  rw [List.take_of_length_le (by omega)] at k18
  unfold celOf
  rw [sj_app, h]
  show (sj _ 0 xs + sj _ (0 + 18) [(ckv xs 0).sum % 97, (ckv xs 1).sum % 97, (ckv xs 2).sum % 97, (ckv xs 3).sum % 97, (ckv xs 4).sum % 97, (ckv xs 5).sum % 97]) % 97 = 0
  simp only [sj]
  unfold ckv
  rw [h]
  generalize ((List.range 18).map fun i => xs.getD i 0 * ckq i 0).sum = s0 at *
  generalize ((List.range 18).map fun i => xs.getD i 0 * ckq i 1).sum = s1 at *
  generalize ((List.range 18).map fun i => xs.getD i 0 * ckq i 2).sum = s2 at *
  generalize ((List.range 18).map fun i => xs.getD i 0 * ckq i 3).sum = s3 at *
  generalize ((List.range 18).map fun i => xs.getD i 0 * ckq i 4).sum = s4 at *
  generalize ((List.range 18).map fun i => xs.getD i 0 * ckq i 5).sum = s5 at *
  refine Eq.trans ?_ k18
  have cg : ∀ (s a r r' : Int), r % 97 = r' % 97 → (s % 97 * a + r) % 97 = (s * a + r') % 97 := fun s a r r' hr => by
    rw [Int.add_emod, emod_mul_l, hr, ← Int.add_emod]
  have cg0 : ∀ (t A B : Int), A % 97 = B % 97 → (t + A) % 97 = (t + B) % 97 := fun t A B h => by rw [Int.add_emod, h, ← Int.add_emod]
  refine cg0 _ _ _ (cg _ _ _ _ (cg _ _ _ _ (cg _ _ _ _ (cg _ _ _ _ (cg _ _ _ _ ?_)))))
  rw [Int.add_zero, emod_mul_l]
/-! ### seven apart -/
def W : List Nat → Nat → Int
  | [], _ => 1
  | r :: rs, i => (5 ^ i - 5 ^ r) * W rs i
def gs (rs : List Nat) (j : Nat) : Nat → List Int → Int
  | _, [] => 0
  | i, x :: xs => x * 5 ^ (i * j) * W rs i + gs rs j (i + 1) xs
theorem gs_nil (j : Nat) : ∀ (i : Nat) (xs : List Int), gs [] j i xs = sj j i xs
  | _, [] => rfl
  | i, x :: xs => by rw [gs, sj, gs_nil j (i + 1) xs, W, Int.mul_one]
theorem gs_cons (r : Nat) (rs : List Nat) (j : Nat) : ∀ (i : Nat) (xs : List Int), gs (r :: rs) j i xs = gs rs (j + 1) i xs - 5 ^ r * gs rs j i xs
  | _, [] => by simp [gs]
  | i, x :: xs => by
    rw [gs, gs, gs, gs_cons r rs j (i + 1) xs, W, Nat.mul_succ, Int.pow_add]
    generalize (5 : Int) ^ (i * j) = a
    generalize (5 : Int) ^ i = b
    generalize (5 : Int) ^ r = d
    generalize W rs i = w
    generalize gs rs (j + 1) (i + 1) xs = g1
    generalize gs rs j (i + 1) xs = g2
    have : x * a * ((b - d) * w) = x * (a * b) * w - d * (x * a * w) := by
      rw [Int.sub_mul, Int.mul_sub]
      congr 1
      · simp only [Int.mul_assoc]
      · simp only [Int.mul_assoc, Int.mul_left_comm]
    rw [this, Int.mul_add]
    omega
theorem sub_mod {a b : Int} (ha : a % 97 = 0) (hb : b % 97 = 0) : (a - b) % 97 = 0 := by omega
theorem mul_mod0 {a b : Int} (hb : b % 97 = 0) : a * b % 97 = 0 := by
  rw [Int.mul_emod, hb, Int.mul_zero]
  rfl
theorem gs_zero {c : List Int} (h : ∀ m, 1 ≤ m → m ≤ 6 → sj m 0 c % 97 = 0) : ∀ (rs : List Nat) (j : Nat), 1 ≤ j → j + rs.length ≤ 6 → gs rs j 0 c % 97 = 0
  | [], j, h1, h2 => by rw [gs_nil]; exact h j h1 h2
  | r :: rs, j, h1, h2 => by
    rw [List.length_cons] at h2
    rw [gs_cons]
    exact sub_mod (gs_zero h rs (j + 1) (by omega) (by omega)) (mul_mod0 (gs_zero h rs j h1 (by omega)))
theorem W_mem {i : Nat} : ∀ {rs : List Nat}, i ∈ rs → W rs i = 0
  | r :: rs, h => by
    rw [W]
    rcases List.mem_cons.mp h with rfl | h
    · rw [Int.sub_self, Int.zero_mul]
    · rw [W_mem h, Int.mul_zero]
theorem prime97 {a b : Int} (h : a * b % 97 = 0) : a % 97 = 0 ∨ b % 97 = 0 := by
  have p : ∀ x y : Fin 97, (x.val : Int) * y.val % 97 = 0 → x.val = 0 ∨ y.val = 0 := by decide +kernel
  have ha := Int.emod_nonneg a (show (97 : Int) ≠ 0 by decide)
  have ha2 := Int.emod_lt_of_pos a (show (0 : Int) < 97 by decide)
  have hb := Int.emod_nonneg b (show (97 : Int) ≠ 0 by decide)
  have hb2 := Int.emod_lt_of_pos b (show (0 : Int) < 97 by decide)
  rw [Int.mul_emod] at h
  have := p ⟨(a % 97).toNat, by omega⟩ ⟨(b % 97).toNat, by omega⟩ (by
    dsimp only
    rw [Int.toNat_of_nonneg ha, Int.toNat_of_nonneg hb]
    exact h)
  dsimp only at this
  omega
theorem W_ne {i : Nat} (hi : i < 24) : ∀ {rs : List Nat}, (∀ r ∈ rs, r < 24 ∧ r ≠ i) → W rs i % 97 ≠ 0
  | [], _ => by rw [W]; decide
  | r :: rs, h => by
    rw [W]
    intro z
    rcases prime97 z with z | z
    · have d : ∀ a b : Fin 24, ((5 : Int) ^ a.val - 5 ^ b.val) % 97 = 0 → b.val = a.val := by decide +kernel
      obtain ⟨h1, h2⟩ := h r List.mem_cons_self
      exact h2 (d ⟨i, hi⟩ ⟨r, h1⟩ z)
    · exact W_ne hi (fun r hr => h r (List.mem_cons_of_mem _ hr)) z
theorem gs_none (rs : List Nat) (j : Nat) : ∀ (i : Nat) (c : List Int), (∀ n v, c[n]? = some v → v % 97 = 0 ∨ i + n ∈ rs) → gs rs j i c % 97 = 0
  | _, [], _ => rfl
  | i, x :: xs, h => by
    have a := gs_none rs j (i + 1) xs fun n v hv => by
      have := h (n + 1) v (by rw [List.getElem?_cons_succ]; exact hv)
      rwa [show i + 1 + n = i + (n + 1) by omega]
    have b : x * 5 ^ (i * j) * W rs i % 97 = 0 := by
      rcases h 0 x rfl with z | z
      · rw [Int.mul_assoc, Int.mul_comm]
        exact mul_mod0 z
      · rw [show W rs i = 0 from W_mem z, Int.mul_zero]
        rfl
    rw [gs]
    omega
theorem gs_at (rs : List Nat) (j : Nat) : ∀ (i : Nat) (c : List Int) (n : Nat) (v : Int), c[n]? = some v → (∀ m u, c[m]? = some u → m ≠ n → u % 97 = 0 ∨ i + m ∈ rs) → gs rs j i c % 97 = v * 5 ^ ((i + n) * j) * W rs (i + n) % 97
  | _, [], n, v, h, _ => by simp at h
  | i, x :: xs, 0, v, h, hc => by
    have e : x = v := by simpa using h
    subst e
    have a := gs_none rs j (i + 1) xs fun n v hv => by
      have := hc (n + 1) v (by rw [List.getElem?_cons_succ]; exact hv) (Nat.succ_ne_zero _)
      rwa [show i + 1 + n = i + (n + 1) by omega]
    rw [gs, Int.add_emod, a, Int.add_zero, Int.emod_emod, Nat.add_zero]
  | i, x :: xs, n + 1, v, h, hc => by
    have a := gs_at rs j (i + 1) xs n v (by simpa using h) fun m u hu hm => by
      have := hc (m + 1) u (by rw [List.getElem?_cons_succ]; exact hu) (by omega)
      rwa [show i + 1 + m = i + (m + 1) by omega]
    have b : x * 5 ^ (i * j) * W rs i % 97 = 0 := by
      rcases hc 0 x rfl (by omega) with z | z
      · rw [Int.mul_assoc, Int.mul_comm]
        exact mul_mod0 z
      · rw [show W rs i = 0 from W_mem z, Int.mul_zero]
        rfl
    rw [gs, Int.add_emod, b, Int.zero_add, Int.emod_emod, a, show i + 1 + n = i + (n + 1) by omega]
theorem sj_sub (j : Nat) : ∀ (i : Nat) (xs ys : List Int), xs.length = ys.length → sj j i (List.zipWith (· - ·) xs ys) = sj j i xs - sj j i ys
  | _, [], [], _ => rfl
  | i, x :: xs, y :: ys, h => by
    have := sj_sub j (i + 1) xs ys (by simpa using h)
    rw [List.zipWith_cons_cons, sj, sj, sj, this, Int.sub_mul]
    omega
/-- where two lists differ -/
def unl (xs ys : List Int) : List Nat := (List.range 24).filter fun i => decide (xs[i]? ≠ ys[i]?)
theorem seven {xs ys : List Int} (hx : okc 24 xs) (hy : okc 24 ys) (sx : ∀ m, 1 ≤ m → m ≤ 6 → sj m 0 xs % 97 = 0) (sy : ∀ m, 1 ≤ m → m ≤ 6 → sj m 0 ys % 97 = 0) (hn : xs ≠ ys) : 7 ≤ (unl xs ys).length := by
  have lx : xs.length = 24 := by have := hx.1; omega
  have ly : ys.length = 24 := by have := hy.1; omega
  have hp : ∃ p, p < 24 ∧ xs[p]? ≠ ys[p]? := by
    refine Classical.byContradiction fun z => hn (List.ext_getElem? fun i => ?_)
    by_cases hi : i < 24
    · exact Classical.byContradiction fun q => z ⟨i, hi, q⟩
    · rw [List.getElem?_eq_none (by omega), List.getElem?_eq_none (by omega)]
  obtain ⟨p, hp, hd⟩ := hp
  refine Classical.byContradiction fun hl => ?_
  have nd : (unl xs ys).Nodup := List.Nodup.sublist List.filter_sublist List.nodup_range
  have hmem : p ∈ unl xs ys := List.mem_filter.mpr ⟨List.mem_range.mpr hp, by simpa using hd⟩
  have hlen : ((unl xs ys).erase p).length ≤ 5 := by
    rw [List.length_erase_of_mem hmem]
    omega
  have z := gs_zero (c := List.zipWith (· - ·) xs ys) (fun m h1 h2 => by rw [sj_sub m 0 xs ys (by omega)]; exact sub_mod (sx m h1 h2) (sy m h1 h2)) ((unl xs ys).erase p) 1 (Nat.le_refl _) (by omega)
  obtain ⟨x, hxp⟩ : ∃ x, xs[p]? = some x := ⟨_, List.getElem?_eq_getElem (by omega)⟩
  obtain ⟨y, hyp⟩ : ∃ y, ys[p]? = some y := ⟨_, List.getElem?_eq_getElem (by omega)⟩
  have hzp : (List.zipWith (· - ·) xs ys)[p]? = some (x - y) := by
    rw [List.getElem?_zipWith, hxp, hyp]
  rw [gs_at _ 1 0 _ p (x - y) hzp fun m u hu hm => by
    rw [List.getElem?_zipWith] at hu
    by_cases hm24 : m < 24
    · by_cases e : xs[m]? = ys[m]?
      · refine .inl ?_
        obtain ⟨a, ha⟩ : ∃ a, xs[m]? = some a := ⟨_, List.getElem?_eq_getElem (by omega)⟩
        rw [← e, ha] at hu
        have : a - a = u := by simpa using hu
        rw [← this, Int.sub_self]
        rfl
      · refine .inr ?_
        rw [Nat.zero_add]
        exact (List.Nodup.mem_erase_iff nd).mpr ⟨hm, List.mem_filter.mpr ⟨List.mem_range.mpr hm24, by simpa using e⟩⟩
    · rw [List.getElem?_eq_none (by omega)] at hu
      simp at hu] at z
  rw [Nat.zero_add] at z
  have bx := hx.2 x (List.mem_of_getElem? hxp)
  have by' := hy.2 y (List.mem_of_getElem? hyp)
  rcases prime97 z with z | z
  · have t := turn_ne (d := x - y) (p * 1) z
    have : x = y := by omega
    rw [hxp, hyp, this] at hd
    exact hd rfl
  · refine W_ne hp (fun r hr => ?_) z
    obtain ⟨h1, h2⟩ := (List.Nodup.mem_erase_iff nd).mp hr
    exact ⟨List.mem_range.mp (List.mem_filter.mp h2).1, h1⟩
/-! ### rests by 97 as a field -/
abbrev G := Fin 97
def cc (a : Int) : G := ⟨(a % 97).toNat, by omega⟩
theorem cc_add (a b : Int) : cc (a + b) = cc a + cc b := by
  apply Fin.ext
  show ((a + b) % 97).toNat = ((a % 97).toNat + (b % 97).toNat) % 97
  omega
theorem cc_sub (a b : Int) : cc (a - b) = cc a - cc b := by
  apply Fin.ext
  rw [Fin.val_sub]
  show ((a - b) % 97).toNat = (97 - (b % 97).toNat + (a % 97).toNat) % 97
  omega
theorem cc_mul (a b : Int) : cc (a * b) = cc a * cc b := by
  apply Fin.ext
  rw [Fin.val_mul]
  show ((a * b) % 97).toNat = ((a % 97).toNat * (b % 97).toNat) % 97
  have h : (a * b) % 97 = ((a % 97) * (b % 97)) % 97 := Int.mul_emod a b 97
  rw [h]
  have ha := Int.emod_nonneg a (show (97 : Int) ≠ 0 by decide)
  have hb := Int.emod_nonneg b (show (97 : Int) ≠ 0 by decide)
  obtain ⟨x, hx⟩ : ∃ x : Nat, a % 97 = x := ⟨(a % 97).toNat, by omega⟩
  obtain ⟨y, hy⟩ : ∃ y : Nat, b % 97 = y := ⟨(b % 97).toNat, by omega⟩
  rw [hx, hy, Int.toNat_natCast, Int.toNat_natCast, ← Int.natCast_mul]
  omega
theorem cc_mod (a : Int) : cc (a % 97) = cc a := by
  apply Fin.ext
  show ((a % 97) % 97).toNat = (a % 97).toNat
  omega
theorem cc_eq {a b : Int} : cc a = cc b ↔ a % 97 = b % 97 := by
  constructor
  · intro h
    have h2 : (a % 97).toNat = (b % 97).toNat := congrArg Fin.val h
    omega
  · intro h
    apply Fin.ext
    show (a % 97).toNat = (b % 97).toNat
    rw [h]
theorem cc_0 {a : Int} : cc a = 0 ↔ a % 97 = 0 := (cc_eq (a := a) (b := 0))
theorem cc_small {a b : Int} (ha : 0 ≤ a ∧ a ≤ 96) (hb : 0 ≤ b ∧ b ≤ 96) (h : cc a = cc b) : a = b := by
  have := cc_eq.mp h
  omega
theorem fld {x y : G} (h : x * y = 0) : x = 0 ∨ y = 0 := by
  have : ∀ x y : G, x * y = 0 → x = 0 ∨ y = 0 := by decide +kernel
  exact this x y h
/-- the inverse as the program reckons it -/
def ivI (a : Int) : Int := a ^ 95 % 97
theorem iv_cc {a : Int} (h : cc a ≠ 0) : cc a * cc (ivI a) = 1 := by
  unfold ivI
  rw [cc_mod, ← cc_mul]
  have g : ∀ x : Fin 97, x.val ≠ 0 → ((x.val : Int) * (x.val : Int) ^ 95) % 97 = 1 := by decide +kernel
  have hr := Int.emod_nonneg a (show (97 : Int) ≠ 0 by decide)
  have hr2 := Int.emod_lt_of_pos a (show (0 : Int) < 97 by decide)
  have g2 := g ⟨(a % 97).toNat, by omega⟩ (fun z => h (cc_0.mpr (by
    have z2 : (a % 97).toNat = 0 := z
    omega)))
  dsimp only at g2
  rw [Int.toNat_of_nonneg hr] at g2
  refine (cc_eq (b := 1)).mpr ?_
  rw [Int.mul_emod, show a ^ 95 % 97 = (a % 97) ^ 95 % 97 from by
    have pm : ∀ n : Nat, a ^ n % 97 = (a % 97) ^ n % 97 := fun n => by
      induction n with
      | zero => rw [Int.pow_zero, Int.pow_zero]
      | succ n ih => rw [Int.pow_succ, Int.pow_succ, Int.mul_emod, ih, Int.mul_emod ((a % 97) ^ n) (a % 97), Int.emod_emod]
    exact pm 95, ← Int.emod_emod a 97, ← Int.mul_emod]
  rw [Int.emod_emod] at *
  exact g2
/-- the sign of a place -/
def pw (i : Nat) : G := cc (5 ^ i)
theorem pw_ne (i : Nat) : pw i ≠ 0 := fun z => by
  have h := cc_0.mp z
  have := turn_ne (d := 1) i (by rw [Int.one_mul]; exact h)
  cases this
theorem pw_inj {i k : Nat} (hi : i < 24) (hk : k < 24) (h : pw i = pw k) : i = k := by
  have d : ∀ a b : Fin 24, (5 : Int) ^ a.val % 97 = 5 ^ b.val % 97 → a.val = b.val := by decide +kernel
  exact d ⟨i, hi⟩ ⟨k, hk⟩ (cc_eq.mp h)
theorem pw_mul (i j : Nat) : cc (5 ^ (i * (j + 1))) = cc (5 ^ (i * j)) * pw i := by
  unfold pw
  rw [Nat.mul_succ, Int.pow_add, cc_mul]
/-- the powers 1 to 6 -/
def pj (X : G) : Nat → G
  | 0 => X
  | k + 1 => pj X k * X
theorem pj_ok (i : Nat) : ∀ k, cc (5 ^ (i * (k + 1))) = pj (pw i) k
  | 0 => by rw [Nat.zero_add, Nat.mul_one]; rfl
  | k + 1 => by rw [pw_mul, pj_ok i k]; rfl
section
variable {R : Type} [Lean.Grind.CommRing R]
theorem id_below (a b X Y : R) : (a * X + b * Y) * (a * (X * X * X) + b * (Y * Y * Y)) - (a * (X * X) + b * (Y * Y)) * (a * (X * X) + b * (Y * Y)) = a * (b * (X * (Y * ((X - Y) * (X - Y))))) := by grind
theorem id_s (a b X Y : R) : (a * X + b * Y) * (a * (X * X * X * X) + b * (Y * Y * Y * Y)) - (a * (X * X) + b * (Y * Y)) * (a * (X * X * X) + b * (Y * Y * Y)) = (X + Y) * (a * (b * (X * (Y * ((X - Y) * (X - Y)))))) := by grind
theorem id_p (a b X Y : R) : (a * (X * X) + b * (Y * Y)) * (a * (X * X * X * X) + b * (Y * Y * Y * Y)) - (a * (X * X * X) + b * (Y * Y * Y)) * (a * (X * X * X) + b * (Y * Y * Y)) = X * Y * (a * (b * (X * (Y * ((X - Y) * (X - Y)))))) := by grind
theorem id_quot (s m o : R) (h : m * o = 1) : s * m * o = s := by grind
theorem id_rx (X Y : R) : X * X - (X + Y) * X + X * Y = 0 := by grind
theorem id_ry (X Y : R) : Y * Y - (X + Y) * Y + X * Y = 0 := by grind
theorem id_rec (a b X Y U V : R) : (X + Y) * (a * (U * X) + b * (V * Y)) - X * Y * (a * U + b * V) = a * (U * X * X) + b * (V * Y * Y) := by grind
theorem id_rec0 (a b X Y : R) : (X + Y) * (a * (X * X) + b * (Y * Y)) - X * Y * (a * X + b * Y) = a * (X * X * X) + b * (Y * Y * Y) := by grind
/-- from the recurrence back to the two turns -/
theorem id_back (s p X a U _W : R) (h : X * X - s * X + p = 0) : s * (a * (U * X)) - p * (a * U) = a * (U * X * X) := by grind
theorem id_f0 (F0 F1 Y X a b i1 i2 : R) (h1 : X * (X - Y) * i1 = 1) (h2 : Y * i2 = 1) (ha : a = (F1 - F0 * Y) * i1) (hb : b = (F0 - a * X) * i2) : F0 = a * X + b * Y ∧ F1 = a * (X * X) + b * (Y * Y) := by
  have e0 : F0 = a * X + b * Y := by rw [hb]; grind
  have e1 : a * (X * (X - Y)) = F1 - F0 * Y := by rw [ha]; grind
  exact ⟨e0, by grind⟩
theorem id_inv (V X i : R) (h : X * i = 1) : V * X * i = V := by grind
theorem id_quo1 (V X i : R) (h : V * X * i = 1) : V * (X * X) * i = X := by grind
theorem id_add0 (a b c : R) (h : a = b + c) : a - b - c = 0 := by grind
theorem id_sub (a b : R) (h : a - b = 0) : a = b := by grind
theorem id_inv' (V X i : R) (h : X * i = 1) : V * i * X = V := by grind
theorem id_self (a : R) : a - a = 0 := by grind
theorem id_dist (s p U V A B X Y : R) : s * (U * (A * X) + V * (B * Y)) - p * (U * A + V * B) = (s * (U * (A * X)) - p * (U * A)) + (s * (V * (B * Y)) - p * (V * B)) := by grind
theorem id_z1 (x v P : R) : v * P + (x - v - x) * P = 0 := by grind
theorem id_z2 (x u y v P Q : R) : u * P + v * Q + (x - u - x) * P + (y - v - y) * Q = 0 := by grind
theorem id_o1 (x y P f : R) (h : f + (y - x) * P = 0) : f = (x - y) * P := by grind
theorem id_o2 (x y P x' y' Q f : R) (h : f + (y - x) * P + (y' - x') * Q = 0) : f = (x - y) * P + (x' - y') * Q := by grind
end
theorem mul_ne {x y : G} (hx : x ≠ 0) (hy : y ≠ 0) : x * y ≠ 0 := fun z => by
  rcases fld z with h | h
  · exact hx h
  · exact hy h
theorem sub_ne {x y : G} (h : x ≠ y) : x - y ≠ 0 := fun z => h (id_sub x y z)
/-! ### what makes six sums -/
def fs6 (fs : List Int) : Prop := fs.length = 6 ∧ ∀ v ∈ fs, 0 ≤ v ∧ v ≤ 96
/-- the sum k -/
def fk (fs : List Int) (k : Nat) : G := cc (fs.getD k 0)
def One (fs : List Int) (i : Nat) (V : G) : Prop := ∀ k, k < 6 → fk fs k = V * pj (pw i) k
def Two (fs : List Int) (i : Nat) (U : G) (k : Nat) (V : G) : Prop := ∀ m, m < 6 → fk fs m = U * pj (pw i) m + V * pj (pw k) m
def OneR (fs : List Int) : Option (Nat × Int) → Prop
  | some (i, v) => i < 24 ∧ (0 ≤ v ∧ v ≤ 96) ∧ One fs i (cc v)
  | none => ∀ i, i < 24 → ∀ V : G, V ≠ 0 → ¬ One fs i V
def OneOr (fs : List Int) : Prop := ∀ i k, i < 24 → k < 24 → i ≠ k → ∀ U V : G, U ≠ 0 → V ≠ 0 → ¬ Two fs i U k V
def TwoR (fs : List Int) : Option ((Nat × Int) × (Nat × Int)) → Prop
  | some ((i, u), (k, v)) => i < 24 ∧ k < 24 ∧ i ≠ k ∧ (0 ≤ u ∧ u ≤ 96) ∧ (0 ≤ v ∧ v ≤ 96) ∧ Two fs i (cc u) k (cc v)
  | none => ∀ i k, i < 24 → k < 24 → i ≠ k → ∀ U V : G, U ≠ 0 → V ≠ 0 → ¬ Two fs i U k V
theorem fk_at {fs : List Int} (h : fs6 fs) {k : Nat} (hk : k < 6) : ∃ v, fs[k]? = some v ∧ (0 ≤ v ∧ v ≤ 96) ∧ fk fs k = cc v := by
  have hl : k < fs.length := by rw [h.1]; exact hk
  refine ⟨fs[k], List.getElem?_eq_getElem hl, h.2 _ (List.getElem_mem _), ?_⟩
  unfold fk
  rw [List.getD_eq_getElem?_getD, List.getElem?_eq_getElem hl]
  rfl
theorem pj_ne {X : G} (h : X ≠ 0) : ∀ k, pj X k ≠ 0
  | 0 => h
  | k + 1 => mul_ne (pj_ne h k) h
/-- one turn: found -/
theorem one_some {fs : List Int} {x : G} {i : Nat} {v : G} (hx : x = pw i) (hr : ∀ k, k < 5 → fk fs (k + 1) = fk fs k * x) (hv : fk fs 0 = v * x) : One fs i v := by
  subst hx
  intro k
  induction k with
  | zero => intro _; exact hv
  | succ k ih =>
    intro hk
    rw [hr k (by omega), ih (by omega)]
    exact Lean.Grind.Semiring.mul_assoc _ _ _
/-- one turn: what it tells -/
theorem one_tells {fs : List Int} {i : Nat} {V : G} (h : One fs i V) (hV : V ≠ 0) : (∀ k, k < 6 → fk fs k ≠ 0) ∧ (∀ k, k < 5 → fk fs (k + 1) = fk fs k * pw i) ∧ ∀ o, fk fs 0 * o = 1 → fk fs 1 * o = pw i := by
  refine ⟨fun k hk => ?_, fun k hk => ?_, fun o ho => ?_⟩
  · rw [h k hk]
    exact mul_ne hV (pj_ne (pw_ne i) k)
  · rw [h (k + 1) (by omega), h k (by omega)]
    exact (Lean.Grind.Semiring.mul_assoc _ _ _).symm
  · rw [h 0 (by omega)] at ho
    rw [h 1 (by omega)]
    exact id_quo1 V (pw i) o ho
/-- two turns: found -/
theorem two_some {fs : List Int} {s p U V : G} {i k : Nat} (h0 : fk fs 0 = U * pw i + V * pw k) (h1 : fk fs 1 = U * (pw i * pw i) + V * (pw k * pw k)) (hi : pw i * pw i - s * pw i + p = 0) (hk : pw k * pw k - s * pw k + p = 0)
    (hr : ∀ j, j < 4 → fk fs (j + 2) = s * fk fs (j + 1) - p * fk fs j) : Two fs i U k V := by
  have key : ∀ m, m < 5 → fk fs m = U * pj (pw i) m + V * pj (pw k) m ∧ fk fs (m + 1) = U * pj (pw i) (m + 1) + V * pj (pw k) (m + 1) := fun m => by
    induction m with
    | zero => intro _; exact ⟨h0, h1⟩
    | succ m ih =>
      intro hm
      obtain ⟨a, b⟩ := ih (by omega)
      refine ⟨b, ?_⟩
      rw [hr m (by omega), a, b]
      have x1 := id_back s p (pw i) U (pj (pw i) m) 0 hi
      have x2 := id_back s p (pw k) V (pj (pw k) m) 0 hk
      show s * (U * (pj (pw i) m * pw i) + V * (pj (pw k) m * pw k)) - p * (U * pj (pw i) m + V * pj (pw k) m) = U * (pj (pw i) m * pw i * pw i) + V * (pj (pw k) m * pw k * pw k)
      rw [← x1, ← x2]
      exact id_dist s p U V (pj (pw i) m) (pj (pw k) m) (pw i) (pw k)
  intro m hm
  by_cases h : m = 5
  · subst h
    exact (key 4 (by omega)).2
  · exact (key m (by omega)).1
/-- two turns: what it tells -/
theorem two_tells {fs : List Int} {i k : Nat} {U V : G} (h : Two fs i U k V) (hi : i < 24) (hk : k < 24) (hik : i ≠ k) (hU : U ≠ 0) (hV : V ≠ 0) :
    fk fs 0 * fk fs 2 - fk fs 1 * fk fs 1 ≠ 0 ∧ ∀ o s p, (fk fs 0 * fk fs 2 - fk fs 1 * fk fs 1) * o = 1 → s = (fk fs 0 * fk fs 3 - fk fs 1 * fk fs 2) * o → p = (fk fs 1 * fk fs 3 - fk fs 2 * fk fs 2) * o →
      s = pw i + pw k ∧ p = pw i * pw k ∧ ∀ j, j < 4 → fk fs (j + 2) = s * fk fs (j + 1) - p * fk fs j := by
  have hb : fk fs 0 * fk fs 2 - fk fs 1 * fk fs 1 = U * (V * (pw i * (pw k * ((pw i - pw k) * (pw i - pw k))))) := by
    rw [h 0 (by omega), h 1 (by omega), h 2 (by omega)]
    exact id_below U V (pw i) (pw k)
  have hne : pw i - pw k ≠ 0 := sub_ne fun z => hik (pw_inj hi hk z)
  refine ⟨by rw [hb]; exact mul_ne hU (mul_ne hV (mul_ne (pw_ne i) (mul_ne (pw_ne k) (mul_ne hne hne)))), fun o s p ho hs hp => ?_⟩
  have e1 : s = pw i + pw k := by
    rw [hs, h 0 (by omega), h 1 (by omega), h 2 (by omega), h 3 (by omega)]
    rw [hb] at ho
    refine (congrArg (· * o) (id_s U V (pw i) (pw k))).trans (id_quot _ _ o ho)
  have e2 : p = pw i * pw k := by
    rw [hp, h 1 (by omega), h 2 (by omega), h 3 (by omega)]
    rw [hb] at ho
    refine (congrArg (· * o) (id_p U V (pw i) (pw k))).trans (id_quot _ _ o ho)
  refine ⟨e1, e2, fun j hj => ?_⟩
  rw [e1, e2, h (j + 2) (by omega), h (j + 1) (by omega), h j (by omega)]
  exact (id_rec U V (pw i) (pw k) (pj (pw i) j) (pj (pw k) j)).symm
/-! ### the mended cell -/
def sld (ys : List Int) : Prop := ∀ m, 1 ≤ m → m ≤ 6 → sj m 0 ys % 97 = 0
def Md (xs : List Int) : Option (List Int) → Prop
  | some ys => okc 24 ys ∧ sld ys ∧ (unl xs ys).length ≤ 2
  | none => ∀ ys, okc 24 ys → sld ys → 2 < (unl xs ys).length
/-- the sums of a cell -/
def sumsOf (fs xs : List Int) : Prop := ∀ k, k < 6 → fk fs k = cc (sj (k + 1) 0 xs)
theorem sums_set {fs xs : List Int} {i : Nat} {x y : Int} (h : xs[i]? = some x) (k : Nat) : cc (sj (k + 1) 0 (xs.set i y)) = cc (sj (k + 1) 0 xs) + cc (y - x) * pj (pw i) k := by
  rw [sj_set (k + 1) 0 i xs x y h, cc_add, cc_mul, Nat.zero_add, pj_ok]
theorem unl_set {xs : List Int} {i : Nat} {y : Int} : (unl xs (xs.set i y)).length ≤ 1 := by
  have : ∀ n ∈ unl xs (xs.set i y), n = i := fun n hn => by
    have h := (List.mem_filter.mp hn).2
    refine Classical.byContradiction fun z => ?_
    rw [List.getElem?_set, if_neg (fun q => z q.symm)] at h
    simp at h
  have nd : (unl xs (xs.set i y)).Nodup := List.Nodup.sublist List.filter_sublist List.nodup_range
  match e : unl xs (xs.set i y), nd, this with
  | [], _, _ => exact Nat.zero_le _
  | [_], _, _ => exact Nat.le_refl _
  | a :: b :: l, nd, t =>
    have h1 := t a List.mem_cons_self
    have h2 := t b (List.mem_cons_of_mem _ List.mem_cons_self)
    rw [h1, h2] at nd
    exact absurd List.mem_cons_self (List.nodup_cons.mp nd).1
theorem unl_set2 {xs : List Int} {i k : Nat} {y z : Int} : (unl xs ((xs.set i y).set k z)).length ≤ 2 := by
  have : ∀ n ∈ unl xs ((xs.set i y).set k z), n ∈ [i, k] := fun n hn => by
    have h := (List.mem_filter.mp hn).2
    refine Classical.byContradiction fun q => ?_
    simp only [List.mem_cons, List.not_mem_nil, or_false, not_or] at q
    rw [List.getElem?_set, if_neg (fun w => q.2 w.symm), List.getElem?_set, if_neg (fun w => q.1 w.symm)] at h
    simp at h
  have nd : (unl xs ((xs.set i y).set k z)).Nodup := List.Nodup.sublist List.filter_sublist List.nodup_range
  match e : unl xs ((xs.set i y).set k z), nd, this with
  | [], _, _ => exact Nat.zero_le _
  | [_], _, _ => exact Nat.le_of_ble_eq_true rfl
  | [_, _], _, _ => exact Nat.le_refl _
  | a :: b :: c :: l, nd, t =>
    have h1 := t a List.mem_cons_self
    have h2 := t b (List.mem_cons_of_mem _ List.mem_cons_self)
    have h3 := t c (List.mem_cons_of_mem _ (List.mem_cons_of_mem _ List.mem_cons_self))
    simp only [List.mem_cons, List.not_mem_nil, or_false] at h1 h2 h3
    simp only [List.nodup_cons, List.mem_cons, not_or] at nd
    obtain ⟨⟨n1, n2, _⟩, ⟨n3, _⟩, _⟩ := nd
    rcases h1 with rfl | rfl <;> rcases h2 with rfl | rfl <;> rcases h3 with rfl | rfl <;> first | exact absurd rfl n1 | exact absurd rfl n2 | exact absurd rfl n3
theorem okc_set {xs : List Int} {i : Nat} {y : Int} (h : okc 24 xs) (hy : 0 ≤ y ∧ y ≤ 96) : okc 24 (xs.set i y) := ⟨by rw [List.length_set]; exact h.1, fun v hv => by
  rcases List.mem_or_eq_of_mem_set hv with z | z
  · exact h.2 v z
  · rw [z]; exact hy⟩
theorem sld_of {fs xs : List Int} (h : sumsOf fs xs) (hz : ∀ k, k < 6 → fk fs k = 0) : sld xs := fun m h1 h2 => by
  have := h (m - 1) (by omega)
  rw [hz _ (by omega), show m - 1 + 1 = m by omega] at this
  exact cc_0.mp this.symm
theorem okc_mod (a : Int) : 0 ≤ a % 97 ∧ a % 97 ≤ 96 := by omega
theorem md_one {fs xs : List Int} {i : Nat} {v x : Int} (hx : okc 24 xs) (h : sumsOf fs xs) (ho : One fs i (cc v)) (hi : xs[i]? = some x) : Md xs (some (xs.set i ((x - v) % 97))) := by
  refine ⟨okc_set hx (okc_mod _), fun m h1 h2 => ?_, Nat.le_trans unl_set (by decide)⟩
  obtain ⟨k, rfl⟩ : ∃ k, m = k + 1 := ⟨m - 1, by omega⟩
  refine cc_0.mp ?_
  rw [sums_set (fs := fs) hi, ← h k (by omega), ho k (by omega), cc_sub, cc_mod, cc_sub]
  exact id_z1 _ _ _
theorem md_two {fs xs : List Int} {i k : Nat} {u v x y : Int} (hx : okc 24 xs) (h : sumsOf fs xs) (ho : Two fs i (cc u) k (cc v)) (hi : xs[i]? = some x) (hk : xs[k]? = some y) (hik : i ≠ k) : Md xs (some ((xs.set i ((x - u) % 97)).set k ((y - v) % 97))) := by
  refine ⟨okc_set (okc_set hx (okc_mod _)) (okc_mod _), fun m h1 h2 => ?_, unl_set2⟩
  obtain ⟨n, rfl⟩ : ∃ k, m = k + 1 := ⟨m - 1, by omega⟩
  refine cc_0.mp ?_
  have hk2 : (xs.set i ((x - u) % 97))[k]? = some y := by rw [List.getElem?_set, if_neg hik]; exact hk
  rw [sums_set (fs := fs) hk2, sums_set (fs := fs) hi, ← h n (by omega), ho n (by omega), cc_sub, cc_mod, cc_sub, cc_sub, cc_mod, cc_sub]
  exact id_z2 _ _ _ _ _ _
/-- no more than two places unlike -/
theorem near {xs ys : List Int} (hx : okc 24 xs) (hy : okc 24 ys) (h : (unl xs ys).length ≤ 2) :
    ys = xs ∨ (∃ i x y, i < 24 ∧ xs[i]? = some x ∧ (0 ≤ y ∧ y ≤ 96) ∧ x ≠ y ∧ (0 ≤ x ∧ x ≤ 96) ∧ ys = xs.set i y) ∨
    ∃ i k x y x' y', i < 24 ∧ k < 24 ∧ i ≠ k ∧ xs[i]? = some x ∧ xs[k]? = some x' ∧ x ≠ y ∧ x' ≠ y' ∧ (0 ≤ x ∧ x ≤ 96) ∧ (0 ≤ y ∧ y ≤ 96) ∧ (0 ≤ x' ∧ x' ≤ 96) ∧ (0 ≤ y' ∧ y' ≤ 96) ∧ ys = (xs.set i y).set k y' := by
  have lx : xs.length = 24 := by have := hx.1; omega
  have ly : ys.length = 24 := by have := hy.1; omega
  have hm : ∀ n, n ∉ unl xs ys → xs[n]? = ys[n]? := fun n hn => by
    by_cases h24 : n < 24
    · refine Classical.byContradiction fun z => hn (List.mem_filter.mpr ⟨List.mem_range.mpr h24, by simpa using z⟩)
    · rw [List.getElem?_eq_none (by omega), List.getElem?_eq_none (by omega)]
  have hin : ∀ n ∈ unl xs ys, n < 24 ∧ ∃ x y, xs[n]? = some x ∧ ys[n]? = some y ∧ x ≠ y ∧ (0 ≤ x ∧ x ≤ 96) ∧ (0 ≤ y ∧ y ≤ 96) := fun n hn => by
    obtain ⟨h1, h2⟩ := List.mem_filter.mp hn
    have h1 := List.mem_range.mp h1
    obtain ⟨x, hx1⟩ : ∃ x, xs[n]? = some x := ⟨_, List.getElem?_eq_getElem (by omega)⟩
    obtain ⟨y, hy1⟩ : ∃ y, ys[n]? = some y := ⟨_, List.getElem?_eq_getElem (by omega)⟩
    refine ⟨h1, x, y, hx1, hy1, fun z => ?_, hx.2 x (List.mem_of_getElem? hx1), hy.2 y (List.mem_of_getElem? hy1)⟩
    rw [hx1, hy1, z] at h2
    simp at h2
  have nd : (unl xs ys).Nodup := List.Nodup.sublist List.filter_sublist List.nodup_range
  match e : unl xs ys, nd, h with
  | [], _, _ =>
    refine .inl (List.ext_getElem? fun n => (hm n ?_).symm)
    rw [e]
    exact List.not_mem_nil
  | [i], _, _ =>
    obtain ⟨h24, x, y, h1, h2, h3, h4, h5⟩ := hin i (by rw [e]; exact List.mem_cons_self)
    refine .inr (.inl ⟨i, x, y, h24, h1, h5, h3, h4, List.ext_getElem? fun n => ?_⟩)
    rw [List.getElem?_set]
    by_cases hn : i = n
    · subst hn
      rw [if_pos rfl, if_pos (by omega), h2]
    · rw [if_neg hn]
      exact (hm n (by rw [e]; simpa using fun z => hn z.symm)).symm
  | [i, k], nd, _ =>
    obtain ⟨h24, x, y, h1, h2, h3, h4, h5⟩ := hin i (by rw [e]; exact List.mem_cons_self)
    obtain ⟨k24, x', y', g1, g2, g3, g4, g5⟩ := hin k (by rw [e]; exact List.mem_cons_of_mem _ List.mem_cons_self)
    have hik : i ≠ k := fun z => by
      rw [z] at nd
      exact absurd List.mem_cons_self (List.nodup_cons.mp nd).1
    refine .inr (.inr ⟨i, k, x, y, x', y', h24, k24, hik, h1, g1, h3, g3, h4, h5, g4, g5, List.ext_getElem? fun n => ?_⟩)
    rw [List.getElem?_set]
    by_cases hn : k = n
    · subst hn
      rw [if_pos rfl, if_pos (by rw [List.length_set]; omega), g2]
    · rw [if_neg hn, List.getElem?_set]
      by_cases hn2 : i = n
      · subst hn2
        rw [if_pos rfl, if_pos (by omega), h2]
      · rw [if_neg hn2]
        exact (hm n (by rw [e]; simp only [List.mem_cons, List.not_mem_nil, or_false, not_or]; exact ⟨fun z => hn2 z.symm, fun z => hn z.symm⟩)).symm
  | _ :: _ :: _ :: _, _, h => simp at h
theorem diff_ne {x y : Int} (hx : 0 ≤ x ∧ x ≤ 96) (hy : 0 ≤ y ∧ y ≤ 96) (h : x ≠ y) : cc (x - y) ≠ 0 := fun z => by
  have := cc_0.mp z
  omega
/-- none is near -/
theorem md_none {fs xs : List Int} (hx : okc 24 xs) (h : sumsOf fs xs) (hz : ¬ ∀ k, k < 6 → fk fs k = 0) (h1 : OneR fs none) (h2 : TwoR fs none) : Md xs none := fun ys hy hs => by
  refine Classical.byContradiction fun hn => ?_
  have hs' : ∀ k, k < 6 → cc (sj (k + 1) 0 ys) = 0 := fun k hk => cc_0.mpr (hs (k + 1) (by omega) (by omega))
  rcases near hx hy (by omega) with rfl | ⟨i, x, y, hi, hxi, hyb, hne, hxb, rfl⟩ | ⟨i, k, x, y, x', y', hi, hk, hik, hxi, hxk, hne, hne', hxb, hyb, hxb', hyb', rfl⟩
  · exact hz fun k hk => by rw [h k hk]; exact hs' k hk
  · refine h1 i hi (cc (x - y)) (diff_ne hxb hyb hne) fun k hk => ?_
    have := hs' k hk
    rw [sums_set (fs := fs) hxi, ← h k hk, cc_sub] at this
    rw [cc_sub]
    exact id_o1 _ _ _ _ this
  · refine h2 i k hi hk hik (cc (x - y)) (cc (x' - y')) (diff_ne hxb hyb hne) (diff_ne hxb' hyb' hne') fun m hm => ?_
    have := hs' m hm
    have hk2 : (xs.set i y)[k]? = some x' := by rw [List.getElem?_set, if_neg hik]; exact hxk
    rw [sums_set (fs := fs) hk2, sums_set (fs := fs) hxi, ← h m hm, cc_sub, cc_sub] at this
    rw [cc_sub, cc_sub]
    exact id_o2 _ _ _ _ _ _ _ this
end K21


set_option Elab.async false
set_option linter.all false
set_option maxRecDepth 100000
set_option maxHeartbeats 4000000
namespace K21
open PySem PySem.Spec PyProof.Rows L2 Vs
/-! ### turned cells -/
theorem nd_sub : ∀ {A B : List Nat}, A.Nodup → (∀ a ∈ A, a ∈ B) → A.length ≤ B.length
  | [], _, _, _ => Nat.zero_le _
  | a :: A, B, nd, h => by
    have nd' := List.nodup_cons.mp nd
    have hm := h a List.mem_cons_self
    have := nd_sub (A := A) (B := B.erase a) nd'.2 fun x hx => (List.mem_erase_of_ne (fun e => nd'.1 (by rw [← e]; exact hx))).mpr (h x (List.mem_cons_of_mem _ hx))
    rw [List.length_erase_of_mem hm] at this
    have := List.length_pos_of_mem hm
    rw [List.length_cons]
    omega
theorem unl_nd (xs ys : List Int) : (unl xs ys).Nodup := List.Nodup.sublist List.filter_sublist List.nodup_range
theorem unl_mem {xs ys : List Int} {i : Nat} : i ∈ unl xs ys ↔ i < 24 ∧ xs[i]? ≠ ys[i]? := by
  unfold unl
  rw [List.mem_filter, List.mem_range, decide_eq_true_eq]
theorem unl_lo {xs ys : List Int} {P : List Nat} (nd : P.Nodup) (h : ∀ p ∈ P, p < 24 ∧ xs[p]? ≠ ys[p]?) : P.length ≤ (unl xs ys).length := nd_sub nd fun p hp => unl_mem.mpr (h p hp)
theorem unl_hi {xs ys : List Int} {P : List Nat} (h : ∀ i, i < 24 → xs[i]? ≠ ys[i]? → i ∈ P) : (unl xs ys).length ≤ P.length := nd_sub (unl_nd _ _) fun p hp => h p (unl_mem.mp hp).1 (unl_mem.mp hp).2
theorem unl_sym (xs ys : List Int) : (unl xs ys).length ≤ (unl ys xs).length := nd_sub (unl_nd _ _) fun p hp => unl_mem.mpr ⟨(unl_mem.mp hp).1, fun e => (unl_mem.mp hp).2 e.symm⟩
theorem unl_tri (xs ys zs : List Int) : (unl xs zs).length ≤ (unl xs ys).length + (unl ys zs).length := by
  rw [← List.length_append]
  refine nd_sub (unl_nd _ _) fun p hp => ?_
  obtain ⟨h1, h2⟩ := unl_mem.mp hp
  rw [List.mem_append, unl_mem, unl_mem]
  by_cases e : xs[p]? = ys[p]?
  · exact .inr ⟨h1, fun z => h2 (e.trans z)⟩
  · exact .inl ⟨h1, e⟩
/-- one turn -/
def add1 (ys : List Int) (t : Nat × Int) : List Int := ys.set t.1 ((ys.getD t.1 0 + t.2) % 97)
theorem add_okc {ts : List (Nat × Int)} : ∀ {xs : List Int}, okc 24 xs → okc 24 (ts.foldl add1 xs) := by
  induction ts with
  | nil => exact fun h => h
  | cons t ts ih => exact fun h => ih (okc_set h (okc_mod _))
theorem add_out {ts : List (Nat × Int)} {i : Nat} : ∀ {xs : List Int}, i ∉ ts.map (·.1) → (ts.foldl add1 xs)[i]? = xs[i]? := by
  induction ts with
  | nil => exact fun _ => rfl
  | cons t ts ih =>
    intro xs h
    rw [List.map_cons, List.mem_cons, not_or] at h
    rw [List.foldl_cons, ih h.2]
    unfold add1
    rw [List.getElem?_set, if_neg (fun e => h.1 e.symm)]
theorem add_in {ts : List (Nat × Int)} {p : Nat} {a x : Int} : ∀ {xs : List Int}, (ts.map (·.1)).Nodup → (p, a) ∈ ts → xs[p]? = some x → (ts.foldl add1 xs)[p]? = some ((x + a) % 97) := by
  induction ts with
  | nil => exact fun _ h => (List.not_mem_nil h).elim
  | cons t ts ih =>
    intro xs nd hm hx
    rw [List.map_cons, List.nodup_cons] at nd
    rw [List.foldl_cons]
    rcases List.mem_cons.mp hm with e | hm
    · subst e
      rw [add_out nd.1]
      unfold add1
      have hl := (List.getElem?_eq_some_iff.mp hx).1
      rw [List.getElem?_set, if_pos rfl, if_pos hl, List.getD_eq_getElem?_getD, hx]
      rfl
    · refine ih nd.2 hm ?_
      unfold add1
      have : t.1 ≠ p := fun e => nd.1 (e ▸ List.mem_map_of_mem (f := (·.1)) hm)
      rw [List.getElem?_set, if_neg this]
      exact hx
/-- good turns -/
def Tns (ts : List (Nat × Int)) : Prop := (ts.map (·.1)).Nodup ∧ ∀ t ∈ ts, t.1 < 24 ∧ t.2 % 97 ≠ 0
theorem add_unl_hi {ts : List (Nat × Int)} {xs : List Int} : (unl (ts.foldl add1 xs) xs).length ≤ ts.length := by
  have := unl_hi (xs := ts.foldl add1 xs) (ys := xs) (P := ts.map (·.1)) fun i _ hd => Classical.byContradiction fun z => hd (add_out z)
  rwa [List.length_map] at this
theorem add_unl_lo {ts : List (Nat × Int)} {xs : List Int} (hx : okc 24 xs) (h : Tns ts) : ts.length ≤ (unl (ts.foldl add1 xs) xs).length := by
  have := unl_lo (xs := ts.foldl add1 xs) (ys := xs) (P := ts.map (·.1)) h.1 fun p hp => by
    obtain ⟨⟨p', a⟩, hm, rfl⟩ := List.mem_map.mp hp
    have hp := h.2 _ hm
    have hl : p' < xs.length := by have := hx.1; have := hp.1; omega
    have hxp : xs[p']? = some xs[p'] := List.getElem?_eq_getElem hl
    have hb := hx.2 _ (List.getElem_mem hl)
    refine ⟨hp.1, ?_⟩
    show (ts.foldl add1 xs)[p']? ≠ xs[p']?
    rw [add_in h.1 hm hxp, hxp]
    intro e
    have e := Option.some.inj e
    have h2 : a % 97 ≠ 0 := hp.2
    omega
  rwa [List.length_map] at this
/-- few turns: the mended one is the sealed one -/
theorem md_few {ts : List (Nat × Int)} {xs : List Int} (hx : okc 24 xs) (hs : sld xs) (hl : ts.length ≤ 2) : ¬ Md (ts.foldl add1 xs) none ∧ ∀ ys, Md (ts.foldl add1 xs) (some ys) → ys = xs := by
  have hu := add_unl_hi (ts := ts) (xs := xs)
  refine ⟨fun h => ?_, fun ys h => Classical.byContradiction fun hn => ?_⟩
  · have := h xs hx hs
    omega
  · have h7 := seven h.1 hx h.2.1 hs hn
    have h1 := unl_tri ys (ts.foldl add1 xs) xs
    have h2 := unl_sym ys (ts.foldl add1 xs)
    have h3 := h.2.2
    omega
/-- three or four: none -/
theorem md_many {ts : List (Nat × Int)} {xs ys : List Int} (hx : okc 24 xs) (hs : sld xs) (h : Tns ts) (h3 : 3 ≤ ts.length) (h4 : ts.length ≤ 4) : ¬ Md (ts.foldl add1 xs) (some ys) := fun hm => by
  have hl := add_unl_lo hx h
  have hh := add_unl_hi (ts := ts) (xs := xs)
  by_cases e : ys = xs
  · subst e
    have := hm.2.2
    omega
  · have h7 := seven hm.1 hx hm.2.1 hs e
    have h1 := unl_tri ys (ts.foldl add1 xs) xs
    have h2 := unl_sym ys (ts.foldl add1 xs)
    have h3 := hm.2.2
    omega
end K21


set_option Elab.async false
set_option linter.all false
set_option maxRecDepth 100000
set_option maxHeartbeats 4000000
namespace K21
open PySem PySem.Spec PyProof.Rows L2 Vs
local macro_rules | `(tactic| walk_at "vpos") => `(tactic| first | decide | omega)
local macro_rules | `(tactic| walk_at "vdiv") => `(tactic| first | exact ⟨by decide, by decide⟩ | (constructor <;> omega))
local macro_rules | `(tactic| walk_at "vpow") => `(tactic| exact ⟨by decide, by decide, by decide⟩)
local macro_rules | `(tactic| walk_at "vmul") => `(tactic| first | exact mulL ⟨by decide, by decide⟩ | exact mulR ⟨by decide, by decide⟩ | exact mulL (by constructor <;> omega) | exact mulR (by constructor <;> omega))
local macro_rules | `(tactic| walk_at "vlen") => `(tactic| first | exact sz_ok (Nat.le_of_ble_eq_true rfl) | exact sz_lt (Nat.le_of_ble_eq_true rfl) | (refine sz_ok ?_; simp only [List.length_append, List.length_cons, List.length_nil, List.length_map]; omega) | (refine sz_lt ?_; simp only [List.length_append, List.length_cons, List.length_nil, List.length_map]; omega))
local macro_rules | `(tactic| walk_at "vrng") => `(tactic| (refine ⟨?_, ?_⟩ <;> omega))
local macro_rules | `(tactic| walk_at "vix") => `(tactic| rfl)
local macro_rules | `(tactic| walk_at "vixn") => `(tactic| first | rfl | exact ixN_at (by omega) (by omega))
local macro_rules | `(tactic| walk_at "vkb") => `(tactic| decide +kernel)
local macro_rules | `(tactic| walk_at "vty") => `(tactic| first | exact .int | exact .bl | exact .lst | exact .str | exact .tup | exact .non | exact .own .z | exact tyd_as (by assumption))
local macro_rules | `(tactic| walk_at "vkit") => `(tactic| assumption)
local macro_rules | `(tactic| walk_at "vrep") => `(tactic| (refine ⟨by omega, by omega, ?_⟩; first | decide | (refine sz_ok ?_; simp only [List.length_cons, List.length_nil]; omega)))
def top (i : Nat) : Stmt := PySem.Challenge.pw_stormpost_k21_whole_quiet_ticks.main.body.getD i (.Pass ⟨0, 0, 0, 0⟩)
structure Tx (K : PySem.W.Frag) (mg : Str → Option Value) : Prop where
  PLACES_fates : ∃ t, mg "PLACES_fates" = some (.int 24 t)
  PLACES_cells : ∃ t, mg "PLACES_cells" = some (.int 24 t)
  MOST_SIGN : ∃ t, mg "MOST_SIGN" = some (.int 96 t)
  MOST_LATE : ∃ t, mg "MOST_LATE" = some (.int 6 t)
  MOST_LOST : ∃ t, mg "MOST_LOST" = some (.int 4 t)
  MOST_ARRIVALS : ∃ t, mg "MOST_ARRIVALS" = some (.int 3 t)
  MOST_TURNS : ∃ t, mg "MOST_TURNS" = some (.int 4 t)
  MENDED_TURNS : ∃ t, mg "MENDED_TURNS" = some (.int 2 t)
  FREE : ∃ t, mg "FREE" = some (.int 18 t)
  SUMS : ∃ t, mg "SUMS" = some (.int 6 t)
  PRIME : ∃ t, mg "PRIME" = some (.int 97 t)
  POWERS : GObj K mg "POWERS" (.lst (dI pows))
  CHECKS : GObj K mg "CHECKS" (.lst (dTs ckRows))
  PostError : ExF K mg "PostError"
  BadSign : ExF K mg "BadSign"
  BadCell : ExF K mg "BadCell"
  BadMeasure : ExF K mg "BadMeasure"
  BadFate : ExF K mg "BadFate"
  no_len : mg "len" = none
  no_range : mg "range" = none
  no_isinstance : mg "isinstance" = none
  no_int : mg "int" = none
  no_bool : mg "bool" = none
  no_list : mg "list" = none
  no_sum : mg "sum" = none
  no_min : mg "min" = none
  no_max : mg "max" = none
  no_enumerate : mg "enumerate" = none
  no_any : mg "any" = none
  no_abs : mg "abs" = none
  no_tuple : mg "tuple" = none
  cl_Air : Cls K (He.ga K "Air")
  mg_Air : mg "Air" = some (.ref (He.ga K "Air"))
  na_Air_late : NoAttr K (He.ga K "Air") "late"
  na_Air_coming : NoAttr K (He.ga K "Air") "coming"
  mk_Air : L2.Mk K (He.ga K "Air") (He.ma K (He.ga K "Air") "__init__")
  me_Air_give : Meth K (He.ga K "Air") "give" (He.ma K (He.ga K "Air") "give")
  me_Air_come : Meth K (He.ga K "Air") "come" (He.ma K (He.ga K "Air") "come")
section
variable {X : Cx} {F0 : Hp}
def isS (a : Int) : Prop := 0 ≤ a ∧ a < 97
/-! look_sign -/
def S_look_sign (K : PySem.W.Frag) : SpD := fun ds L q e => ∃ a, ds = [.int a] ∧ (isS a → q .non L) ∧ (¬ isS a → e (xcOf K "BadSign") L)
theorem b_look_sign {ds : List D} {L : Lg} {q : D → Lg → Prop} {e : Xc → Lg → Prop} (c : Cf X (["a"] : List Str) ([] : List Str) (defScope (top 38)) F0 (fun y _ L' => e y L')) (T : Tx X.K X.mg) (h : S_look_sign X.K ds L q e) :
    BK X F0 (defBody (top 38)) (ds.map some ++ List.replicate 0 none) L { nx := fun _ L' => q .non L', rt := q } := by
  obtain ⟨a, rfl, h1, h2⟩ := h
  refine bk_one (sk_if (et_w (ew_or (et_lt (ek_n c.toCn .z (⟨_, rfl, ek_int (⟨_, rfl, ⟨rfl, rfl⟩⟩)⟩))) (fun hb => et_or1 (et_ge (ek_n c.toCn .z (⟨_, rfl, ek_gi T.PRIME (c.toCn.gl) (⟨_, rfl, ⟨rfl, rfl⟩⟩)⟩)))) (⟨fun ht => ?_, fun ht => ?_⟩))))
  · refine bk_one (sk_rz c T.BadSign ?_)
    refine h2 fun ⟨h3, h4⟩ => ?_
    simp at ht
    omega
  · refine bk_nil (h1 ?_)
    simp at ht
    exact ⟨by omega, by omega⟩
/-! power -/
def S_power (K : PySem.W.Frag) : SpD := fun ds L q e => ∃ a k, ds = [.int a, .int k] ∧ 0 ≤ k ∧ (isS a → q (.int (a ^ k.toNat % 97)) L) ∧ (¬ isS a → e (xcOf K "BadSign") L)
theorem mod_mul (a b : Int) : a % 97 * b % 97 = a * b % 97 := by rw [Int.mul_emod (a % 97), Int.emod_emod, ← Int.mul_emod]
theorem pow_step (fo sq : Int) (k : Int) (h : 0 < k) : (if k % 2 = 1 then fo * sq % 97 else fo) * (sq * sq % 97) ^ (k / 2).toNat % 97 = fo * sq ^ k.toNat % 97 := by
  obtain ⟨n, rfl⟩ : ∃ n : Nat, k = n := ⟨k.toNat, by omega⟩
  have h2 : ((n : Int) / 2).toNat = n / 2 := by omega
  rw [h2, Int.toNat_natCast]
  have e1 : ∀ (x : Int) (m : Nat), (x % 97) ^ m % 97 = x ^ m % 97 := fun x m => by
    induction m with
    | zero => rw [Int.pow_zero, Int.pow_zero]
    | succ m ih => rw [Int.pow_succ, Int.pow_succ, Int.mul_emod, ih, Int.emod_emod, ← Int.mul_emod]
  have e2 : (sq * sq) ^ (n / 2) = sq ^ (2 * (n / 2)) := by
    rw [Int.pow_mul]
    congr 1
    rw [Int.pow_succ, Int.pow_succ, Int.pow_zero, Int.one_mul]
  by_cases hk : n % 2 = 1
  · have hk' : (n : Int) % 2 = 1 := by omega
    rw [if_pos hk', Int.mul_emod, Int.emod_emod, e1, ← Int.mul_emod, e2, Int.mul_assoc, ← Int.pow_succ']
    congr 3
    omega
  · have hk' : ¬ (n : Int) % 2 = 1 := by omega
    rw [if_neg hk', Int.mul_emod, e1, ← Int.mul_emod, e2]
    congr 3
    omega
theorem b_power {ds : List D} {L : Lg} {q : D → Lg → Prop} {e : Xc → Lg → Prop} (c : Cf X (["a", "k", "found", "square"] : List Str) ([] : List Str) (defScope (top 39)) F0 (fun y _ L' => e y L')) (T : Tx X.K X.mg) (hr : Room 1 X.A)
    (G_look_sign : CalX X 1 "look_sign" (["a"] : List Str) (S_look_sign X.K)) (h : S_power X.K ds L q e) :
    BK X F0 (defBody (top 39)) (ds.map some ++ List.replicate 2 none) L { nx := fun _ L' => q .non L', rt := q } := by
  obtain ⟨a, k, rfl, hk, h1, h2⟩ := h
  refine bk_cons (sk_expr (ek_call c.tk G_look_sign (hr.mono (by decide)) (ea_cons (ek_n c.toCn .z (ea_nil (⟨_, rfl, fun hx => ?_, fun hx => ?_⟩)))) (c.toCn.gl)))
  case refine_2 => exact h2 hx
  refine bk_cons (sk_set c.toCn (ek_int (⟨_, (.s (.s .z)), ?_⟩)))
  refine bk_cons (sk_set c.toCn (ek_n c.toCn .z (⟨_, (.s (.s (.s .z))), ?_⟩)))
  refine bk_cons (sk_while c.own (fun m Γ L' => ∃ kk fo sq : Int, Γ = [some (.int a), some (.int kk), some (.int fo), some (.int sq)] ∧ L' = L ∧ m = kk.toNat ∧ 0 ≤ kk ∧ (0 ≤ fo ∧ fo < 97) ∧ (0 ≤ sq ∧ sq < 97) ∧ fo * sq ^ kk.toNat % 97 = a ^ k.toNat % 97) (k.toNat) ?_ (fun m Γ L hW => ?_))
  · exact ⟨k, 1, a, rfl, rfl, rfl, hk, by decide, hx, by rw [Int.one_mul]⟩
  · obtain ⟨kk, fo, sq, rfl, rfl, rfl, hk0, hf, hs, hi⟩ := hW
    refine et_gt (ek_n c.toCn (.s .z) (⟨_, rfl, ek_int (⟨_, rfl, ⟨fun ht => ?_, fun ht => ?_⟩⟩)⟩))
    · simp at ht
      have st := pow_step fo sq kk ht
      refine bk_cons (sk_if (et_eqI (ek_mod (ek_n c.toCn (.s .z) (⟨_, rfl, ek_int (⟨_, rfl, (by walk_at "vpos"), ⟨_, rfl, ek_int (⟨_, rfl, ⟨fun ht => ?_, fun ht => ?_⟩⟩)⟩⟩)⟩)))))
      · simp at ht
        refine bk_one (sk_set c.toCn (ek_mod (ek_mul (ek_n c.toCn (.s (.s .z)) (⟨_, rfl, ek_n c.toCn (.s (.s (.s .z))) (⟨_, rfl, (by walk_at "vmul"), ⟨_, rfl, ek_gi T.PRIME (c.toCn.gl) (⟨_, rfl, (by walk_at "vpos"), ⟨_, (.s (.s .z)), ?_⟩⟩)⟩⟩)⟩)))))
        rw [if_pos ht] at st
        refine bk_cons (sk_set c.toCn (ek_mod (ek_mul (ek_n c.toCn (.s (.s (.s .z))) (⟨_, rfl, ek_n c.toCn (.s (.s (.s .z))) (⟨_, rfl, (by walk_at "vmul"), ⟨_, rfl, ek_gi T.PRIME (c.toCn.gl) (⟨_, rfl, (by walk_at "vpos"), ⟨_, (.s (.s (.s .z))), ?_⟩⟩)⟩⟩)⟩)))))
        refine bk_one (sk_set c.toCn (ek_fdiv (ek_n c.toCn (.s .z) (⟨_, rfl, ek_int (⟨_, rfl, (by walk_at "vdiv"), ⟨_, (.s .z), ?_⟩⟩)⟩))))
        refine ⟨(kk / 2).toNat, by omega, kk / 2, _, _, rfl, rfl, rfl, by omega, ⟨Int.emod_nonneg _ (by decide), Int.emod_lt_of_pos _ (by decide)⟩, ⟨Int.emod_nonneg _ (by decide), Int.emod_lt_of_pos _ (by decide)⟩, ?_⟩
        rw [st, hi]
      · simp at ht
        refine bk_nil ?_
        rw [if_neg (by omega)] at st
        refine bk_cons (sk_set c.toCn (ek_mod (ek_mul (ek_n c.toCn (.s (.s (.s .z))) (⟨_, rfl, ek_n c.toCn (.s (.s (.s .z))) (⟨_, rfl, (by walk_at "vmul"), ⟨_, rfl, ek_gi T.PRIME (c.toCn.gl) (⟨_, rfl, (by walk_at "vpos"), ⟨_, (.s (.s (.s .z))), ?_⟩⟩)⟩⟩)⟩)))))
        refine bk_one (sk_set c.toCn (ek_fdiv (ek_n c.toCn (.s .z) (⟨_, rfl, ek_int (⟨_, rfl, (by walk_at "vdiv"), ⟨_, (.s .z), ?_⟩⟩)⟩))))
        refine ⟨(kk / 2).toNat, by omega, kk / 2, _, _, rfl, rfl, rfl, by omega, hf, ⟨Int.emod_nonneg _ (by decide), Int.emod_lt_of_pos _ (by decide)⟩, ?_⟩
        rw [st, hi]
    · simp at ht
      have e0 : kk = 0 := by omega
      subst e0
      refine bk_one (sk_ret (ek_n c.toCn (.s (.s .z)) (?_)))
      have e1 : fo = a ^ k.toNat % 97 := by
        rw [← hi]
        show fo = fo * sq ^ 0 % 97
        rw [Int.pow_zero, Int.mul_one, Int.emod_eq_of_lt hf.1 hf.2]
      rw [e1]
      exact h1 hx
/-! inverse -/
def S_inverse (K : PySem.W.Frag) : SpD := fun ds L q e => ∃ a, ds = [.int a] ∧ (isS a ∧ a ≠ 0 → q (.int (a ^ 95 % 97)) L) ∧ (¬ (isS a ∧ a ≠ 0) → e (xcOf K "BadSign") L)
theorem b_inverse {ds : List D} {L : Lg} {q : D → Lg → Prop} {e : Xc → Lg → Prop} (c : Cf X (["a"] : List Str) ([] : List Str) (defScope (top 40)) F0 (fun y _ L' => e y L')) (T : Tx X.K X.mg) (hr : Room 2 X.A)
    (G_look_sign : CalX X 1 "look_sign" (["a"] : List Str) (S_look_sign X.K)) (G_power : CalX X 2 "power" (["a", "k"] : List Str) (S_power X.K)) (h : S_inverse X.K ds L q e) :
    BK X F0 (defBody (top 40)) (ds.map some ++ List.replicate 0 none) L { nx := fun _ L' => q .non L', rt := q } := by
  obtain ⟨a, rfl, h1, h2⟩ := h
  refine bk_cons (sk_expr (ek_call c.tk G_look_sign (hr.mono (by decide)) (ea_cons (ek_n c.toCn .z (ea_nil (⟨_, rfl, fun hx => ?_, fun hx => ?_⟩)))) (c.toCn.gl)))
  case refine_2 => exact h2 fun z => hx z.1
  refine bk_cons (sk_if (et_eqI (ek_n c.toCn .z (⟨_, rfl, ek_int (⟨_, rfl, ⟨fun ht => ?_, fun ht => ?_⟩⟩)⟩))))
  · refine bk_one (sk_rz c T.BadSign ?_)
    simp at ht
    exact h2 fun z => z.2 ht
  · simp at ht
    refine bk_nil ?_
    refine bk_one (sk_ret (ek_call c.tk G_power (hr.mono (by decide)) (ea_cons (ek_n c.toCn .z (ea_cons (ek_sub (ek_gi T.PRIME (c.toCn.gl) (⟨_, rfl, ek_int (⟨_, rfl, ea_nil (⟨_, _, rfl, by decide, fun hy => ?_, fun hy => absurd hx hy⟩)⟩)⟩)))))) (c.toCn.gl)))
    exact h1 ⟨hx, ht⟩
/-! look_signs, for a list of either kind -/
def S_look_signs (K : PySem.W.Frag) : SpD := fun ds L q e => ∃ x xs many, ds = [x, .int many] ∧ AsL L x (dI xs) ∧ (okc many xs → q .non L) ∧ (¬ okc many xs → e (xcOf K "BadCell") L)
theorem b_look_signs {ds : List D} {L : Lg} {q : D → Lg → Prop} {e : Xc → Lg → Prop} (c : Cf X (["signs", "many", "sign"] : List Str) ([] : List Str) (defScope (top 32)) F0 (fun y _ L' => e y L')) (T : Tx X.K X.mg) (h : S_look_signs X.K ds L q e) :
    BK X F0 (defBody (top 32)) (ds.map some ++ List.replicate 1 none) L { nx := fun _ L' => q .non L', rt := q } := by
  obtain ⟨x, xs, many, rfl, hx, h1, h2⟩ := h
  refine bk_cons (sk_if (et_neI (ek_len T.no_len (c.toCn.gl) (ek_n c.toCn .z (⟨_, Or.inl hx, ⟨_, rfl, ek_n c.toCn (.s .z) (⟨_, rfl, ⟨fun ht => ?_, fun ht => ?_⟩⟩)⟩⟩)))))
  · refine bk_one (sk_rz c T.BadCell ?_)
    simp at ht
    exact h2 fun z => ht z.1
  · simp at ht
    refine bk_nil ?_
    refine bk_one (sk_forN c (fun kk h => ek_n c.toCn .z (h)) hx (fun i Γ L' => ∃ w, Γ = [some x, some (.int many), w] ∧ L' = L ∧ ∀ j v, j < i → xs[j]? = some v → 0 ≤ v ∧ v ≤ 96) ?_ ?_ (fun F1 c i d Γ L hd hP => ?_) (fun Γ L hP => ?_))
    · exact ⟨none, rfl, rfl, fun j v hj => absurd hj (Nat.not_lt_zero _)⟩
    · rintro i Γ L' ⟨w, rfl, rfl, hj⟩
      exact hx
    · obtain ⟨w, rfl, rfl, hj⟩ := hP
      obtain ⟨v, hv, rfl⟩ := dI_get hd
      refine tg_n c.toCn ⟨_, .s (.s .z), ?_⟩
      refine bk_one (sk_if (et_w (ew_or (et_lt (ek_n c.toCn (.s (.s .z)) (⟨_, rfl, ek_int (⟨_, rfl, ⟨rfl, rfl⟩⟩)⟩))) (fun hb => et_or1 (et_gt (ek_n c.toCn (.s (.s .z)) (⟨_, rfl, ek_int (⟨_, rfl, ⟨rfl, rfl⟩⟩)⟩)))) (⟨fun ht => ?_, fun ht => ?_⟩))))
      · refine bk_one (sk_rz c T.BadCell ?_)
        simp at ht
        refine h2 fun z => ?_
        have := z.2 v (List.mem_of_getElem? hv)
        omega
      · simp at ht
        refine bk_nil ⟨some (.int v), rfl, rfl, fun j u hj' hu => ?_⟩
        by_cases hji : j = i
        · subst hji
          rw [hv] at hu
          cases hu
          omega
        · exact hj j u (by omega) hu
    · obtain ⟨w, rfl, rfl, hj⟩ := hP
      refine h1 ⟨ht, fun v hv => ?_⟩
      obtain ⟨n, hn, e⟩ := List.mem_iff_getElem.mp hv
      exact hj n v (by rw [dI_len]; exact hn) (by rw [List.getElem?_eq_getElem hn, e])
theorem range_nat {lo : Int} {n m : Nat} {d : D} (h : (rangeD lo m)[n]? = some d) : n < m ∧ d = .int (lo + (n : Int)) := by
  have hl := (List.getElem?_eq_some_iff.mp h).1
  rw [rangeD_len] at hl
  rw [rangeD_get hl] at h
  cases h
  exact ⟨hl, rfl⟩
theorem map_get {α : Type} {f : Nat → α} {m n : Nat} {y : α} (h : ((List.range m).map f)[n]? = some y) : n < m ∧ y = f n := by
  have hl := (List.getElem?_eq_some_iff.mp h).1
  rw [List.length_map, List.length_range] at hl
  rw [List.getElem?_map, List.getElem?_range hl] at h
  exact ⟨hl, (Option.some.inj h).symm⟩
theorem getD_of {xs : List Int} {n : Nat} {x : Int} (h : xs[n]? = some x) : xs.getD n 0 = x := by rw [List.getD_eq_getElem?_getD, h]; rfl
/-! sums_of -/
def sv (xs : List Int) (j : Nat) : List Int := (List.range xs.length).map fun i => xs.getD i 0 * (5 ^ (i * j) % 97)
def sums (xs : List Int) : List Int := (List.range 6).map fun k => (sv xs (k + 1)).sum % 97
theorem sv_sum (xs : List Int) (j : Nat) : (sv xs j).sum % 97 = sj j 0 xs % 97 := by
  have key : ∀ n, n ≤ xs.length → ((List.range n).map fun i => xs.getD i 0 * ((5 : Int) ^ (i * j) % 97)).sum % 97 = sj j 0 (xs.take n) % 97 := by
    intro n hn
    induction n with
    | zero => simp [sj]
    | succ n ih =>
      obtain ⟨x, hx⟩ : ∃ x, xs[n]? = some x := ⟨_, List.getElem?_eq_getElem (by omega)⟩
      rw [sj_take _ _ hx, sum_take, getD_of hx, Int.add_emod, ih (by omega), emod_mul_r, ← Int.add_emod]
  have := key xs.length (Nat.le_refl _)
  rw [List.take_of_length_le (Nat.le_refl _)] at this
  exact this
def S_sums_of : SpD := fun ds L q _ => ∃ x xs, ds = [x] ∧ AsL L x (dI xs) ∧ xs.length ≤ 1000 ∧ ∀ p, q (.ref p) ((p, .lst (dI (sums xs))) :: L)
theorem b_sums_of {ds : List D} {L : Lg} {q : D → Lg → Prop} {e : Xc → Lg → Prop} (c : Cf X (["signs"] : List Str) (["j", "i"] : List Str) (defScope (top 33)) F0 (fun y _ L' => e y L')) (T : Tx X.K X.mg) (h : S_sums_of ds L q e) :
    BK X F0 (defBody (top 33)) (ds.map some ++ List.replicate 2 none) L { nx := fun _ L' => q .non L', rt := q } := by
  obtain ⟨x, xs, rfl, hx, hl, h1⟩ := h
  refine bk_one (sk_ret (ek_lcF [("j", 1)] c.toCn c.calm (by decide +kernel) (ei_range2 T.no_range (c.toCn.gl) (ek_int (⟨_, rfl, ek_add (ek_gi T.SUMS (c.toCn.gl) (⟨_, rfl, ek_int (⟨_, rfl, ⟨_, rfl, (⟨by decide, by decide, by decide, by decide⟩), ⟨dI (sums xs), ?_, fun p => ?_⟩⟩⟩)⟩))⟩)))))
  · refine ⟨rfl, by rw [rangeD_len]; decide, fun F1 n d e acc Dp hd he => ?_⟩
    obtain ⟨hn, rfl⟩ := range_nat hd
    obtain ⟨y, hy, rfl⟩ := dI_get he
    obtain ⟨hn6, rfl⟩ := map_get hy
    intro X' cb hX'
    obtain ⟨s0, H0, C0, cl, fp, rfl⟩ := hX'
    refine tb_n cb ⟨_, (.s .z), rfl, fun X' cb hX' => ?_⟩
    obtain ⟨s0, H0, C0, cl, fp, rfl⟩ := hX'
    refine ek_mod (ek_sum c.calm T.no_sum cb.gl (ek_lcBM [("i", 2)] cb (by decide +kernel) (ei_p (ei_range1 T.no_range cb.gl (ek_len T.no_len cb.gl (ek_b cb .z (⟨_, Or.inl hx.app, ⟨_, rfl, (by rw [dI_len]; exact ⟨by omega, by omega⟩), ⟨dI (sv xs (n + 1)), ?_, ⟨_, (.lst), ⟨_, rfl, ek_int (⟨_, rfl, (by walk_at "vpos"), ?_⟩)⟩⟩⟩⟩⟩)))))))
    · refine ⟨by rw [dI_len, rangeD_len, dI_len]; unfold sv; rw [List.length_map, List.length_range]; rfl, by rw [rangeD_len, dI_len]; omega, fun F2 m d e acc2 Dp2 hd he => ?_⟩
      obtain ⟨hm, rfl⟩ := range_nat hd
      obtain ⟨y, hy, rfl⟩ := dI_get he
      obtain ⟨hm2, rfl⟩ := map_get hy
      obtain ⟨v, hv⟩ : ∃ v, xs[m]? = some v := ⟨_, List.getElem?_eq_getElem hm2⟩
      have e1 : (((0 + (m : Int)) * (1 + (n : Int))) % 96).toNat = m * (n + 1) % 96 := by
        have : (0 + (m : Int)) * (1 + (n : Int)) = ((m * (n + 1) : Nat) : Int) := by rw [Int.zero_add, Int.add_comm 1]; rfl
        rw [this]
        omega
      have e2 : 0 ≤ ((0 + (m : Int)) * (1 + (n : Int))) % 96 := Int.emod_nonneg _ (by decide)
      have hp := pows_get (m * (n + 1))
      rw [← e1] at hp
      have bp : -(18446744073709551616) < (5 : Int) ^ (m * (n + 1)) % 97 ∧ (5 : Int) ^ (m * (n + 1)) % 97 < 18446744073709551616 := ⟨by have := Int.emod_nonneg ((5 : Int) ^ (m * (n + 1))) (show (97 : Int) ≠ 0 by decide); omega, by have := Int.emod_lt_of_pos ((5 : Int) ^ (m * (n + 1))) (show (0 : Int) < 97 by decide); omega⟩
      intro X' cb hX'
      obtain ⟨s0, H0, C0, cl, fp, rfl⟩ := hX'
      refine tb_n cb ⟨_, (.s (.s .z)), rfl, fun X' cb hX' => ?_⟩
      obtain ⟨s0, H0, C0, cl, fp, rfl⟩ := hX'
      refine ek_mul (ek_ix (ek_b cb .z (ek_b cb (.s (.s .z)) (⟨_, _, _, hx.app.app, rfl, (by first | exact at_dIn hv | exact at_dI e2 hp), ⟨_, rfl, ek_ix (ek_go T.POWERS cb.gl (ek_mod (ek_mul (ek_b cb (.s (.s .z)) (⟨_, rfl, ek_b cb (.s .z) (⟨_, rfl, (by first | exact mulL ⟨by omega, by omega⟩ | exact mulR bp), ⟨_, rfl, ek_int (⟨_, rfl, (by walk_at "vpos"), ⟨_, _, _, .lst, rfl, (by first | exact at_dIn hv | exact at_dI e2 hp), ⟨_, rfl, (by first | exact mulL ⟨by omega, by omega⟩ | exact mulR bp), ?_⟩⟩⟩)⟩⟩)⟩))))) (fun _ _ => rfl)⟩⟩))) (fun _ _ => rfl))
      refine ⟨rfl, ?_⟩
      rw [getD_of hv]
    · exact ⟨rfl, rfl⟩
  · exact h1 p
/-! the sealed cell -/
theorem at_dTn {rs : List (List Int)} {n : Nat} {r : List Int} (h : rs[n]? = some r) : atI (dTs rs) (0 + (n : Int)) = some (.tup (dI r)) := at_nat (by omega) (by
  rw [show (0 + (n : Int)).toNat = n by omega, List.getElem?_map, h]
  rfl)
def S_sealed (K : PySem.W.Frag) : SpD := fun ds L q e => ∃ x xs, ds = [x] ∧ AsL L x (dI xs) ∧ (okc 18 xs → ∀ p, q (.ref p) ((p, .lst (dI (celOf xs))) :: L)) ∧ (¬ okc 18 xs → e (xcOf K "BadCell") L)
theorem b_sealed {ds : List D} {L : Lg} {q : D → Lg → Prop} {e : Xc → Lg → Prop} (c : Cf X (["signs"] : List Str) (["k", "i"] : List Str) (defScope (top 34)) F0 (fun y _ L' => e y L')) (T : Tx X.K X.mg) (hr : Room 1 X.A)
    (G_look_signs : CalX X 1 "look_signs" (["signs", "many"] : List Str) (S_look_signs X.K)) (h : S_sealed X.K ds L q e) :
    BK X F0 (defBody (top 34)) (ds.map some ++ List.replicate 2 none) L { nx := fun _ L' => q .non L', rt := q } := by
  obtain ⟨x, xs, rfl, hx, h1, h2⟩ := h
  refine bk_cons (sk_expr (ek_call c.tk G_look_signs (hr.mono (by decide)) (ea_cons (ek_n c.toCn .z (ea_cons (ek_gi T.FREE (c.toCn.gl) (ea_nil (⟨x, xs, _, rfl, hx, fun hx1 => ?_, fun hx1 => ?_⟩)))))) (c.toCn.gl)))
  case refine_2 => exact h2 hx1
  have hl : xs.length = 18 := by have := hx1.1; omega
  refine bk_one (sk_ret (ek_catO (ek_list T.no_list (c.toCn.gl) (ek_n c.toCn .z (⟨_, Or.inl hx, ek_lcM [("k", 1)] c.toCn c.calm (by decide +kernel) (ei_p (ei_range1 T.no_range (c.toCn.gl) (ek_gi T.SUMS (c.toCn.gl) (⟨_, rfl, (⟨by decide, by decide⟩), ⟨dI ((List.range 6).map fun k => (ckv xs k).sum % 97), ?_, ⟨_, _, .lst, .lst, (by rw [dI_len, dI_len, hl, List.length_map, List.length_range]; decide), fun p => ?_⟩⟩⟩))))⟩)))))
  · refine ⟨rfl, by rw [rangeD_len]; decide, fun F1 n d e acc Dp hd he => ?_⟩
    obtain ⟨hn, rfl⟩ := range_nat hd
    obtain ⟨y, hy, rfl⟩ := dI_get he
    obtain ⟨hn6, rfl⟩ := map_get hy
    intro X' cb hX'
    obtain ⟨s0, H0, C0, cl, fp, rfl⟩ := hX'
    refine tb_n cb ⟨_, (.s .z), rfl, fun X' cb hX' => ?_⟩
    obtain ⟨s0, H0, C0, cl, fp, rfl⟩ := hX'
    refine ek_mod (ek_sum c.calm T.no_sum cb.gl (ek_lcBM [("i", 2)] cb (by decide +kernel) (ei_p (ei_range1 T.no_range cb.gl (ek_gi T.FREE cb.gl (⟨_, rfl, (⟨by decide, by decide⟩), ⟨dI (ckv xs n), ?_, ⟨_, (.lst), ⟨_, rfl, ek_int (⟨_, rfl, (by walk_at "vpos"), ?_⟩)⟩⟩⟩⟩))))))
    · refine ⟨by rw [dI_len, rangeD_len]; unfold ckv; rw [List.length_map, List.length_range, hl]; rfl, by rw [rangeD_len]; decide, fun F2 m d e acc2 Dp2 hd he => ?_⟩
      obtain ⟨hm, rfl⟩ := range_nat hd
      obtain ⟨y, hy, rfl⟩ := dI_get he
      obtain ⟨hm2, rfl⟩ := map_get hy
      obtain ⟨v, hv⟩ : ∃ v, xs[m]? = some v := ⟨_, List.getElem?_eq_getElem hm2⟩
      have hvb := hx1.2 v (List.mem_of_getElem? hv)
      have hrow : ckRows[m]? = some (ckRow m) := by
        unfold ckRows
        rw [List.getElem?_map, List.getElem?_range (by omega)]
        rfl
      have hck : (ckRow m)[n]? = some (ckq m n) := by
        unfold ckRow
        rw [List.getElem?_map, List.getElem?_range hn6]
        rfl
      intro X' cb hX'
      obtain ⟨s0, H0, C0, cl, fp, rfl⟩ := hX'
      refine tb_n cb ⟨_, (.s (.s .z)), rfl, fun X' cb hX' => ?_⟩
      obtain ⟨s0, H0, C0, cl, fp, rfl⟩ := hX'
      refine ek_mul (ek_ix (ek_b cb .z (ek_b cb (.s (.s .z)) (⟨_, _, _, hx.app.app, rfl, (by first | exact at_dIn hv | exact at_dIn hck | exact at_dTn hrow), ⟨_, rfl, ek_ixT (ek_ix (ek_go T.CHECKS cb.gl (ek_b cb (.s (.s .z)) (⟨_, _, _, .lst, rfl, (by first | exact at_dIn hv | exact at_dIn hck | exact at_dTn hrow), ek_b cb (.s .z) (⟨_, _, _, rfl, rfl, (by first | exact at_dIn hv | exact at_dIn hck | exact at_dTn hrow), ⟨_, rfl, (mulL ⟨by omega, by omega⟩), ?_⟩⟩)⟩))) (fun _ _ => rfl)) (fun _ _ => rfl)⟩⟩))) (fun _ _ => rfl))
      refine ⟨rfl, ?_⟩
      rw [getD_of hv]
    · exact ⟨rfl, rfl⟩
  · have e1 : dI xs ++ dI ((List.range 6).map fun k => (ckv xs k).sum % 97) = dI (celOf xs) := by
      unfold celOf
      exact (List.map_append).symm
    rw [e1]
    exact h1 hx1 p
def S_troubles (K : PySem.W.Frag) : SpD := fun ds L q e => ∃ x xs, ds = [x] ∧ AsL L x (dI xs) ∧ (okc 24 xs → ∀ p, q (.ref p) ((p, .lst (dI (sums xs))) :: L)) ∧ (¬ okc 24 xs → e (xcOf K "BadCell") L)
theorem b_troubles {ds : List D} {L : Lg} {q : D → Lg → Prop} {e : Xc → Lg → Prop} (c : Cf X (["cell"] : List Str) ([] : List Str) (defScope (top 35)) F0 (fun y _ L' => e y L')) (T : Tx X.K X.mg) (hr : Room 1 X.A)
    (G_look_signs : CalX X 1 "look_signs" (["signs", "many"] : List Str) (S_look_signs X.K)) (G_sums_of : CalX X 1 "sums_of" (["signs"] : List Str) S_sums_of) (h : S_troubles X.K ds L q e) :
    BK X F0 (defBody (top 35)) (ds.map some ++ List.replicate 0 none) L { nx := fun _ L' => q .non L', rt := q } := by
  obtain ⟨x, xs, rfl, hx, h1, h2⟩ := h
  refine bk_cons (sk_expr (ek_call c.tk G_look_signs (hr.mono (by decide)) (ea_cons (ek_n c.toCn .z (ea_cons (ek_gi T.PLACES_cells (c.toCn.gl) (ea_nil (⟨x, xs, _, rfl, hx, fun hx2 => ?_, fun hx2 => ?_⟩)))))) (c.toCn.gl)))
  case refine_2 => exact h2 hx2
  refine bk_one (sk_ret (ek_call c.tk G_sums_of (hr.mono (by decide)) (ea_cons (ek_n c.toCn .z (ea_nil (⟨x, xs, rfl, hx, by have := hx2.1; omega, fun p2 => ?_⟩)))) (c.toCn.gl)))
  exact h1 hx2 _
/-! ### mending -/
def optD : Option Nat → D
  | some p => .int (p : Int)
  | none => .non
def Plc (x : Int) : Option Nat → Prop
  | some i => i < 24 ∧ (5 : Int) ^ i % 97 = x
  | none => ∀ i, i < 24 → (5 : Int) ^ i % 97 ≠ x
theorem pows24 {i : Nat} (h : i < 24) : pows[i]? = some ((5 : Int) ^ i % 97) := by
  have := pows_get i
  rwa [Nat.mod_eq_of_lt (by omega)] at this
def S_place_of : SpD := fun ds L q _ => ∃ x, ds = [.int x] ∧ ∀ o, Plc x o → q (optD o) L
theorem b_place_of {ds : List D} {L : Lg} {q : D → Lg → Prop} {e : Xc → Lg → Prop} (c : Cf X (["x", "i"] : List Str) ([] : List Str) (defScope (top 42)) F0 (fun y _ L' => e y L')) (T : Tx X.K X.mg) (h : S_place_of ds L q e) :
    BK X F0 (defBody (top 42)) (ds.map some ++ List.replicate 1 none) L { nx := fun _ L' => q .non L', rt := q } := by
  obtain ⟨x, rfl, h1⟩ := h
  refine bk_cons (sk_for c (ei_range1 T.no_range (c.toCn.gl) (ek_gi T.PLACES_cells (c.toCn.gl) (⟨_, rfl, (⟨by decide, by decide⟩), ⟨fun i Γ L' => ∃ w, Γ = [some (.int x), w] ∧ L' = L ∧ ∀ k, k < i → (5 : Int) ^ k % 97 ≠ x, ?_, fun F1 c i d Γ L hd hP => ?_, fun Γ L hP => ?_⟩⟩))))
  · exact ⟨_, rfl, rfl, fun k hk => absurd hk (Nat.not_lt_zero _)⟩
  · obtain ⟨w, rfl, rfl, hk⟩ := hP
    obtain ⟨hi, rfl⟩ := range_nat hd
    have hi : i < 24 := hi
    refine tg_n c.toCn ⟨_, (.s .z), ?_⟩
    refine bk_one (sk_if (et_eqI (ek_ix (ek_go T.POWERS (c.toCn.gl) (ek_n c.toCn (.s .z) (⟨_, _, _, .lst, rfl, (at_dIn (pows24 hi)), ⟨_, rfl, ek_n c.toCn .z (⟨_, rfl, ⟨fun ht => ?_, fun ht => ?_⟩⟩)⟩⟩))) (fun _ _ => rfl))))
    · refine bk_one (sk_ret (ek_n c.toCn (.s .z) (?_)))
      have h2 := h1 (some i) ⟨hi, by simpa using ht⟩
      have e : optD (some i) = .int (0 + (i : Int)) := by
        show D.int (i : Int) = _
        rw [Int.zero_add]
      rw [e] at h2
      exact h2
    · refine bk_nil ⟨_, rfl, rfl, fun k hk2 => ?_⟩
      by_cases hki : k = i
      · rw [hki]
        simpa using ht
      · exact hk k (by omega)
  · obtain ⟨w, rfl, rfl, hk⟩ := hP
    refine bk_one (sk_ret (ek_non (?_)))
    exact h1 none hk
theorem six {fs : List Int} (h : fs6 fs) : ∃ a0 a1 a2 a3 a4 a5, fs = [a0, a1, a2, a3, a4, a5] ∧ (0 ≤ a0 ∧ a0 ≤ 96) ∧ (0 ≤ a1 ∧ a1 ≤ 96) ∧ (0 ≤ a2 ∧ a2 ≤ 96) ∧ (0 ≤ a3 ∧ a3 ≤ 96) ∧ (0 ≤ a4 ∧ a4 ≤ 96) ∧ (0 ≤ a5 ∧ a5 ≤ 96) := by
  obtain ⟨hl, hb⟩ := h
  match fs, hl, hb with
  | [a0, a1, a2, a3, a4, a5], _, hb => exact ⟨a0, a1, a2, a3, a4, a5, rfl, hb a0 (by simp), hb a1 (by simp), hb a2 (by simp), hb a3 (by simp), hb a4 (by simp), hb a5 (by simp)⟩
theorem fk_lt {fs : List Int} (h : fs6 fs) {k : Nat} (hk : k < 6) : ∃ v, fs[k]? = some v ∧ (0 ≤ v ∧ v ≤ 96) ∧ fk fs k = cc v := fk_at h hk
def oneD : Option (Nat × Int) → D
  | some (i, v) => .lst [.tup [.int (i : Int), .int v]]
  | none => .non
def S_one_turned : SpD := fun ds L q _ => ∃ y fs, ds = [y] ∧ AsL L y (dI fs) ∧ fs6 fs ∧ ∀ o, OneR fs o → q (oneD o) L
theorem b_one_turned {ds : List D} {L : Lg} {q : D → Lg → Prop} {e : Xc → Lg → Prop} (c : Cf X (["found", "x", "j", "place"] : List Str) ([] : List Str) (defScope (top 43)) F0 (fun y _ L' => e y L')) (T : Tx X.K X.mg) (hr : Room 3 X.A)
    (G_inverse : CalX X 3 "inverse" (["a"] : List Str) (S_inverse X.K)) (G_place_of : CalX X 1 "place_of" (["x"] : List Str) S_place_of) (h : S_one_turned ds L q e) :
    BK X F0 (defBody (top 43)) (ds.map some ++ List.replicate 3 none) L { nx := fun _ L' => q .non L', rt := q } := by
  obtain ⟨y, fs, rfl, hy, h6, h1⟩ := h
  have hzero : (0 : Int) ∈ fs → OneR fs none := fun hm i hi V hV ho => by
    obtain ⟨n, hn, e⟩ := List.mem_iff_getElem.mp hm
    refine (one_tells ho hV).1 n (by rw [← h6.1]; exact hn) ?_
    unfold fk
    rw [List.getD_eq_getElem?_getD, List.getElem?_eq_getElem hn, e]
    rfl
  refine bk_cons (sk_if (et_inI (ek_int (⟨_, rfl, ek_n c.toCn .z (⟨_, Or.inl hy, ⟨_, rfl, ⟨fun ht => ?_, fun ht => ?_⟩⟩⟩)⟩))))
  · refine bk_one (sk_ret (ek_non (?_)))
    exact h1 none (hzero (of_decide_eq_true ht))
  refine bk_nil ?_
  have hnz : (0 : Int) ∉ fs := of_decide_eq_false ht
  obtain ⟨v0, g0, b0, f0⟩ := fk_lt h6 (k := 0) (by decide)
  obtain ⟨v1, g1, b1, f1⟩ := fk_lt h6 (k := 1) (by decide)
  have hv0 : v0 ≠ 0 := fun z => hnz (z ▸ List.mem_of_getElem? g0)
  have hc0 : cc v0 ≠ 0 := fun z => by
    have := cc_0.mp z
    omega
  refine bk_cons (sk_set c.toCn (ek_mod (ek_mul (ek_ix (ek_n c.toCn .z (ek_int (⟨_, _, _, hy, rfl, (by first | exact at_dI (i := 0) (by decide) g0 | exact at_dI (i := 1) (by decide) g1), ⟨_, rfl, ek_call c.tk G_inverse (hr.mono (by decide)) (ea_cons (ek_ix (ek_n c.toCn .z (ek_int (⟨_, _, _, hy, rfl, (by first | exact at_dI (i := 0) (by decide) g0 | exact at_dI (i := 1) (by decide) g1), ea_nil (⟨_, rfl, fun _ => ⟨_, rfl, (by walk_at "vmul"), ⟨_, rfl, ek_int (⟨_, rfl, (by walk_at "vpos"), ⟨_, (.s .z), ?_⟩⟩)⟩⟩, fun z => absurd ⟨⟨by omega, by omega⟩, hv0⟩ z⟩)⟩))) (fun _ _ => rfl))) (c.toCn.gl)⟩⟩))) (fun _ _ => rfl)))))
  have hxv : cc (v1 * (v0 ^ 95 % 97) % 97) = fk fs 1 * cc (ivI v0) := by
    rw [cc_mod, cc_mul, f1]
    rfl
  have hxb : 0 ≤ v1 * (v0 ^ 95 % 97) % 97 ∧ v1 * (v0 ^ 95 % 97) % 97 ≤ 96 := okc_mod _
  have hxi : ∀ i V, One fs i V → V ≠ 0 → cc (v1 * (v0 ^ 95 % 97) % 97) = pw i := fun i V ho hV => by
    rw [hxv]
    refine (one_tells ho hV).2.2 _ ?_
    rw [f0]
    exact iv_cc hc0
  have hxn : cc (v1 * (v0 ^ 95 % 97) % 97) ≠ 0 → True := fun _ => trivial
  have hfl : (dI fs).length = 6 := by rw [dI_len]; exact h6.1
  generalize v1 * (v0 ^ 95 % 97) % 97 = x at *
  refine bk_cons (sk_for c (ei_range2 T.no_range (c.toCn.gl) (ek_int (⟨_, rfl, ek_len T.no_len (c.toCn.gl) (ek_n c.toCn .z (⟨_, Or.inl hy, ⟨_, rfl, (⟨by decide, by decide, by rw [hfl]; decide, by rw [hfl]; decide⟩), ⟨fun i Γ L' => ∃ w1 w2, Γ = [some y, some (.int x), w1, w2] ∧ L' = L ∧ ∀ k, k < i → fk fs (k + 1) = fk fs k * cc x, ?_, fun F1 c i d Γ L hd hP => ?_, fun Γ L hP => ?_⟩⟩⟩))⟩))))
  · exact ⟨_, _, rfl, rfl, fun k hk => absurd hk (Nat.not_lt_zero _)⟩
  · obtain ⟨w1, w2, rfl, rfl, hk⟩ := hP
    rw [hfl] at hd
    obtain ⟨hi, rfl⟩ := range_nat hd
    have hi : i < 5 := hi
    obtain ⟨va, ga, ba, fa⟩ := fk_lt h6 (k := i) (by omega)
    obtain ⟨vb, gb, bb, fb⟩ := fk_lt h6 (k := i + 1) (by omega)
    have ia : atI (dI fs) (1 + (i : Int) - 1) = some (.int va) := at_dI (by omega) (by rw [show (1 + (i : Int) - 1).toNat = i by omega]; exact ga)
    have ib : atI (dI fs) (1 + (i : Int)) = some (.int vb) := at_dI (by omega) (by rw [show (1 + (i : Int)).toNat = i + 1 by omega]; exact gb)
    refine tg_n c.toCn ⟨_, (.s (.s .z)), ?_⟩
    refine bk_one (sk_if (et_neI (ek_ix (ek_n c.toCn .z (ek_n c.toCn (.s (.s .z)) (⟨_, _, _, hy, rfl, (by first | exact ia | exact ib), ⟨_, rfl, ek_mod (ek_mul (ek_ix (ek_n c.toCn .z (ek_sub (ek_n c.toCn (.s (.s .z)) (⟨_, rfl, ek_int (⟨_, rfl, ⟨_, _, _, hy, rfl, (by first | exact ia | exact ib), ⟨_, rfl, ek_n c.toCn (.s .z) (⟨_, rfl, (by walk_at "vmul"), ⟨_, rfl, ek_int (⟨_, rfl, (by walk_at "vpos"), ⟨_, rfl, ⟨fun ht => ?_, fun ht => ?_⟩⟩⟩)⟩⟩)⟩⟩⟩)⟩)))) (fun _ _ => rfl)))⟩⟩))) (fun _ _ => rfl))))
    · refine bk_one (sk_ret (ek_non (?_)))
      refine h1 none fun i' hi' V hV ho => ?_
      have hr := (one_tells ho hV).2.1 i hi
      rw [← hxi i' V ho hV, fa, fb, ← cc_mul] at hr
      have := cc_eq.mp hr
      simp at ht
      exact ht (by omega)
    · refine bk_nil ⟨_, _, rfl, rfl, fun k hk2 => ?_⟩
      by_cases hki : k = i
      · subst hki
        simp at ht
        rw [fa, fb, ht, cc_mod, cc_mul]
      · exact hk k (by omega)
  · obtain ⟨w1, w2, rfl, rfl, hk⟩ := hP
    rw [hfl, rangeD_len] at hk
    have hk : ∀ k, k < 5 → fk fs (k + 1) = fk fs k * cc x := hk
    refine bk_cons (sk_set c.toCn (ek_call c.tk G_place_of (hr.mono (by decide)) (ea_cons (ek_n c.toCn (.s .z) (ea_nil (⟨_, rfl, fun o ho => ⟨_, (.s (.s (.s .z))), ?_⟩⟩)))) (c.toCn.gl)))
    cases o with
    | none =>
      refine bk_cons (sk_if (et_isN (ek_n c.toCn (.s (.s (.s .z))) (⟨fun ht => ?_, fun ht => ?_⟩))))
      · refine bk_one (sk_ret (ek_non (?_)))
        refine h1 none fun i hi V hV hO => ho i hi ?_
        have e := hxi i V hO hV
        have := cc_eq.mp e
        omega
      · cases ht
    | some i =>
      refine bk_cons (sk_if (et_isN (ek_n c.toCn (.s (.s (.s .z))) (⟨fun ht => ?_, fun ht => ?_⟩))))
      · cases ht
      refine bk_nil ?_
      obtain ⟨hi, he⟩ := ho
      have hx0 : x ≠ 0 := fun z => pw_ne i (cc_0.mpr (by rw [z] at he; exact he))
      have hcx : cc x = pw i := cc_eq.mpr (by omega)
      refine bk_one (sk_ret (ek_lst (ea_cons (ek_tup (ea_cons (ek_n c.toCn (.s (.s (.s .z))) (ea_cons (ek_mod (ek_mul (ek_ix (ek_n c.toCn .z (ek_int (⟨_, _, _, hy, rfl, (at_dI (i := 0) (by decide) g0), ⟨_, rfl, ek_call c.tk G_inverse (hr.mono (by decide)) (ea_cons (ek_n c.toCn (.s .z) (ea_nil (⟨_, rfl, fun _ => ⟨_, rfl, (by walk_at "vmul"), ⟨_, rfl, ek_int (⟨_, rfl, (by walk_at "vpos"), ea_nil (⟨(by walk_at "vlen"), ea_nil (⟨(by walk_at "vlen"), ?_⟩)⟩)⟩)⟩⟩, fun z => absurd ⟨⟨by omega, by omega⟩, hx0⟩ z⟩)))) (c.toCn.gl)⟩⟩))) (fun _ _ => rfl)))))))))))
      refine h1 (some (i, v0 * (x ^ 95 % 97) % 97)) ⟨hi, okc_mod _, one_some hcx hk ?_⟩
      rw [f0, cc_mod, cc_mul, hcx, ← hcx]
      have hcx0 : cc x ≠ 0 := by rw [hcx]; exact pw_ne i
      exact (id_inv' (cc v0) (cc x) (cc (ivI x)) (iv_cc hcx0)).symm
/-! two turns -/
def gon (fs : List Int) (s p : Int) : Bool := (List.range 4).all fun j => decide (fk fs (j + 2) = cc s * fk fs (j + 1) - cc p * fk fs j)
theorem gon_iff {fs : List Int} {s p : Int} : gon fs s p = true ↔ ∀ j, j < 4 → fk fs (j + 2) = cc s * fk fs (j + 1) - cc p * fk fs j := by
  unfold gon
  rw [List.all_eq_true]
  exact ⟨fun h j hj => of_decide_eq_true (h j (List.mem_range.mpr hj)), fun h j hj => decide_eq_true (h j (List.mem_range.mp hj))⟩
def S_goes_on : SpD := fun ds L q _ => ∃ y fs s p, ds = [y, .int s, .int p] ∧ AsL L y (dI fs) ∧ fs6 fs ∧ (0 ≤ s ∧ s ≤ 96) ∧ (0 ≤ p ∧ p ≤ 96) ∧ q (.bl (gon fs s p)) L
theorem b_goes_on {ds : List D} {L : Lg} {q : D → Lg → Prop} {e : Xc → Lg → Prop} (c : Cf X (["found", "s", "p", "j"] : List Str) ([] : List Str) (defScope (top 44)) F0 (fun y _ L' => e y L')) (T : Tx X.K X.mg) (h : S_goes_on ds L q e) :
    BK X F0 (defBody (top 44)) (ds.map some ++ List.replicate 1 none) L { nx := fun _ L' => q .non L', rt := q } := by
  obtain ⟨y, fs, s, p, rfl, hy, h6, hs, hp, h1⟩ := h
  have hfl : (dI fs).length = 6 := by rw [dI_len]; exact h6.1
  refine bk_cons (sk_for c (ei_range2 T.no_range (c.toCn.gl) (ek_int (⟨_, rfl, ek_len T.no_len (c.toCn.gl) (ek_n c.toCn .z (⟨_, Or.inl hy, ⟨_, rfl, (⟨by decide, by decide, by rw [hfl]; decide, by rw [hfl]; decide⟩), ⟨fun i Γ L' => ∃ w1, Γ = [some y, some (.int s), some (.int p), w1] ∧ L' = L ∧ ∀ j, j < i → fk fs (j + 2) = cc s * fk fs (j + 1) - cc p * fk fs j, ?_, fun F1 c i d Γ L hd hP => ?_, fun Γ L hP => ?_⟩⟩⟩))⟩))))
  · exact ⟨_, rfl, rfl, fun k hk => absurd hk (Nat.not_lt_zero _)⟩
  · obtain ⟨w1, rfl, rfl, hk⟩ := hP
    rw [hfl] at hd
    obtain ⟨hi, rfl⟩ := range_nat hd
    have hi : i < 4 := hi
    obtain ⟨va, ga, ba, fa⟩ := fk_lt h6 (k := i) (by omega)
    obtain ⟨vb, gb, bb, fb⟩ := fk_lt h6 (k := i + 1) (by omega)
    obtain ⟨vc, gc, bc, fc⟩ := fk_lt h6 (k := i + 2) (by omega)
    have ia : atI (dI fs) (2 + (i : Int) - 2) = some (.int va) := at_dI (by omega) (by rw [show (2 + (i : Int) - 2).toNat = i by omega]; exact ga)
    have ib : atI (dI fs) (2 + (i : Int) - 1) = some (.int vb) := at_dI (by omega) (by rw [show (2 + (i : Int) - 1).toNat = i + 1 by omega]; exact gb)
    have ic : atI (dI fs) (2 + (i : Int)) = some (.int vc) := at_dI (by omega) (by rw [show (2 + (i : Int)).toNat = i + 2 by omega]; exact gc)
    have key : (s * vb - p * va - vc) % 97 = 0 ↔ fk fs (i + 2) = cc s * fk fs (i + 1) - cc p * fk fs i := by
      rw [← cc_0, cc_sub, cc_sub, cc_mul, cc_mul, fa, fb, fc]
      constructor
      · intro h
        exact (id_sub _ _ h).symm
      · intro h
        rw [h]
        exact id_self _
    refine tg_n c.toCn ⟨_, (.s (.s (.s .z))), ?_⟩
    refine bk_one (sk_if (et_neI (ek_mod (ek_sub (ek_sub (ek_mul (ek_n c.toCn (.s .z) (⟨_, rfl, ek_ix (ek_n c.toCn .z (ek_sub (ek_n c.toCn (.s (.s (.s .z))) (⟨_, rfl, ek_int (⟨_, rfl, ⟨_, _, _, hy, rfl, (by first | exact ia | exact ib | exact ic), ⟨_, rfl, (by walk_at "vmul"), ⟨_, rfl, ek_mul (ek_n c.toCn (.s (.s .z)) (⟨_, rfl, ek_ix (ek_n c.toCn .z (ek_sub (ek_n c.toCn (.s (.s (.s .z))) (⟨_, rfl, ek_int (⟨_, rfl, ⟨_, _, _, hy, rfl, (by first | exact ia | exact ib | exact ic), ⟨_, rfl, (by walk_at "vmul"), ⟨_, rfl, ⟨_, rfl, ek_ix (ek_n c.toCn .z (ek_n c.toCn (.s (.s (.s .z))) (⟨_, _, _, hy, rfl, (by first | exact ia | exact ib | exact ic), ⟨_, rfl, ⟨_, rfl, ek_int (⟨_, rfl, (by walk_at "vpos"), ⟨_, rfl, ek_int (⟨_, rfl, ⟨fun ht => ?_, fun ht => ?_⟩⟩)⟩⟩)⟩⟩⟩))) (fun _ _ => rfl)⟩⟩⟩⟩⟩)⟩)))) (fun _ _ => rfl)⟩))⟩⟩⟩⟩)⟩)))) (fun _ _ => rfl)⟩))))))))
    · refine bk_one (sk_ret (ek_bl (?_)))
      have e1 : gon fs s p = false := by
        rw [Bool.eq_false_iff]
        intro z
        have := gon_iff.mp z i hi
        simp at ht
        exact ht (key.mpr this)
      rw [e1] at h1
      exact h1
    · refine bk_nil ⟨_, rfl, rfl, fun k hk2 => ?_⟩
      by_cases hki : k = i
      · subst hki
        simp at ht
        exact key.mp ht
      · exact hk k (by omega)
  · obtain ⟨w1, rfl, rfl, hk⟩ := hP
    rw [hfl, rangeD_len] at hk
    refine bk_one (sk_ret (ek_bl (?_)))
    have e1 : gon fs s p = true := gon_iff.mpr hk
    rw [e1] at h1
    exact h1
end
end K21


set_option Elab.async false
set_option linter.all false
set_option maxRecDepth 100000
set_option maxHeartbeats 4000000
namespace K21
open PySem PySem.Spec PyProof.Rows L2 Vs
/-! ### fates, as data -/
abbrev FT := List (Int × List (Int × Int))
def prD (t : Int × Int) : D := .tup [.int t.1, .int t.2]
def trD (ts : List (Int × Int)) : D := .tup (ts.map prD)
def arD (x : Int × List (Int × Int)) : D := .tup [.int x.1, trD x.2]
def ftD (f : FT) : D := .tup (f.map arD)
def fsD (fs : List FT) : List D := fs.map ftD
def fitA (x : Int × List (Int × Int)) : Bool := decide (x.2.length ≤ 2)
def fit (f : FT) : Bool := f.any fitA
def prP (t : Int × Int) : PyData := .tuple [.int t.1, .int t.2]
def trP (ts : List (Int × Int)) : PyData := .tuple (ts.map prP)
def arP (x : Int × List (Int × Int)) : PyData := .tuple [.int x.1, trP x.2]
def ftP (f : FT) : PyData := .tuple (f.map arP)
theorem dpds_map {α : Type} {L : Lg} {f : α → D} {g : α → PyData} (h : ∀ a, Dpd L (f a) (g a)) : ∀ {xs : List α}, Dpds L (xs.map f) (xs.map g)
  | [] => .nil
  | _ :: _ => .cons (h _) (dpds_map h)
theorem dpd_tr {L : Lg} (ts : List (Int × Int)) : Dpd L (trD ts) (trP ts) := .tup (dpds_map fun _ => .tup (.cons .int (.cons .int .nil)))
theorem dpd_ft {L : Lg} (f : FT) : Dpd L (ftD f) (ftP f) := .tup (dpds_map (f := arD) (g := arP) fun x => .tup (.cons .int (.cons (dpd_tr x.2) .nil)))
theorem dpds_fs {L : Lg} {fs : List FT} : Dpds L (fsD fs) (fs.map ftP) := dpds_map dpd_ft
theorem shp_all {α : Type} {k : Nat} {g : α → PyData} {xs : List α} (h : ∀ a, Shp k (g a)) : ∀ d ∈ xs.map g, Shp k d := fun d hd => by
  obtain ⟨x, _, rfl⟩ := List.mem_map.mp hd
  exact h x
theorem shp_pr {k : Nat} (t : Int × Int) : Shp (k + 1) (prP t) := shp_tup fun d hd => by
  rcases List.mem_cons.mp hd with rfl | hd
  · exact shp_int
  · rcases List.mem_cons.mp hd with rfl | hd
    · exact shp_int
    · cases hd
theorem shp_tr {k : Nat} (ts : List (Int × Int)) : Shp (k + 2) (trP ts) := shp_tup (shp_all shp_pr)
theorem shp_ar {k : Nat} (x : Int × List (Int × Int)) : Shp (k + 3) (arP x) := shp_tup fun d hd => by
  rcases List.mem_cons.mp hd with rfl | hd
  · exact shp_int
  · rcases List.mem_cons.mp hd with rfl | hd
    · exact shp_tr _
    · cases hd
theorem shp_ft {k : Nat} (f : FT) : Shp (k + 4) (ftP f) := shp_tup (shp_all shp_ar)
theorem shp_fs {k : Nat} (fs : List FT) : Shp (k + 5) (.list (fs.map ftP)) := shp_lst (shp_all shp_ft)
theorem shaped_fs {fs : List FT} : SeqAt.shaped (.list (fs.map ftP)) = true := shp_ok (k := 5) (shp_fs (k := 0) fs) (by decide)
theorem ft_get {f : FT} {n : Nat} {d : D} (h : (f.map arD)[n]? = some d) : ∃ x, f[n]? = some x ∧ d = arD x := by
  rw [List.getElem?_map] at h
  cases z : f[n]? with
  | none => rw [z] at h; cases h
  | some x => rw [z] at h; exact ⟨x, rfl, (Option.some.inj h).symm⟩
theorem fs_get {fs : List FT} {n : Nat} {d : D} (h : (fsD fs)[n]? = some d) : ∃ f, fs[n]? = some f ∧ d = ftD f := by
  unfold fsD at h
  rw [List.getElem?_map] at h
  cases z : fs[n]? with
  | none => rw [z] at h; cases h
  | some x => rw [z] at h; exact ⟨x, rfl, (Option.some.inj h).symm⟩
theorem map_at {α β : Type} {g : α → β} {xs : List α} {n : Nat} {x : α} {y : β} (h : xs[n]? = some x) (h2 : (xs.map g)[n]? = some y) : y = g x := by
  rw [List.getElem?_map, h] at h2
  exact (Option.some.inj h2).symm
theorem fm_len {α : Type} {xs : List α} {p : α → Bool} {g : α → D} : ((xs.map fun x => if p x then some (g x) else none).filterMap id).length = (xs.filter p).length := by
  induction xs with
  | nil => rfl
  | cons x xs ih =>
    cases h : p x with
    | true => simp only [List.map_cons, h, if_true, List.filterMap_cons, id, List.filter_cons, List.length_cons]; rw [ih]
    | false => simp only [List.map_cons, h, Bool.false_eq_true, if_false, List.filterMap_cons, id, List.filter_cons]; exact ih
theorem filt_any {α : Type} {xs : List α} {p : α → Bool} : decide ((0 : Int) < ((xs.filter p).length : Int)) = xs.any p := by
  induction xs with
  | nil => rfl
  | cons x xs ih =>
    cases h : p x with
    | true => simp [List.filter_cons, h]; try omega
    | false => rw [List.filter_cons, h, List.any_cons, h, Bool.false_or, ← ih]; rfl
theorem filt_none {α : Type} {xs : List α} {p : α → Bool} : decide (((xs.filter p).length : Int) = 0) = xs.all fun x => !p x := by
  induction xs with
  | nil => rfl
  | cons x xs ih =>
    cases h : p x with
    | true => simp [List.filter_cons, h]; try omega
    | false => rw [List.filter_cons, h, List.all_cons, h]; exact ih
/-! ### fates that may be -/
def okA (l : Int) (t : Int × Int) : Bool := decide (l < t.1) && (decide (t.1 < 24) && (decide (1 ≤ t.2) && decide (t.2 ≤ 96)))
def okT : Int → List (Int × Int) → Bool
  | _, [] => true
  | l, t :: ts => okA l t && okT t.1 ts
def goodT (ts : List (Int × Int)) : Bool := decide (ts.length ≤ 4) && okT (-1) ts
def goodX (late : Int) (x : Int × List (Int × Int)) : Bool := (decide (1 ≤ x.1) && decide (x.1 ≤ late)) && goodT x.2
def goodF (late : Int) (f : FT) : Bool := decide (f.length ≤ 3) && f.all (goodX late)
def endP : Int → List (Int × Int) → Int
  | l, [] => l
  | _, t :: ts => endP t.1 ts
theorem endP_app : ∀ {ts : List (Int × Int)} {l : Int} {t : Int × Int}, endP l (ts ++ [t]) = t.1
  | [], _, _ => rfl
  | _ :: ts, _, _ => endP_app (ts := ts)
theorem okT_app : ∀ {ts : List (Int × Int)} {l : Int} {t : Int × Int}, okT l (ts ++ [t]) = (okT l ts && okA (endP l ts) t)
  | [], l, t => by show (okA l t && true) = (true && okA l t); rw [Bool.and_true, Bool.true_and]
  | s :: ts, l, t => by
    show (okA l s && okT s.1 (ts ++ [t])) = ((okA l s && okT s.1 ts) && okA (endP s.1 ts) t)
    rw [okT_app, Bool.and_assoc]
theorem drop_at {α : Type} {xs : List α} {i : Nat} {x : α} (h : xs[i]? = some x) : xs.drop i = x :: xs.drop (i + 1) := by
  obtain ⟨hl, e⟩ := List.getElem?_eq_some_iff.mp h
  rw [List.drop_eq_getElem_cons hl, e]
theorem pr_get {ts : List (Int × Int)} {n : Nat} {d : D} (h : (ts.map prD)[n]? = some d) : ∃ t, ts[n]? = some t ∧ d = prD t := by
  rw [List.getElem?_map] at h
  cases z : ts[n]? with
  | none => rw [z] at h; cases h
  | some x => rw [z] at h; exact ⟨x, rfl, (Option.some.inj h).symm⟩
/-! rising rows -/
def chn : Int → List Int → Bool
  | _, [] => true
  | l, x :: xs => decide (l < x) && chn x xs
theorem chn_low {c : Int} : ∀ {xs : List Int} {l : Int}, chn l (xs ++ [c]) = true → l < c
  | [], l, h => by
    have h2 : (decide (l < c) && true) = true := h
    simpa using h2
  | x :: xs, l, h => by
    have h2 : (decide (l < x) && chn x (xs ++ [c])) = true := h
    rw [Bool.and_eq_true, decide_eq_true_eq] at h2
    have := chn_low h2.2
    omega
theorem okT_chn : ∀ {ts : List (Int × Int)} {l : Int}, l < 24 → okT l ts = (chn l (ts.map (·.1) ++ [24]) && (ts.map (·.2)).all fun a => decide (1 ≤ a) && decide (a ≤ 96))
  | [], l, h => by
    show true = ((decide (l < 24) && true) && true)
    rw [decide_eq_true h]
    rfl
  | t :: ts, l, h => by
    show (decide (l < t.1) && (decide (t.1 < 24) && (decide (1 ≤ t.2) && decide (t.2 ≤ 96))) && okT t.1 ts) = ((decide (l < t.1) && chn t.1 (ts.map (·.1) ++ [24])) && ((decide (1 ≤ t.2) && decide (t.2 ≤ 96)) && (ts.map (·.2)).all fun a => decide (1 ≤ a) && decide (a ≤ 96)))
    by_cases h2 : t.1 < 24
    · rw [okT_chn h2, decide_eq_true h2]
      generalize decide (l < t.1) = a
      generalize chn t.1 (ts.map (·.1) ++ [24]) = b
      generalize (decide (1 ≤ t.2) && decide (t.2 ≤ 96)) = d
      generalize ((ts.map (·.2)).all fun a => decide (1 ≤ a) && decide (a ≤ 96)) = e
      cases a <;> cases b <;> cases d <;> cases e <;> rfl
    · have h3 : chn t.1 (ts.map (·.1) ++ [24]) = false := by
        cases z : chn t.1 (ts.map (·.1) ++ [24]) with
        | false => rfl
        | true => exact absurd (chn_low z) h2
      rw [h3, decide_eq_false h2, Bool.and_false, Bool.false_and, Bool.false_and, Bool.and_false, Bool.false_and]
/-- a row that does not rise at a place -/
theorem chn_rows : ∀ {xs : List Int} {l : Int}, chn l xs = ((List.range xs.length).filter fun k => decide ((l :: xs).getD (k + 1) 0 ≤ (l :: xs).getD k 0)).isEmpty
  | [], _ => rfl
  | x :: xs, l => by
    show (decide (l < x) && chn x xs) = _
    rw [chn_rows, List.length_cons, List.range_succ_eq_map, List.filter_cons, List.filter_map]
    have e : ((fun k => decide ((l :: x :: xs).getD (k + 1) 0 ≤ (l :: x :: xs).getD k 0)) ∘ Nat.succ) = fun k => decide ((x :: xs).getD (k + 1) 0 ≤ (x :: xs).getD k 0) := by
      funext k
      rfl
    rw [e]
    by_cases h : l < x
    · have h2 : decide ((l :: x :: xs).getD (0 + 1) 0 ≤ (l :: x :: xs).getD 0 0) = false := decide_eq_false (by show ¬ x ≤ l; omega)
      rw [h2, if_neg Bool.false_ne_true, decide_eq_true h, Bool.true_and]
      cases ((List.range xs.length).filter fun k => decide ((x :: xs).getD (k + 1) 0 ≤ (x :: xs).getD k 0)) <;> rfl
    · have h2 : decide ((l :: x :: xs).getD (0 + 1) 0 ≤ (l :: x :: xs).getD 0 0) = true := decide_eq_true (by show x ≤ l; omega)
      rw [h2, if_pos rfl, decide_eq_false h, Bool.false_and]
      rfl
theorem dpds_ar {L : Lg} {g : FT} : Dpds L (g.map arD) (g.map arP) := dpds_map (f := arD) (g := arP) fun x => .tup (.cons .int (.cons (dpd_tr x.2) .nil))
theorem shaped_ar {g : FT} : SeqAt.shaped (.list (g.map arP)) = true := shp_ok (k := 4) (shp_lst (shp_all shp_ar)) (by decide)
theorem shaped_tr {ts : List (Int × Int)} : SeqAt.shaped (trP ts) = true := shp_ok (k := 2) (shp_tr ts) (by decide)
/-! ### the plain law of breaches -/
/-- n fates from p on, none fit -/
def unf (fs : List FT) (p n : Nat) : Prop := ∀ j, j < n → ∃ f, fs[p + j]? = some f ∧ fit f = false
/-- the first place from which lost + 1 fates are not fit -/
def Br (fs : List FT) (lost : Nat) : Option Nat → Prop
  | some p => unf fs p (lost + 1) ∧ ∀ p', p' < p → ¬ unf fs p' (lost + 1)
  | none => ∀ p, ¬ unf fs p (lost + 1)
theorem Br.one {fs : List FT} {lost : Nat} {a b : Option Nat} (ha : Br fs lost a) (hb : Br fs lost b) : a = b := by
  cases a with
  | none =>
    cases b with
    | none => rfl
    | some q => exact absurd hb.1 (ha q)
  | some p =>
    cases b with
    | none => exact absurd ha.1 (hb p)
    | some q =>
      rcases Nat.lt_trichotomy p q with h | h | h
      · exact absurd ha.1 (hb.2 p h)
      · rw [h]
      · exact absurd hb.1 (ha.2 q h)
/-- the walk at place i: no breach ends ahead of i, the run r is what is silent just ahead of i -/
structure Run (fs : List FT) (lost i r : Nat) : Prop where
  small : r ≤ lost
  le : r ≤ i
  tail : unf fs (i - r) r
  head : r = i ∨ ∃ f, fs[i - r - 1]? = some f ∧ fit f = true
  none : ∀ p, p + lost < i → ¬ unf fs p (lost + 1)
theorem Run.zero {fs : List FT} {lost : Nat} : Run fs lost 0 0 := ⟨Nat.zero_le _, Nat.le_refl _, fun j h => absurd h (Nat.not_lt_zero _), .inl rfl, fun p h => absurd h (Nat.not_lt_zero _)⟩
theorem Run.fits {fs : List FT} {lost i r : Nat} {f : FT} (h : Run fs lost i r) (hf : fs[i]? = some f) (ht : fit f = true) : Run fs lost (i + 1) 0 := by
  refine ⟨Nat.zero_le _, Nat.zero_le _, fun j h => absurd h (Nat.not_lt_zero _), .inr ⟨f, hf, ht⟩, fun p hp hu => ?_⟩
  by_cases hp2 : p + lost < i
  · exact h.none p hp2 hu
  · obtain ⟨g, hg, hgf⟩ := hu lost (Nat.lt_succ_self _)
    rw [show p + lost = i by omega, hf] at hg
    cases hg
    rw [ht] at hgf
    cases hgf
theorem Run.more {fs : List FT} {lost i r : Nat} {f : FT} (h : Run fs lost i r) (hf : fs[i]? = some f) (ht : fit f = false) (hr : r + 1 ≤ lost) : Run fs lost (i + 1) (r + 1) := by
  have hle := h.le
  refine ⟨hr, by omega, fun j hj => ?_, ?_, fun p hp hu => ?_⟩
  · rw [show i + 1 - (r + 1) + j = i - r + j by omega]
    by_cases hj2 : j < r
    · exact h.tail j hj2
    · rw [show i - r + j = i by omega]
      exact ⟨f, hf, ht⟩
  · rcases h.head with e | ⟨g, hg, hgt⟩
    · exact .inl (by omega)
    · exact .inr ⟨g, by rw [show i + 1 - (r + 1) - 1 = i - r - 1 by omega]; exact hg, hgt⟩
  · by_cases hp2 : p + lost < i
    · exact h.none p hp2 hu
    · rcases h.head with e | ⟨g, hg, hgt⟩
      · omega
      · by_cases hri : r = i
        · omega
        · obtain ⟨g2, hg2, hgf⟩ := hu (i - r - 1 - p) (by omega)
          rw [show p + (i - r - 1 - p) = i - r - 1 by omega, hg] at hg2
          cases hg2
          rw [hgt] at hgf
          cases hgf
theorem Run.breach {fs : List FT} {lost i : Nat} {f : FT} (h : Run fs lost i lost) (hf : fs[i]? = some f) (ht : fit f = false) : Br fs lost (some (i - lost)) := by
  have hle := h.le
  refine ⟨fun j hj => ?_, fun p' hp' => h.none p' (by omega)⟩
  by_cases hj2 : j < lost
  · exact h.tail j hj2
  · rw [show i - lost + j = i by omega]
    exact ⟨f, hf, ht⟩
theorem Run.done {fs : List FT} {lost r : Nat} (h : Run fs lost fs.length r) : Br fs lost Option.none := fun p hu => by
  obtain ⟨g, hg, _⟩ := hu lost (Nat.lt_succ_self _)
  have := (List.getElem?_eq_some_iff.mp hg).1
  exact h.none p this hu
local macro_rules | `(tactic| walk_at "vpos") => `(tactic| first | decide | omega)
local macro_rules | `(tactic| walk_at "vdiv") => `(tactic| first | exact ⟨by decide, by decide⟩ | (constructor <;> omega))
local macro_rules | `(tactic| walk_at "vpow") => `(tactic| exact ⟨by decide, by decide, by decide⟩)
local macro_rules | `(tactic| walk_at "vmul") => `(tactic| first | exact mulL ⟨by decide, by decide⟩ | exact mulR ⟨by decide, by decide⟩ | exact mulL (by constructor <;> omega) | exact mulR (by constructor <;> omega))
local macro_rules | `(tactic| walk_at "vlen") => `(tactic| first | exact sz_ok (Nat.le_of_ble_eq_true rfl) | exact sz_lt (Nat.le_of_ble_eq_true rfl) | (refine sz_ok ?_; simp only [List.length_append, List.length_cons, List.length_nil, List.length_map]; omega) | (refine sz_lt ?_; simp only [List.length_append, List.length_cons, List.length_nil, List.length_map]; omega))
local macro_rules | `(tactic| walk_at "vrng") => `(tactic| (refine ⟨?_, ?_⟩ <;> omega))
local macro_rules | `(tactic| walk_at "vix") => `(tactic| rfl)
local macro_rules | `(tactic| walk_at "vixn") => `(tactic| first | rfl | exact ixN_at (by omega) (by omega))
local macro_rules | `(tactic| walk_at "vkb") => `(tactic| decide +kernel)
local macro_rules | `(tactic| walk_at "vty") => `(tactic| first | exact .int | exact .bl | exact .lst | exact .str | exact .tup | exact .non | exact .own .z | exact tyd_as (by assumption))
local macro_rules | `(tactic| walk_at "vkit") => `(tactic| assumption)
local macro_rules | `(tactic| walk_at "vrep") => `(tactic| (refine ⟨by omega, by omega, ?_⟩; first | decide | (refine sz_ok ?_; simp only [List.length_cons, List.length_nil]; omega)))
section
variable {X : Cx} {F0 : Hp}
theorem fsD_len {fs : List FT} : (fsD fs).length = fs.length := List.length_map _
theorem fm_map {α : Type} {xs : List α} {p : α → Bool} {g : α → D} : (xs.map fun x => if p x then some (g x) else none).filterMap id = (xs.filter p).map g := by
  induction xs with
  | nil => rfl
  | cons x xs ih =>
    cases h : p x with
    | true => simp only [List.map_cons, h, if_true, List.filterMap_cons, id, List.filter_cons]; rw [ih]
    | false => simp only [List.map_cons, h, Bool.false_eq_true, if_false, List.filterMap_cons, id, List.filter_cons]; exact ih
theorem eqv_nil {ds : List PyData} : PyData.eqv (.list ds) (.list []) = ds.isEmpty := by
  cases ds <;> simp [PyData.eqv, PyData.eqvAll]
theorem get_at_set {α : Type} {x y : α} : ∀ {L : List α} {j : Nat}, Get L j x → Get (L.set j y) j y
  | _, _, .z => .z
  | _, _, .s g => .s (get_at_set g)
def cutL {α : Type} (xs : List α) (lo hi : Option Int) : List α := (xs.drop (HT.sIx xs.length 0 lo)).take (HT.sIx xs.length xs.length hi - HT.sIx xs.length 0 lo)
theorem cut_map {α : Type} {xs : List α} {f : α → D} {lo hi : Option Int} : cutD (xs.map f) lo hi = (cutL xs lo hi).map f := by
  unfold Vs.cutD cutL
  rw [List.length_map, List.map_take, List.map_drop]
theorem cutL_len {α : Type} {xs : List α} {lo hi : Option Int} : (cutL xs lo hi).length ≤ xs.length := by
  unfold cutL
  rw [List.length_take, List.length_drop]
  omega
theorem at_map {α : Type} {xs : List α} {f : α → D} {i : Int} (h0 : -(xs.length : Int) ≤ i) (h1 : i < xs.length) : ∃ x ∈ xs, atI (xs.map f) i = some (f x) := by
  unfold L2.atI L2.ixN
  rw [List.length_map]
  by_cases h : 0 ≤ i
  · rw [if_pos h, if_pos h1]
    have hl : i.toNat < xs.length := by omega
    exact ⟨xs[i.toNat], List.getElem_mem _, by show (xs.map f)[i.toNat]? = _; rw [List.getElem?_map, List.getElem?_eq_getElem hl]; rfl⟩
  · rw [if_neg h, if_pos h0]
    have hl : (i + (xs.length : Int)).toNat < xs.length := by omega
    exact ⟨xs[(i + (xs.length : Int)).toNat], List.getElem_mem _, by show (xs.map f)[(i + (xs.length : Int)).toNat]? = _; rw [List.getElem?_map, List.getElem?_eq_getElem hl]; rfl⟩
theorem pick {xs : List Int} {i : Int} (h0 : -(xs.length : Int) ≤ i) (h1 : i < xs.length) : ∃ v ∈ xs, atI (dI xs) i = some (.int v) := at_map h0 h1
theorem dpd_nats {L : Lg} {xs : List Nat} {g : Nat → Int} : Dpd L (.lst (xs.map fun k => D.int (g k))) (.list (xs.map fun k => PyData.int (g k))) := by
  refine .lst ?_
  induction xs with
  | nil => exact .nil
  | cons x xs ih => exact .cons .int ih
theorem get_lt {α : Type} {x : α} : ∀ {xs : List α} {j : Nat}, Get xs j x → j < xs.length
  | _, _, .z => Nat.succ_pos _
  | _, _, .s g => Nat.succ_lt_succ (get_lt g)
theorem set_app {α : Type} {x y : α} {xs ys : List α} {j : Nat} (g : Get xs j x) : (xs ++ ys).set j y = xs.set j y ++ ys := List.set_append_left _ _ (get_lt g)
theorem at_dIg {xs : List Int} {i : Int} (h0 : 0 ≤ i) (h1 : i < xs.length) : atI (dI xs) i = some (.int (xs.getD i.toNat 0)) := at_dI h0 (by
  rw [List.getD_eq_getElem?_getD, List.getElem?_eq_getElem (by omega)]
  rfl)
theorem rep_map {α : Type} {f : α → D} {n : Nat} {x : α} : (List.replicate n [f x]).flatten = (List.replicate n x).map f := by
  induction n with
  | zero => rfl
  | succ n ih => rw [List.replicate_succ, List.replicate_succ, List.flatten_cons, ih]; rfl
theorem set_self {α : Type} {x : α} : ∀ {xs : List α} {j : Nat}, Get xs j x → xs.set j x = xs
  | _, _, .z => rfl
  | _, _, .s g => congrArg (_ :: ·) (set_self g)
/-! is_fit -/
def S_is_fit : SpD := fun ds L q _ => ∃ f : FT, ds = [ftD f] ∧ f.length ≤ 1000 ∧ q (.bl (fit f)) L
theorem b_is_fit {ds : List D} {L : Lg} {q : D → Lg → Prop} {e : Xc → Lg → Prop} (c : Cf X (["fate"] : List Str) (["delay", "turns"] : List Str) (defScope (top 19)) F0 (fun y _ L' => e y L')) (T : Tx X.K X.mg) (h : S_is_fit ds L q e) :
    BK X F0 (defBody (top 19)) (ds.map some ++ List.replicate 2 none) L { nx := fun _ L' => q .non L', rt := q } := by
  obtain ⟨f, rfl, hl, h1⟩ := h
  refine bk_one (sk_ret (ek_any c.calm T.no_any (c.toCn.gl) (ek_lcM [("delay", 1), ("turns", 2)] c.toCn c.calm (by decide +kernel) (ei_p (ei_tup (ek_n c.toCn .z (⟨_, rfl, ⟨(f.map fitA).map D.bl, ?_, ⟨_, (.lst), ?_⟩⟩⟩)))))))
  · refine ⟨by rw [List.length_map, List.length_map, List.length_map], by rw [List.length_map]; omega, fun F1 n d e acc Dp hd he => ?_⟩
    obtain ⟨x, hx, rfl⟩ := ft_get hd
    have he' := map_at (by rw [List.getElem?_map, hx]; rfl) he
    subst he'
    intro X' cb hX'
    obtain ⟨s0, H0, C0, cl, fp, rfl⟩ := hX'
    refine tb_tup cb ⟨_, rfl, rfl, tnb_c cb ⟨_, (.s .z), tnb_c cb ⟨_, (.s (.s .z)), tnb_z ⟨rfl, fun X' cb hX' => ?_⟩⟩⟩⟩
    obtain ⟨s0, H0, C0, cl, fp, rfl⟩ := hX'
    refine ek_le (ek_len T.no_len cb.gl (ek_b cb (.s (.s .z)) (⟨_, Or.inr rfl, ⟨_, rfl, ek_gi T.MENDED_TURNS cb.gl (⟨_, rfl, ?_⟩)⟩⟩)))
    refine ⟨rfl, ?_⟩
    unfold fitA
    rw [List.length_map]
    exact congrArg D.bl (decide_eq_decide.mpr (by omega))
  · have e1 : (f.map fitA).any id = fit f := by
      unfold fit
      rw [List.any_map]
      rfl
    rw [e1]
    exact h1
/-! measures: look_late, look_measure, quiet_of -/
def okL (late : Int) : Prop := 1 ≤ late ∧ late ≤ 6
def okM (late lost : Int) : Prop := (1 ≤ late ∧ late ≤ 6) ∧ 0 ≤ lost ∧ lost ≤ 4
def S_look_late (K : PySem.W.Frag) : SpD := fun ds L q e => ∃ late, ds = [.int late] ∧ (okL late → q .non L) ∧ (¬ okL late → e (xcOf K "BadMeasure") L)
theorem b_look_late {ds : List D} {L : Lg} {q : D → Lg → Prop} {e : Xc → Lg → Prop} (c : Cf X (["late"] : List Str) ([] : List Str) (defScope (top 15)) F0 (fun y _ L' => e y L')) (T : Tx X.K X.mg) (h : S_look_late X.K ds L q e) :
    BK X F0 (defBody (top 15)) (ds.map some ++ List.replicate 0 none) L { nx := fun _ L' => q .non L', rt := q } := by
  obtain ⟨late, rfl, h1, h2⟩ := h
  refine bk_one (sk_if (et_w (ew_or (et_lt (ek_n c.toCn .z (⟨_, rfl, ek_int (⟨_, rfl, ⟨rfl, rfl⟩⟩)⟩))) (fun hb => et_or1 (et_gt (ek_n c.toCn .z (⟨_, rfl, ek_gi T.MOST_LATE (c.toCn.gl) (⟨_, rfl, ⟨rfl, rfl⟩⟩)⟩)))) (⟨fun ht => ?_, fun ht => ?_⟩))))
  · refine bk_one (sk_rz c T.BadMeasure ?_)
    refine h2 fun z => ?_
    have z1 := z.1
    have z2 := z.2
    simp at ht
    omega
  · refine bk_nil (h1 ?_)
    unfold okL
    simp at ht
    omega
def S_look_measure (K : PySem.W.Frag) : SpD := fun ds L q e => ∃ late lost, ds = [.tup [.int late, .int lost]] ∧ (okM late lost → q .non L) ∧ (¬ okM late lost → e (xcOf K "BadMeasure") L)
theorem b_look_measure {ds : List D} {L : Lg} {q : D → Lg → Prop} {e : Xc → Lg → Prop} (c : Cf X (["measure", "late", "lost"] : List Str) ([] : List Str) (defScope (top 16)) F0 (fun y _ L' => e y L')) (T : Tx X.K X.mg) (hr : Room 1 X.A)
    (G_look_late : CalX X 1 "look_late" (["late"] : List Str) (S_look_late X.K)) (h : S_look_measure X.K ds L q e) :
    BK X F0 (defBody (top 16)) (ds.map some ++ List.replicate 2 none) L { nx := fun _ L' => q .non L', rt := q } := by
  obtain ⟨late, lost, rfl, h1, h2⟩ := h
  refine bk_cons (sk_asg (ek_n c.toCn .z (tg_tup c.calm ⟨_, rfl, rfl, tn_c c.toCn ⟨_, (.s .z), tn_c c.toCn ⟨_, (.s (.s .z)), tn_z (?_)⟩⟩⟩)))
  refine bk_cons (sk_expr (ek_call c.tk G_look_late (hr.mono (by decide)) (ea_cons (ek_n c.toCn (.s .z) (ea_nil (⟨_, rfl, fun hl => ?_, fun hl => ?_⟩)))) (c.toCn.gl)))
  · refine bk_one (sk_if (et_w (ew_or (et_lt (ek_n c.toCn (.s (.s .z)) (⟨_, rfl, ek_int (⟨_, rfl, ⟨rfl, rfl⟩⟩)⟩))) (fun hb => et_or1 (et_gt (ek_n c.toCn (.s (.s .z)) (⟨_, rfl, ek_gi T.MOST_LOST (c.toCn.gl) (⟨_, rfl, ⟨rfl, rfl⟩⟩)⟩)))) (⟨fun ht => ?_, fun ht => ?_⟩))))
    · refine bk_one (sk_rz c T.BadMeasure ?_)
      refine h2 fun z => ?_
      have z1 := z.2.1
      have z2 := z.2.2
      simp at ht
      omega
    · refine bk_nil (h1 ?_)
      have l1 := hl.1
      have l2 := hl.2
      unfold okM
      simp at ht
      omega
  · exact h2 fun z => hl z.1
def S_quiet_of (K : PySem.W.Frag) : SpD := fun ds L q e => ∃ late lost, ds = [.tup [.int late, .int lost]] ∧ (okM late lost → q (.int (late + lost)) L) ∧ (¬ okM late lost → e (xcOf K "BadMeasure") L)
theorem b_quiet_of {ds : List D} {L : Lg} {q : D → Lg → Prop} {e : Xc → Lg → Prop} (c : Cf X (["measure"] : List Str) ([] : List Str) (defScope (top 20)) F0 (fun y _ L' => e y L')) (T : Tx X.K X.mg) (hr : Room 2 X.A)
    (G_look_measure : CalX X 2 "look_measure" (["measure"] : List Str) (S_look_measure X.K)) (h : S_quiet_of X.K ds L q e) :
    BK X F0 (defBody (top 20)) (ds.map some ++ List.replicate 0 none) L { nx := fun _ L' => q .non L', rt := q } := by
  obtain ⟨late, lost, rfl, h1, h2⟩ := h
  have i0 : atI [D.int late, D.int lost] 0 = some (.int late) := rfl
  have i1 : atI [D.int late, D.int lost] 1 = some (.int lost) := rfl
  refine bk_cons (sk_expr (ek_call c.tk G_look_measure (hr.mono (by decide)) (ea_cons (ek_n c.toCn .z (ea_nil (⟨_, _, rfl, fun hm => ?_, fun hm => ?_⟩)))) (c.toCn.gl)))
  · refine bk_one (sk_ret (ek_add (ek_ixT (ek_n c.toCn .z (ek_int (⟨_, _, _, rfl, rfl, (by first | exact i0 | exact i1), ⟨_, rfl, ek_ixT (ek_n c.toCn .z (ek_int (⟨_, _, _, rfl, rfl, (by first | exact i0 | exact i1), ⟨_, rfl, ?_⟩⟩))) (fun _ _ => rfl)⟩⟩))) (fun _ _ => rfl))))
    exact h1 hm
  · exact h2 hm
/-! look_turns, look_fate -/
def S_look_turns (K : PySem.W.Frag) : SpD := fun ds L q e => ∃ ts : List (Int × Int), ds = [trD ts] ∧ (goodT ts = true → q .non L) ∧ (goodT ts = false → e (xcOf K "BadFate") L)
theorem b_look_turns {ds : List D} {L : Lg} {q : D → Lg → Prop} {e : Xc → Lg → Prop} (c : Cf X (["turns", "last", "place", "add"] : List Str) ([] : List Str) (defScope (top 17)) F0 (fun y _ L' => e y L')) (T : Tx X.K X.mg) (h : S_look_turns X.K ds L q e) :
    BK X F0 (defBody (top 17)) (ds.map some ++ List.replicate 3 none) L { nx := fun _ L' => q .non L', rt := q } := by
  obtain ⟨ts, rfl, h1, h2⟩ := h
  refine bk_cons (sk_if (et_gt (ek_len T.no_len (c.toCn.gl) (ek_n c.toCn .z (⟨_, Or.inr rfl, ⟨_, rfl, ek_gi T.MOST_TURNS (c.toCn.gl) (⟨_, rfl, ⟨fun ht => ?_, fun ht => ?_⟩⟩)⟩⟩)))))
  · refine bk_one (sk_rz c T.BadFate ?_)
    refine h2 ?_
    rw [List.length_map] at ht
    unfold goodT
    rw [decide_eq_false (by simp at ht; omega), Bool.false_and]
  · refine bk_nil ?_
    rw [List.length_map] at ht
    have hl : ts.length ≤ 4 := by simp at ht; omega
    have hg : goodT ts = okT (-1) ts := by
      unfold goodT
      rw [decide_eq_true hl, Bool.true_and]
    refine bk_cons (sk_set c.toCn (ek_neg (ek_int (⟨_, rfl, ⟨_, (.s .z), ?_⟩⟩))))
    refine bk_one (sk_for c (ei_tup (ek_n c.toCn .z (⟨_, rfl, ⟨fun i Γ L' => ∃ (last : Int) (w1 w2 : Option D), Γ = [some (trD ts), some (.int last), w1, w2] ∧ L' = L ∧ okT (-1) ts = okT last (ts.drop i), ?_, fun F1 c i d Γ L hd hP => ?_, fun Γ L hP => ?_⟩⟩))))
    · exact ⟨_, _, _, rfl, rfl, rfl⟩
    · obtain ⟨last, w1, w2, rfl, rfl, hO⟩ := hP
      obtain ⟨t, hti, rfl⟩ := pr_get hd
      rw [drop_at hti] at hO
      refine tg_tup c.calm ⟨_, rfl, rfl, tn_c c.toCn ⟨_, (.s (.s .z)), tn_c c.toCn ⟨_, (.s (.s (.s .z))), tn_z (?_)⟩⟩⟩
      refine bk_cons (sk_if (et_w (ew_or (et_le (ek_n c.toCn (.s (.s .z)) (⟨_, rfl, ek_n c.toCn (.s .z) (⟨_, rfl, ⟨rfl, rfl⟩⟩)⟩))) (fun hb => ew_or (et_ge (ek_n c.toCn (.s (.s .z)) (⟨_, rfl, ek_gi T.PLACES_fates (c.toCn.gl) (⟨_, rfl, ⟨rfl, rfl⟩⟩)⟩))) (fun hb => ew_or (et_lt (ek_n c.toCn (.s (.s (.s .z))) (⟨_, rfl, ek_int (⟨_, rfl, ⟨rfl, rfl⟩⟩)⟩))) (fun hb => et_or1 (et_gt (ek_n c.toCn (.s (.s (.s .z))) (⟨_, rfl, ek_gi T.MOST_SIGN (c.toCn.gl) (⟨_, rfl, ⟨rfl, rfl⟩⟩)⟩)))) (⟨rfl, rfl⟩)) (⟨rfl, rfl⟩)) (⟨fun ht => ?_, fun ht => ?_⟩))))
      · refine bk_one (sk_rz c T.BadFate ?_)
        refine h2 ?_
        rw [hg, hO]
        have e1 : okA last t = false := by
          unfold okA
          simp at ht ⊢
          omega
        show (okA last t && _) = false
        rw [e1, Bool.false_and]
      · refine bk_nil ?_
        refine bk_one (sk_set c.toCn (ek_n c.toCn (.s (.s .z)) (⟨_, (.s .z), ?_⟩)))
        refine ⟨_, _, _, rfl, rfl, ?_⟩
        have e1 : okA last t = true := by
          unfold okA
          simp at ht ⊢
          omega
        rw [hO]
        show (okA last t && _) = _
        rw [e1, Bool.true_and]
    · obtain ⟨last, w1, w2, rfl, rfl, hO⟩ := hP
      rw [List.length_map, List.drop_of_length_le (Nat.le_refl _)] at hO
      exact h1 (by rw [hg, hO]; rfl)
def S_look_fate (K : PySem.W.Frag) : SpD := fun ds L q e => ∃ (f : FT) (late : Int), ds = [ftD f, .int late] ∧ (goodF late f = true → q .non L) ∧ (goodF late f = false → e (xcOf K "BadFate") L)
theorem b_look_fate {ds : List D} {L : Lg} {q : D → Lg → Prop} {e : Xc → Lg → Prop} (c : Cf X (["fate", "late", "delay", "turns"] : List Str) ([] : List Str) (defScope (top 18)) F0 (fun y _ L' => e y L')) (T : Tx X.K X.mg) (hr : Room 1 X.A)
    (G_look_turns : CalX X 1 "look_turns" (["turns"] : List Str) (S_look_turns X.K)) (h : S_look_fate X.K ds L q e) :
    BK X F0 (defBody (top 18)) (ds.map some ++ List.replicate 2 none) L { nx := fun _ L' => q .non L', rt := q } := by
  obtain ⟨f, late, rfl, h1, h2⟩ := h
  refine bk_cons (sk_if (et_gt (ek_len T.no_len (c.toCn.gl) (ek_n c.toCn .z (⟨_, Or.inr rfl, ⟨_, rfl, ek_gi T.MOST_ARRIVALS (c.toCn.gl) (⟨_, rfl, ⟨fun ht => ?_, fun ht => ?_⟩⟩)⟩⟩)))))
  · refine bk_one (sk_rz c T.BadFate ?_)
    refine h2 ?_
    rw [List.length_map] at ht
    unfold goodF
    rw [decide_eq_false (by simp at ht; omega), Bool.false_and]
  · refine bk_nil ?_
    rw [List.length_map] at ht
    have hl : f.length ≤ 3 := by simp at ht; omega
    have hg : goodF late f = f.all (goodX late) := by
      unfold goodF
      rw [decide_eq_true hl, Bool.true_and]
    refine bk_one (sk_for c (ei_tup (ek_n c.toCn .z (⟨_, rfl, ⟨fun i Γ L' => ∃ (w1 w2 : Option D), Γ = [some (ftD f), some (.int late), w1, w2] ∧ L' = L ∧ f.all (goodX late) = (f.drop i).all (goodX late), ?_, fun F1 c i d Γ L hd hP => ?_, fun Γ L hP => ?_⟩⟩))))
    · exact ⟨_, _, rfl, rfl, rfl⟩
    · obtain ⟨w1, w2, rfl, rfl, hO⟩ := hP
      obtain ⟨x, hxi, rfl⟩ := ft_get hd
      rw [drop_at hxi, List.all_cons] at hO
      refine tg_tup c.calm ⟨_, rfl, rfl, tn_c c.toCn ⟨_, (.s (.s .z)), tn_c c.toCn ⟨_, (.s (.s (.s .z))), tn_z (?_)⟩⟩⟩
      refine bk_cons (sk_if (et_w (ew_or (et_lt (ek_n c.toCn (.s (.s .z)) (⟨_, rfl, ek_int (⟨_, rfl, ⟨rfl, rfl⟩⟩)⟩))) (fun hb => et_or1 (et_gt (ek_n c.toCn (.s (.s .z)) (⟨_, rfl, ek_n c.toCn (.s .z) (⟨_, rfl, ⟨rfl, rfl⟩⟩)⟩)))) (⟨fun ht => ?_, fun ht => ?_⟩))))
      · refine bk_one (sk_rz c T.BadFate ?_)
        refine h2 ?_
        rw [hg, hO]
        have e1 : goodX late x = false := by
          unfold goodX
          have : (decide (1 ≤ x.1) && decide (x.1 ≤ late)) = false := by
            simp at ht ⊢
            omega
          rw [this, Bool.false_and]
        rw [e1, Bool.false_and]
      · refine bk_nil ?_
        have e0 : goodX late x = goodT x.2 := by
          unfold goodX
          have : (decide (1 ≤ x.1) && decide (x.1 ≤ late)) = true := by
            simp at ht ⊢
            omega
          rw [this, Bool.true_and]
        refine bk_one (sk_expr (ek_call c.tk G_look_turns (hr.mono (by decide)) (ea_cons (ek_n c.toCn (.s (.s (.s .z))) (ea_nil (⟨_, rfl, fun hgt => ?_, fun hgt => ?_⟩)))) (c.toCn.gl)))
        · refine ⟨_, _, rfl, rfl, ?_⟩
          rw [hO, e0, hgt, Bool.true_and]
        · exact h2 (by rw [hg, hO, e0, hgt, Bool.false_and])
    · obtain ⟨w1, w2, rfl, rfl, hO⟩ := hP
      rw [List.length_map, List.drop_of_length_le (Nat.le_refl _)] at hO
      exact h1 (by rw [hg, hO]; rfl)
/-! breach -/
def S_breach (K : PySem.W.Frag) : SpD := fun ds L q e => ∃ (x : D) (fs : List FT) (late lost : Int), ds = [x, .tup [.int late, .int lost]] ∧ AsL L x (fsD fs) ∧ fs.length ≤ 1000 ∧ (∀ f ∈ fs, f.length ≤ 1000) ∧ (okM late lost → ∀ o, Br fs lost.toNat o → q (optD o) L) ∧ (¬ okM late lost → e (xcOf K "BadMeasure") L)
theorem b_breach {ds : List D} {L : Lg} {q : D → Lg → Prop} {e : Xc → Lg → Prop} (c : Cf X (["fates", "measure", "run", "place", "fate"] : List Str) ([] : List Str) (defScope (top 21)) F0 (fun y _ L' => e y L')) (T : Tx X.K X.mg) (hr : Room 2 X.A)
    (G_look_measure : CalX X 2 "look_measure" (["measure"] : List Str) (S_look_measure X.K)) (G_is_fit : CalX X 1 "is_fit" (["fate"] : List Str) S_is_fit) (h : S_breach X.K ds L q e) :
    BK X F0 (defBody (top 21)) (ds.map some ++ List.replicate 3 none) L { nx := fun _ L' => q .non L', rt := q } := by
  obtain ⟨x, fs, late, lostI, rfl, hx, hl, hf, h1, h2⟩ := h
  refine bk_cons (sk_expr (ek_call c.tk G_look_measure (hr.mono (by decide)) (ea_cons (ek_n c.toCn (.s .z) (ea_nil (⟨_, _, rfl, fun hm => ?_, fun hm => ?_⟩)))) (c.toCn.gl)))
  case refine_2 => exact h2 hm
  have h1 := h1 hm
  obtain ⟨lost, rfl, hlo⟩ : ∃ lost : Nat, lostI = (lost : Int) ∧ lost ≤ 4 := ⟨lostI.toNat, by have := hm.2.1; omega, by have := hm.2.2; omega⟩
  rw [Int.toNat_natCast] at h1
  refine bk_cons (sk_set c.toCn (ek_int (⟨_, (.s (.s .z)), ?_⟩)))
  refine bk_cons (sk_forNE T.no_enumerate (c.toCn.gl) c (fun kk h => ek_n c.toCn .z (h)) hx (fun i Γ L' => ∃ (r : Nat) (w1 w2 : Option D), Γ = [some x, some (.tup [.int late, .int (lost : Int)]), some (.int (r : Int)), w1, w2] ∧ L' = L ∧ Run fs lost i r) ?_ ?_ (fun F1 c i d Γ L hd hP => ?_) (fun Γ L hP => ?_))
  · exact ⟨0, _, _, rfl, rfl, .zero⟩
  · rintro i Γ L' ⟨r, w1, w2, rfl, rfl, _⟩
    exact hx
  · obtain ⟨r, w1, w2, rfl, rfl, hR⟩ := hP
    obtain ⟨y, hy, rfl⟩ := enumD_at hd
    obtain ⟨f, hfi, rfl⟩ := fs_get hy
    have hf1 := hf f (List.mem_of_getElem? hfi)
    have hm1' : atI [D.int late, D.int (lost : Int)] 1 = some (.int (lost : Int)) := rfl
    have hsm := hR.small
    have hle := hR.le
    refine tg_tup c.calm ⟨_, rfl, rfl, tn_c c.toCn ⟨_, (.s (.s (.s .z))), tn_c c.toCn ⟨_, (.s (.s (.s (.s .z)))), tn_z (?_)⟩⟩⟩
    refine bk_cons (sk_set c.toCn (ek_add (ek_n c.toCn (.s (.s .z)) (⟨_, rfl, ek_int (⟨_, rfl, ⟨_, (.s (.s .z)), ?_⟩⟩)⟩))))
    refine bk_cons (sk_if (et_v (ek_call c.tk G_is_fit (hr.mono (by decide)) (ea_cons (ek_n c.toCn (.s (.s (.s (.s .z)))) (ea_nil (⟨_, rfl, hf1, ⟨_, rfl, ⟨fun ht => ?_, fun ht => ?_⟩⟩⟩)))) (c.toCn.gl))))
    · refine bk_one (sk_set c.toCn (ek_int (⟨_, (.s (.s .z)), ?_⟩)))
      refine bk_one (sk_if (et_gt (ek_n c.toCn (.s (.s .z)) (⟨_, rfl, ek_ixT (ek_n c.toCn (.s .z) (ek_int (⟨_, _, _, rfl, rfl, (hm1'), ⟨_, rfl, ⟨fun ht => ?_, fun ht => ?_⟩⟩⟩))) (fun _ _ => rfl)⟩))))
      · exfalso
        simp at ht
        omega
      · exact bk_nil ⟨0, _, _, rfl, rfl, hR.fits hfi (by assumption)⟩
    · refine bk_nil ?_
      have hnf : fit f = false := by assumption
      refine bk_one (sk_if (et_gt (ek_n c.toCn (.s (.s .z)) (⟨_, rfl, ek_ixT (ek_n c.toCn (.s .z) (ek_int (⟨_, _, _, rfl, rfl, (hm1'), ⟨_, rfl, ⟨fun ht => ?_, fun ht => ?_⟩⟩⟩))) (fun _ _ => rfl)⟩))))
      · refine bk_one (sk_ret (ek_sub (ek_n c.toCn (.s (.s (.s .z))) (⟨_, rfl, ek_ixT (ek_n c.toCn (.s .z) (ek_int (⟨_, _, _, rfl, rfl, (hm1'), ⟨_, rfl, ?_⟩⟩))) (fun _ _ => rfl)⟩))))
        have e1 : r = lost := by
          simp at ht
          omega
        subst e1
        have h2 := h1 _ (hR.breach hfi hnf)
        have e2 : optD (some (i - r)) = .int ((i : Int) - (r : Int)) := by
          show D.int (((i - r : Nat) : Int)) = _
          congr 1
          omega
        rw [e2] at h2
        exact h2
      · exact bk_nil ⟨r + 1, _, _, rfl, rfl, hR.more hfi hnf (by simp at ht; omega)⟩
  · obtain ⟨r, w1, w2, rfl, rfl, hR⟩ := hP
    rw [enumD_len, fsD_len] at hR
    refine bk_one (sk_ret (ek_non (?_)))
    exact h1 _ hR.done
/-- the caller tells the place -/
def S_breach1 : SpD := fun ds L q e => ∃ (x : D) (fs : List FT) (late lost : Int) (o : Option Nat), ds = [x, .tup [.int late, .int lost]] ∧ AsL L x (fsD fs) ∧ fs.length ≤ 1000 ∧ (∀ f ∈ fs, f.length ≤ 1000) ∧ okM late lost ∧ Br fs lost.toNat o ∧ q (optD o) L
theorem breach1_imp {K : PySem.W.Frag} {ds : List D} {L : Lg} {q : D → Lg → Prop} {e : Xc → Lg → Prop} (h : S_breach1 ds L q e) : S_breach K ds L q e := by
  obtain ⟨x, fs, late, lost, o, h1, h2, h3, h4, h5, h6, h7⟩ := h
  exact ⟨x, fs, late, lost, h1, h2, h3, h4, fun _ o2 h8 => by rw [Br.one h8 h6]; exact h7, fun z => absurd h5 z⟩
end
end K21


set_option Elab.async false
set_option linter.all false
set_option maxRecDepth 100000
set_option maxHeartbeats 4000000
namespace K21
open PySem PySem.Spec PyProof.Rows L2 Vs
local macro_rules | `(tactic| walk_at "vpos") => `(tactic| first | decide | omega)
local macro_rules | `(tactic| walk_at "vdiv") => `(tactic| first | exact ⟨by decide, by decide⟩ | (constructor <;> omega))
local macro_rules | `(tactic| walk_at "vpow") => `(tactic| exact ⟨by decide, by decide, by decide⟩)
local macro_rules | `(tactic| walk_at "vmul") => `(tactic| first | exact mulL ⟨by decide, by decide⟩ | exact mulR ⟨by decide, by decide⟩ | exact mulL (by constructor <;> omega) | exact mulR (by constructor <;> omega))
local macro_rules | `(tactic| walk_at "vlen") => `(tactic| first | exact sz_ok (Nat.le_of_ble_eq_true rfl) | exact sz_lt (Nat.le_of_ble_eq_true rfl) | (refine sz_ok ?_; simp only [List.length_append, List.length_cons, List.length_nil, List.length_map]; omega) | (refine sz_lt ?_; simp only [List.length_append, List.length_cons, List.length_nil, List.length_map]; omega))
local macro_rules | `(tactic| walk_at "vrng") => `(tactic| (refine ⟨?_, ?_⟩ <;> omega))
local macro_rules | `(tactic| walk_at "vix") => `(tactic| rfl)
local macro_rules | `(tactic| walk_at "vixn") => `(tactic| first | rfl | exact ixN_at (by omega) (by omega))
local macro_rules | `(tactic| walk_at "vkb") => `(tactic| decide +kernel)
local macro_rules | `(tactic| walk_at "vty") => `(tactic| first | exact .int | exact .bl | exact .lst | exact .str | exact .tup | exact .non | exact .own .z | exact tyd_as (by assumption))
local macro_rules | `(tactic| walk_at "vkit") => `(tactic| assumption)
local macro_rules | `(tactic| walk_at "vrep") => `(tactic| (refine ⟨by omega, by omega, ?_⟩; first | decide | (refine sz_ok ?_; simp only [List.length_cons, List.length_nil]; omega)))
section
variable {X : Cx} {F0 : Hp}
/-! two_turned -/
def PL (s p : Int) : List Nat := (List.range 24).filter fun i => decide (((5 : Int) ^ i % 97 * (5 ^ i % 97) - s * (5 ^ i % 97) + p) % 97 = 0)
theorem pl_mem {s p : Int} {i : Nat} : i ∈ PL s p ↔ i < 24 ∧ pw i * pw i - cc s * pw i + cc p = 0 := by
  unfold PL
  rw [List.mem_filter, List.mem_range, decide_eq_true_eq, ← cc_0, cc_add, cc_sub, cc_mul, cc_mul, cc_mod]
  rfl
theorem pl_nd (s p : Int) : (PL s p).Nodup := List.Nodup.sublist List.filter_sublist List.nodup_range
def twoD : Option ((Nat × Int) × (Nat × Int)) → D
  | some ((i, u), (k, v)) => .lst [.tup [.int (i : Int), .int u], .tup [.int (k : Int), .int v]]
  | none => .non
def S_two_turned : SpD := fun ds L q _ => ∃ y fs, ds = [y] ∧ AsL L y (dI fs) ∧ fs6 fs ∧ ∀ o, TwoR fs o → q (twoD o) L
theorem b_two_turned {ds : List D} {L : Lg} {q : D → Lg → Prop} {e : Xc → Lg → Prop} (c : Cf X (["found", "below", "over", "s", "p", "places", "one", "two", "first", "second"] : List Str) (["i"] : List Str) (defScope (top 45)) F0 (fun y _ L' => e y L')) (T : Tx X.K X.mg) (hr : Room 3 X.A)
    (G_inverse : CalX X 3 "inverse" (["a"] : List Str) (S_inverse X.K)) (G_goes_on : CalX X 1 "goes_on" (["found", "s", "p"] : List Str) S_goes_on) (h : S_two_turned ds L q e) :
    BK X F0 (defBody (top 45)) (ds.map some ++ List.replicate 10 none) L { nx := fun _ L' => q .non L', rt := q } := by
  obtain ⟨y, fs, rfl, hy, h6, h1⟩ := h
  obtain ⟨v0, g0, b0, f0⟩ := fk_lt h6 (k := 0) (by decide)
  obtain ⟨v1, g1, b1, f1⟩ := fk_lt h6 (k := 1) (by decide)
  obtain ⟨v2, g2, b2, f2⟩ := fk_lt h6 (k := 2) (by decide)
  obtain ⟨v3, g3, b3, f3⟩ := fk_lt h6 (k := 3) (by decide)
  have i0 : atI (dI fs) 0 = some (.int v0) := at_dI (by decide) g0
  have i1 : atI (dI fs) 1 = some (.int v1) := at_dI (by decide) g1
  have i2 : atI (dI fs) 2 = some (.int v2) := at_dI (by decide) g2
  have i3 : atI (dI fs) 3 = some (.int v3) := at_dI (by decide) g3
  refine bk_cons (sk_set c.toCn (ek_mod (ek_sub (ek_mul (ek_ix (ek_n c.toCn .z (ek_int (⟨_, _, _, hy, rfl, (by first | exact i0 | exact i1 | exact i2), ⟨_, rfl, ek_ix (ek_n c.toCn .z (ek_int (⟨_, _, _, hy, rfl, (by first | exact i0 | exact i1 | exact i2), ⟨_, rfl, (by walk_at "vmul"), ⟨_, rfl, ek_mul (ek_ix (ek_n c.toCn .z (ek_int (⟨_, _, _, hy, rfl, (by first | exact i0 | exact i1 | exact i2), ⟨_, rfl, ek_ix (ek_n c.toCn .z (ek_int (⟨_, _, _, hy, rfl, (by first | exact i0 | exact i1 | exact i2), ⟨_, rfl, (by walk_at "vmul"), ⟨_, rfl, ⟨_, rfl, ek_int (⟨_, rfl, (by walk_at "vpos"), ⟨_, (.s .z), ?_⟩⟩)⟩⟩⟩⟩))) (fun _ _ => rfl)⟩⟩))) (fun _ _ => rfl))⟩⟩⟩))) (fun _ _ => rfl)⟩⟩))) (fun _ _ => rfl))))))
  have eb : cc ((v0 * v2 - v1 * v1) % 97) = fk fs 0 * fk fs 2 - fk fs 1 * fk fs 1 := by
    rw [cc_mod, cc_sub, cc_mul, cc_mul, f0, f1, f2]
  have bb := okc_mod (v0 * v2 - v1 * v1)
  generalize (v0 * v2 - v1 * v1) % 97 = bl at *
  refine bk_cons (sk_if (et_eqI (ek_n c.toCn (.s .z) (⟨_, rfl, ek_int (⟨_, rfl, ⟨fun ht => ?_, fun ht => ?_⟩⟩)⟩))))
  · refine bk_one (sk_ret (ek_non (?_)))
    refine h1 none fun i k hi hk hik U V hU hV hO => ?_
    refine (two_tells hO hi hk hik hU hV).1 ?_
    rw [← eb]
    exact cc_0.mpr (by simp at ht; omega)
  refine bk_nil ?_
  have hb0 : bl ≠ 0 := by simpa using ht
  have hcb : cc bl ≠ 0 := fun z => by
    have := cc_0.mp z
    omega
  refine bk_cons (sk_set c.toCn (ek_call c.tk G_inverse (hr.mono (by decide)) (ea_cons (ek_n c.toCn (.s .z) (ea_nil (⟨_, rfl, fun _ => ⟨_, (.s (.s .z)), ?_⟩, fun z => absurd ⟨⟨by omega, by omega⟩, hb0⟩ z⟩)))) (c.toCn.gl)))
  have eo : (fk fs 0 * fk fs 2 - fk fs 1 * fk fs 1) * cc (bl ^ 95 % 97) = 1 := by
    rw [← eb]
    exact iv_cc hcb
  have bo := okc_mod (bl ^ 95)
  generalize bl ^ 95 % 97 = ov at *
  refine bk_cons (sk_set c.toCn (ek_mod (ek_mul (ek_sub (ek_mul (ek_ix (ek_n c.toCn .z (ek_int (⟨_, _, _, hy, rfl, (by first | exact i0 | exact i1 | exact i2 | exact i3), ⟨_, rfl, ek_ix (ek_n c.toCn .z (ek_int (⟨_, _, _, hy, rfl, (by first | exact i0 | exact i1 | exact i2 | exact i3), ⟨_, rfl, (by first | exact mulL ⟨by omega, by omega⟩ | exact mulR ⟨by omega, by omega⟩), ⟨_, rfl, ek_mul (ek_ix (ek_n c.toCn .z (ek_int (⟨_, _, _, hy, rfl, (by first | exact i0 | exact i1 | exact i2 | exact i3), ⟨_, rfl, ek_ix (ek_n c.toCn .z (ek_int (⟨_, _, _, hy, rfl, (by first | exact i0 | exact i1 | exact i2 | exact i3), ⟨_, rfl, (by first | exact mulL ⟨by omega, by omega⟩ | exact mulR ⟨by omega, by omega⟩), ⟨_, rfl, ⟨_, rfl, ek_n c.toCn (.s (.s .z)) (⟨_, rfl, (by first | exact mulL ⟨by omega, by omega⟩ | exact mulR ⟨by omega, by omega⟩), ⟨_, rfl, ek_int (⟨_, rfl, (by walk_at "vpos"), ⟨_, (.s (.s (.s .z))), ?_⟩⟩)⟩⟩)⟩⟩⟩⟩))) (fun _ _ => rfl)⟩⟩))) (fun _ _ => rfl))⟩⟩⟩))) (fun _ _ => rfl)⟩⟩))) (fun _ _ => rfl)))))))
  refine bk_cons (sk_set c.toCn (ek_mod (ek_mul (ek_sub (ek_mul (ek_ix (ek_n c.toCn .z (ek_int (⟨_, _, _, hy, rfl, (by first | exact i0 | exact i1 | exact i2 | exact i3), ⟨_, rfl, ek_ix (ek_n c.toCn .z (ek_int (⟨_, _, _, hy, rfl, (by first | exact i0 | exact i1 | exact i2 | exact i3), ⟨_, rfl, (by first | exact mulL ⟨by omega, by omega⟩ | exact mulR ⟨by omega, by omega⟩), ⟨_, rfl, ek_mul (ek_ix (ek_n c.toCn .z (ek_int (⟨_, _, _, hy, rfl, (by first | exact i0 | exact i1 | exact i2 | exact i3), ⟨_, rfl, ek_ix (ek_n c.toCn .z (ek_int (⟨_, _, _, hy, rfl, (by first | exact i0 | exact i1 | exact i2 | exact i3), ⟨_, rfl, (by first | exact mulL ⟨by omega, by omega⟩ | exact mulR ⟨by omega, by omega⟩), ⟨_, rfl, ⟨_, rfl, ek_n c.toCn (.s (.s .z)) (⟨_, rfl, (by first | exact mulL ⟨by omega, by omega⟩ | exact mulR ⟨by omega, by omega⟩), ⟨_, rfl, ek_int (⟨_, rfl, (by walk_at "vpos"), ⟨_, (.s (.s (.s (.s .z)))), ?_⟩⟩)⟩⟩)⟩⟩⟩⟩))) (fun _ _ => rfl)⟩⟩))) (fun _ _ => rfl))⟩⟩⟩))) (fun _ _ => rfl)⟩⟩))) (fun _ _ => rfl)))))))
  have es : cc ((v0 * v3 - v1 * v2) * ov % 97) = (fk fs 0 * fk fs 3 - fk fs 1 * fk fs 2) * cc ov := by
    rw [cc_mod, cc_mul, cc_sub, cc_mul, cc_mul, f0, f1, f2, f3]
  have ep : cc ((v1 * v3 - v2 * v2) * ov % 97) = (fk fs 1 * fk fs 3 - fk fs 2 * fk fs 2) * cc ov := by
    rw [cc_mod, cc_mul, cc_sub, cc_mul, cc_mul, f1, f2, f3]
  have bs := okc_mod ((v0 * v3 - v1 * v2) * ov)
  have bp := okc_mod ((v1 * v3 - v2 * v2) * ov)
  generalize (v0 * v3 - v1 * v2) * ov % 97 = s at *
  generalize (v1 * v3 - v2 * v2) * ov % 97 = p at *
  have tells : ∀ i k U V, Two fs i U k V → i < 24 → k < 24 → i ≠ k → U ≠ 0 → V ≠ 0 → i ∈ PL s p ∧ k ∈ PL s p ∧ gon fs s p = true := fun i k U V hO hi hk hik hU hV => by
    obtain ⟨e1, e2, e3⟩ := (two_tells hO hi hk hik hU hV).2 (cc ov) (cc s) (cc p) eo es ep
    refine ⟨pl_mem.mpr ⟨hi, ?_⟩, pl_mem.mpr ⟨hk, ?_⟩, gon_iff.mpr e3⟩
    · rw [e1, e2]
      exact id_rx _ _
    · rw [e1, e2]
      exact id_ry _ _
  have hpw : ∀ i : Nat, 0 ≤ (5 : Int) ^ i % 97 ∧ (5 : Int) ^ i % 97 ≤ 96 := fun i => okc_mod _
  refine bk_cons (sk_setLc [("i", 10)] c.toCn c.calm (by decide +kernel) (ei_p (ei_range1 T.no_range (c.toCn.gl) (ek_gi T.PLACES_cells (c.toCn.gl) (⟨_, rfl, (⟨by decide, by decide⟩), ⟨(List.range 24).map fun (i : Nat) => if decide (((5 : Int) ^ i % 97 * ((5 : Int) ^ i % 97) - s * ((5 : Int) ^ i % 97) + p) % 97 = 0) then some (D.int (0 + (i : Int))) else none, ?_, ?_, ?_, ⟨_, (.s (.s (.s (.s (.s .z))))), ?_⟩⟩⟩)))))
  · rw [List.length_map, List.length_range, rangeD_len]
    rfl
  · rw [rangeD_len]
    decide
  · intro F1 n d e acc Dp hd he
    obtain ⟨hn, rfl⟩ := range_nat hd
    have hn : n < 24 := hn
    have he' := map_at (x := n) (by rw [List.getElem?_range hn]) he
    subst he'
    have hpn := hpw n
    intro X' cb hX'
    obtain ⟨s0, H0, C0, cl, fp, rfl⟩ := hX'
    refine tb_n cb ⟨_, (.s (.s (.s (.s (.s (.s (.s (.s (.s (.s .z)))))))))), rfl, fun X' cb hX' => ?_⟩
    obtain ⟨s0, H0, C0, cl, fp, rfl⟩ := hX'
    refine es_one (et_eqI (ek_mod (ek_add (ek_sub (ek_mul (ek_ix (ek_go T.POWERS cb.gl (ek_b cb (.s (.s (.s (.s (.s (.s (.s (.s (.s (.s .z)))))))))) (⟨_, _, _, .lst, rfl, (at_dIn (pows24 hn)), ⟨_, rfl, ek_ix (ek_go T.POWERS cb.gl (ek_b cb (.s (.s (.s (.s (.s (.s (.s (.s (.s (.s .z)))))))))) (⟨_, _, _, .lst, rfl, (at_dIn (pows24 hn)), ⟨_, rfl, (mulL ⟨by omega, by omega⟩), ⟨_, rfl, ek_mul (ek_b cb (.s (.s (.s .z))) (⟨_, rfl, ek_ix (ek_go T.POWERS cb.gl (ek_b cb (.s (.s (.s (.s (.s (.s (.s (.s (.s (.s .z)))))))))) (⟨_, _, _, .lst, rfl, (at_dIn (pows24 hn)), ⟨_, rfl, (mulL ⟨by omega, by omega⟩), ⟨_, rfl, ⟨_, rfl, ek_b cb (.s (.s (.s (.s .z)))) (⟨_, rfl, ⟨_, rfl, ek_int (⟨_, rfl, (by walk_at "vpos"), ⟨_, rfl, ek_int (⟨_, rfl, ⟨rfl, fun ht X' cb hX' => ?_, fun ht => ?_⟩⟩)⟩⟩)⟩⟩)⟩⟩⟩⟩))) (fun _ _ => rfl)⟩))⟩⟩⟩))) (fun _ _ => rfl)⟩⟩))) (fun _ _ => rfl)))))))
    · obtain ⟨s0, H0, C0, cl, fp, rfl⟩ := hX'
      refine ek_b cb (.s (.s (.s (.s (.s (.s (.s (.s (.s (.s .z)))))))))) (?_)
      exact ⟨rfl, by rw [if_pos ht]⟩
    · rw [if_neg (by rw [ht]; decide)]
  rw [fm_map]
  rw [show (List.range 24).filter (fun i => decide (((5 : Int) ^ i % 97 * (5 ^ i % 97) - s * (5 ^ i % 97) + p) % 97 = 0)) = PL s p from rfl]
  have hbad : ((PL s p).length < 2 ∨ gon fs s p = false) → OneOr fs := fun hb i k hi hk hik U V hU hV hO => by
    obtain ⟨t1, t2, t3⟩ := tells i k U V hO hi hk hik hU hV
    rcases hb with hb | hb
    · match e : PL s p, t1, t2, hb with
      | [], t1, _, _ => cases t1
      | [a], t1, t2, _ =>
        simp only [List.mem_cons, List.not_mem_nil, or_false] at t1 t2
        exact hik (t1.trans t2.symm)
      | _ :: _ :: _, _, _, hb => simp at hb; omega
    · rw [t3] at hb
      cases hb
  have hlm : ((PL s p).map fun (i : Nat) => D.int (0 + (i : Int))).length = (PL s p).length := List.length_map _
  refine bk_cons (sk_if (et_w (ew_or (et_lt (ek_len T.no_len (c.toCn.gl) (ek_n c.toCn (.s (.s (.s (.s (.s .z))))) (⟨_, Or.inl .lst, ⟨_, rfl, ek_int (⟨_, rfl, ⟨rfl, rfl⟩⟩)⟩⟩)))) (fun hb => et_or1 (et_not (et_v (ek_call c.tk G_goes_on (hr.mono (by decide)) (ea_cons (ek_n c.toCn .z (ea_cons (ek_n c.toCn (.s (.s (.s .z))) (ea_cons (ek_n c.toCn (.s (.s (.s (.s .z)))) (ea_nil (⟨_, fs, _, _, rfl, hy, h6, bs, bp, ⟨_, rfl, ⟨rfl, rfl⟩⟩⟩)))))))) (c.toCn.gl))))) (⟨fun ht => ?_, fun ht => ?_⟩))))
  · refine bk_one (sk_ret (ek_non (?_)))
    rw [hlm] at ht
    refine h1 none (hbad ?_)
    cases hg : gon fs s p with
    | false => exact .inr rfl
    | true =>
      rw [hg] at ht
      simp at ht
      exact .inl (by omega)
  refine bk_nil ?_
  rw [hlm] at ht
  have hg : gon fs s p = true := by
    cases hg : gon fs s p with
    | false => rw [hg] at ht; simp at ht
    | true => rfl
  have hl2 : 2 ≤ (PL s p).length := by
    rw [hg] at ht
    simp at ht
    omega
  obtain ⟨a, b, rest, hab⟩ : ∃ a b rest, PL s p = a :: b :: rest := by
    match e : PL s p, hl2 with
    | a :: b :: rest, _ => exact ⟨a, b, rest, rfl⟩
  have hma := pl_mem.mp (show a ∈ PL s p by rw [hab]; exact List.mem_cons_self)
  have hmb := pl_mem.mp (show b ∈ PL s p by rw [hab]; exact List.mem_cons_of_mem _ List.mem_cons_self)
  have hne : a ≠ b := fun z => by
    have nd := pl_nd s p
    rw [hab, z] at nd
    exact absurd List.mem_cons_self (List.nodup_cons.mp nd).1
  rw [hab]
  have j0 : atI ((a :: b :: rest).map fun (i : Nat) => D.int (0 + (i : Int))) 0 = some (.int (0 + (a : Int))) := at_nat (by decide) rfl
  have j1 : atI ((a :: b :: rest).map fun (i : Nat) => D.int (0 + (i : Int))) 1 = some (.int (0 + (b : Int))) := at_nat (by decide) rfl
  refine bk_cons (sk_par c (ea_cons (ek_ix (ek_go T.POWERS (c.toCn.gl) (ek_ix (ek_n c.toCn (.s (.s (.s (.s (.s .z))))) (ek_int (⟨_, _, _, .lst, rfl, (by first | exact j0 | exact j1 | exact at_dIn (pows24 hma.1) | exact at_dIn (pows24 hmb.1)), ⟨_, _, _, .lst, rfl, (by first | exact j0 | exact j1 | exact at_dIn (pows24 hma.1) | exact at_dIn (pows24 hmb.1)), ea_cons (ek_ix (ek_go T.POWERS (c.toCn.gl) (ek_ix (ek_n c.toCn (.s (.s (.s (.s (.s .z))))) (ek_int (⟨_, _, _, .lst, rfl, (by first | exact j0 | exact j1 | exact at_dIn (pows24 hma.1) | exact at_dIn (pows24 hmb.1)), ⟨_, _, _, .lst, rfl, (by first | exact j0 | exact j1 | exact at_dIn (pows24 hma.1) | exact at_dIn (pows24 hmb.1)), ea_nil (⟨_, _, rfl, _, (.s (.s (.s (.s (.s (.s .z)))))), ⟨_, (.s (.s (.s (.s (.s (.s (.s .z))))))), ?_⟩⟩)⟩⟩))) (fun _ _ => rfl))) (fun _ _ => rfl))⟩⟩))) (fun _ _ => rfl))) (fun _ _ => rfl))))
  have ba := hpw a
  have bb2 := hpw b
  have ea : cc ((5 : Int) ^ a % 97) = pw a := cc_mod _
  have eb2 : cc ((5 : Int) ^ b % 97) = pw b := cc_mod _
  generalize (5 : Int) ^ a % 97 = A at *
  generalize (5 : Int) ^ b % 97 = B at *
  have hAB : pw a - pw b ≠ 0 := sub_ne fun z => hne (pw_inj hma.1 hmb.1 z)
  have hd1 : cc (A * (A - B) % 97) = pw a * (pw a - pw b) := by rw [cc_mod, cc_mul, cc_sub, ea, eb2]
  have hd1n : cc (A * (A - B) % 97) ≠ 0 := by rw [hd1]; exact mul_ne (pw_ne a) hAB
  have bd1 := okc_mod (A * (A - B))
  have hd10 : A * (A - B) % 97 ≠ 0 := fun z => hd1n (by rw [z]; rfl)
  have hB0 : B ≠ 0 := fun z => pw_ne b (by rw [← eb2, z]; rfl)
  have hBn : cc B ≠ 0 := by rw [eb2]; exact pw_ne b
  refine bk_cons (sk_set c.toCn (ek_mod (ek_mul (ek_sub (ek_ix (ek_n c.toCn .z (ek_int (⟨_, _, _, hy, rfl, (by first | exact i0 | exact i1), ⟨_, rfl, ek_mul (ek_ix (ek_n c.toCn .z (ek_int (⟨_, _, _, hy, rfl, (by first | exact i0 | exact i1), ⟨_, rfl, ek_n c.toCn (.s (.s (.s (.s (.s (.s (.s .z))))))) (⟨_, rfl, (by first | exact mulL ⟨by omega, by omega⟩ | exact mulR ⟨by omega, by omega⟩), ⟨_, rfl, ⟨_, rfl, ek_call c.tk G_inverse (hr.mono (by decide)) (ea_cons (ek_mod (ek_mul (ek_n c.toCn (.s (.s (.s (.s (.s (.s .z)))))) (⟨_, rfl, ek_sub (ek_n c.toCn (.s (.s (.s (.s (.s (.s .z)))))) (⟨_, rfl, ek_n c.toCn (.s (.s (.s (.s (.s (.s (.s .z))))))) (⟨_, rfl, ⟨_, rfl, (by first | exact mulL ⟨by omega, by omega⟩ | exact mulR ⟨by omega, by omega⟩), ⟨_, rfl, ek_int (⟨_, rfl, (by walk_at "vpos"), ea_nil (⟨_, rfl, fun _ => ⟨_, rfl, (by first | exact mulL ⟨by omega, by omega⟩ | exact mulR ⟨by omega, by omega⟩), ⟨_, rfl, ek_int (⟨_, rfl, (by walk_at "vpos"), ⟨_, (.s (.s (.s (.s (.s (.s (.s (.s .z)))))))), ?_⟩⟩)⟩⟩, fun z => absurd ⟨⟨by omega, by omega⟩, hd10⟩ z⟩)⟩)⟩⟩⟩)⟩))⟩))))) (c.toCn.gl)⟩⟩⟩)⟩⟩))) (fun _ _ => rfl))⟩⟩))) (fun _ _ => rfl))))))
  have ef : cc ((v1 - v0 * B) * ((A * (A - B) % 97) ^ 95 % 97) % 97) = (fk fs 1 - fk fs 0 * pw b) * cc (ivI (A * (A - B) % 97)) := by
    rw [cc_mod, cc_mul, cc_sub, cc_mul, f0, f1, eb2]
    rfl
  have bf := okc_mod ((v1 - v0 * B) * ((A * (A - B) % 97) ^ 95 % 97))
  have iv1 := iv_cc hd1n
  rw [hd1] at iv1
  generalize ivI (A * (A - B) % 97) = w1 at *
  generalize (v1 - v0 * B) * ((A * (A - B) % 97) ^ 95 % 97) % 97 = F at *
  refine bk_cons (sk_set c.toCn (ek_mod (ek_mul (ek_sub (ek_ix (ek_n c.toCn .z (ek_int (⟨_, _, _, hy, rfl, (by first | exact i0 | exact i1), ⟨_, rfl, ek_mul (ek_n c.toCn (.s (.s (.s (.s (.s (.s (.s (.s .z)))))))) (⟨_, rfl, ek_n c.toCn (.s (.s (.s (.s (.s (.s .z)))))) (⟨_, rfl, (by first | exact mulL ⟨by omega, by omega⟩ | exact mulR ⟨by omega, by omega⟩), ⟨_, rfl, ⟨_, rfl, ek_call c.tk G_inverse (hr.mono (by decide)) (ea_cons (ek_n c.toCn (.s (.s (.s (.s (.s (.s (.s .z))))))) (ea_nil (⟨_, rfl, fun _ => ⟨_, rfl, (by first | exact mulL ⟨by omega, by omega⟩ | exact mulR ⟨by omega, by omega⟩), ⟨_, rfl, ek_int (⟨_, rfl, (by walk_at "vpos"), ⟨_, (.s (.s (.s (.s (.s (.s (.s (.s (.s .z))))))))), ?_⟩⟩)⟩⟩, fun z => absurd ⟨⟨by omega, by omega⟩, hB0⟩ z⟩)))) (c.toCn.gl)⟩⟩⟩)⟩))⟩⟩))) (fun _ _ => rfl))))))
  have eg : cc ((v0 - F * A) * (B ^ 95 % 97) % 97) = (fk fs 0 - cc F * pw a) * cc (ivI B) := by
    rw [cc_mod, cc_mul, cc_sub, cc_mul, f0, ea]
    rfl
  have bg := okc_mod ((v0 - F * A) * (B ^ 95 % 97))
  have iv2 := iv_cc hBn
  rw [eb2] at iv2
  generalize (v0 - F * A) * (B ^ 95 % 97) % 97 = S2 at *
  refine bk_one (sk_ret (ek_lst (ea_cons (ek_tup (ea_cons (ek_ix (ek_n c.toCn (.s (.s (.s (.s (.s .z))))) (ek_int (⟨_, _, _, .lst, rfl, (by first | exact j0 | exact j1), ea_cons (ek_n c.toCn (.s (.s (.s (.s (.s (.s (.s (.s .z)))))))) (ea_nil (⟨(by walk_at "vlen"), ea_cons (ek_tup (ea_cons (ek_ix (ek_n c.toCn (.s (.s (.s (.s (.s .z))))) (ek_int (⟨_, _, _, .lst, rfl, (by first | exact j0 | exact j1), ea_cons (ek_n c.toCn (.s (.s (.s (.s (.s (.s (.s (.s (.s .z))))))))) (ea_nil (⟨(by walk_at "vlen"), ea_nil (⟨(by walk_at "vlen"), ?_⟩)⟩)))⟩))) (fun _ _ => rfl))))⟩)))⟩))) (fun _ _ => rfl)))))))
  obtain ⟨k0, k1⟩ := id_f0 (fk fs 0) (fk fs 1) (pw b) (pw a) (cc F) (cc S2) _ _ iv1 iv2 ef eg
  have h2 := h1 (some ((a, F), (b, S2))) ⟨hma.1, hmb.1, hne, bf, bg, two_some k0 k1 hma.2 hmb.2 (gon_iff.mp hg)⟩
  rw [Int.zero_add, Int.zero_add]
  exact h2
end
end K21


set_option Elab.async false
set_option linter.all false
set_option maxRecDepth 100000
set_option maxHeartbeats 4000000
namespace K21
open PySem PySem.Spec PyProof.Rows L2 Vs
local macro_rules | `(tactic| walk_at "vpos") => `(tactic| first | decide | omega)
local macro_rules | `(tactic| walk_at "vdiv") => `(tactic| first | exact ⟨by decide, by decide⟩ | (constructor <;> omega))
local macro_rules | `(tactic| walk_at "vpow") => `(tactic| exact ⟨by decide, by decide, by decide⟩)
local macro_rules | `(tactic| walk_at "vmul") => `(tactic| first | exact mulL ⟨by decide, by decide⟩ | exact mulR ⟨by decide, by decide⟩ | exact mulL (by constructor <;> omega) | exact mulR (by constructor <;> omega))
local macro_rules | `(tactic| walk_at "vlen") => `(tactic| first | exact sz_ok (Nat.le_of_ble_eq_true rfl) | exact sz_lt (Nat.le_of_ble_eq_true rfl) | (refine sz_ok ?_; simp only [List.length_append, List.length_cons, List.length_nil, List.length_map]; omega) | (refine sz_lt ?_; simp only [List.length_append, List.length_cons, List.length_nil, List.length_map]; omega))
local macro_rules | `(tactic| walk_at "vrng") => `(tactic| (refine ⟨?_, ?_⟩ <;> omega))
local macro_rules | `(tactic| walk_at "vix") => `(tactic| rfl)
local macro_rules | `(tactic| walk_at "vixn") => `(tactic| first | rfl | exact ixN_at (by omega) (by omega))
local macro_rules | `(tactic| walk_at "vkb") => `(tactic| decide +kernel)
local macro_rules | `(tactic| walk_at "vty") => `(tactic| first | exact .int | exact .bl | exact .lst | exact .str | exact .tup | exact .non | exact .own .z | exact tyd_as (by assumption))
local macro_rules | `(tactic| walk_at "vkit") => `(tactic| assumption)
local macro_rules | `(tactic| walk_at "vrep") => `(tactic| (refine ⟨by omega, by omega, ?_⟩; first | decide | (refine sz_ok ?_; simp only [List.length_cons, List.length_nil]; omega)))
section
variable {X : Cx} {F0 : Hp}
/-! mended -/
def tsD (ts : List (Nat × Int)) : D := .lst (ts.map fun t => .tup [.int (t.1 : Int), .int t.2])
def mtD : Option (List (Nat × Int)) → D
  | some ts => tsD ts
  | none => .non
def app1 (ys : List Int) (t : Nat × Int) : List Int := ys.set t.1 ((ys.getD t.1 0 - t.2) % 97)
def Tr (fs : List Int) : Option (List (Nat × Int)) → Prop
  | some ts => (∀ t ∈ ts, t.1 < 24) ∧ ∀ xs, okc 24 xs → sumsOf fs xs → Md xs (some (ts.foldl app1 xs))
  | none => OneR fs none ∧ TwoR fs none ∧ ¬ ∀ k, k < 6 → fk fs k = 0
theorem unl_self (xs : List Int) : unl xs xs = [] := by
  unfold unl
  rw [List.filter_eq_nil_iff]
  intro a _
  simp
theorem tr_nil {fs : List Int} (h : ∀ k, k < 6 → fk fs k = 0) : Tr fs (some []) := ⟨fun t ht => (List.not_mem_nil ht).elim, fun xs hx hs => ⟨hx, sld_of hs h, by show (unl xs xs).length ≤ 2; rw [unl_self]; exact Nat.zero_le _⟩⟩
theorem tr_one {fs : List Int} {i : Nat} {v : Int} (h : OneR fs (some (i, v))) : Tr fs (some [(i, v)]) := ⟨fun t ht => by
  rw [List.mem_singleton] at ht
  rw [ht]
  exact h.1, fun xs hx hs => by
  have hi : xs[i]? = some (xs.getD i 0) := by
    have hl : i < xs.length := by have := hx.1; have := h.1; omega
    rw [List.getD_eq_getElem?_getD, List.getElem?_eq_getElem hl]
    rfl
  exact md_one hx hs h.2.2 hi⟩
theorem tr_two {fs : List Int} {i k : Nat} {u v : Int} (h : TwoR fs (some ((i, u), (k, v)))) : Tr fs (some [(i, u), (k, v)]) := ⟨fun t ht => by
  simp only [List.mem_cons, List.not_mem_nil, or_false] at ht
  rcases ht with rfl | rfl
  · exact h.1
  · exact h.2.1, fun xs hx hs => by
  obtain ⟨hi, hk, hik, _, _, ho⟩ := h
  have hl := hx.1
  have g : ∀ n, n < 24 → xs[n]? = some (xs.getD n 0) := fun n hn => by
    rw [List.getD_eq_getElem?_getD, List.getElem?_eq_getElem (by omega)]
    rfl
  have h2 := md_two hx hs ho (g i hi) (g k hk) hik
  have e : (xs.set i ((xs.getD i 0 - u) % 97)).getD k 0 = xs.getD k 0 := by
    rw [List.getD_eq_getElem?_getD, List.getElem?_set, if_neg hik, List.getD_eq_getElem?_getD]
  show Md xs (some (app1 (app1 xs (i, u)) (k, v)))
  unfold app1
  rw [e]
  exact h2⟩
theorem sums_len (xs : List Int) : (sums xs).length = 6 := by unfold sums; rw [List.length_map, List.length_range]
theorem sums_at {xs : List Int} {k : Nat} (hk : k < 6) : (sums xs).getD k 0 = (sv xs (k + 1)).sum % 97 := by
  unfold sums
  rw [List.getD_eq_getElem?_getD, List.getElem?_map, List.getElem?_range hk]
  rfl
theorem sums_fs6 (xs : List Int) : fs6 (sums xs) := ⟨sums_len xs, fun v hv => by
  unfold sums at hv
  obtain ⟨k, _, rfl⟩ := List.mem_map.mp hv
  exact okc_mod _⟩
theorem sums_ok (xs : List Int) : sumsOf (sums xs) xs := fun k hk => by
  unfold fk
  rw [sums_at hk, sv_sum, cc_mod]
theorem sums_zero {fs : List Int} (h : fs6 fs) : fs = [0, 0, 0, 0, 0, 0] ↔ ∀ k, k < 6 → fk fs k = 0 := by
  constructor
  · rintro rfl k hk
    match k, hk with
    | 0, _ | 1, _ | 2, _ | 3, _ | 4, _ | 5, _ => rfl
  · intro hz
    refine List.ext_getElem? fun n => ?_
    by_cases hn : n < 6
    · obtain ⟨v, e, b, f⟩ := fk_lt h hn
      have := hz n hn
      rw [f, cc_0] at this
      have hv : v = 0 := by omega
      rw [e, hv]
      match n, hn with
      | 0, _ | 1, _ | 2, _ | 3, _ | 4, _ | 5, _ => rfl
    · rw [List.getElem?_eq_none (by rw [h.1]; omega), List.getElem?_eq_none (by show 6 ≤ n; omega)]
theorem app_okc {ts : List (Nat × Int)} {xs : List Int} (h : okc 24 xs) : okc 24 (ts.foldl app1 xs) := by
  induction ts generalizing xs with
  | nil => exact h
  | cons t ts ih => exact ih (okc_set h (okc_mod _))
theorem map_at' {α β : Type} {g : α → β} {xs : List α} {n : Nat} {y : β} (h : (xs.map g)[n]? = some y) : ∃ x, xs[n]? = some x ∧ y = g x := by
  rw [List.getElem?_map] at h
  match e : xs[n]?, h with
  | some x, h => exact ⟨x, rfl, (Option.some.inj h).symm⟩
def S_mended (K : PySem.W.Frag) : SpD := fun ds L q e => ∃ cell xs, ds = [cell] ∧ AsL L cell (dI xs) ∧ (okc 24 xs → (Md xs none → q .non L) ∧ ∀ ys p, Md xs (some ys) → q (.ref p) ((p, .lst (dI ys)) :: L)) ∧ (¬ okc 24 xs → e (xcOf K "BadCell") L)
theorem b_mended {ds : List D} {L : Lg} {q : D → Lg → Prop} {e : Xc → Lg → Prop} (c : Cf X (["cell", "found", "turns", "made", "place", "add"] : List Str) ([] : List Str) (defScope (top 46)) F0 (fun y _ L' => e y L')) (T : Tx X.K X.mg) (hr : Room 4 X.A)
    (G_troubles : CalX X 2 "troubles" (["cell"] : List Str) (S_troubles X.K)) (G_one_turned : CalX X 4 "one_turned" (["found"] : List Str) S_one_turned) (G_two_turned : CalX X 4 "two_turned" (["found"] : List Str) S_two_turned)
    (h : S_mended X.K ds L q e) :
    BK X F0 (defBody (top 46)) (ds.map some ++ List.replicate 5 none) L { nx := fun _ L' => q .non L', rt := q } := by
  obtain ⟨cell, xs, rfl, hx, h1, h2⟩ := h
  have hu := hr.units
  have h6 := sums_fs6 xs
  have hso := sums_ok xs
  have hsl := sums_len xs
  refine bk_cons (sk_set c.toCn (ek_call c.tk G_troubles (hr.mono (by decide)) (ea_cons (ek_n c.toCn .z (ea_nil (⟨_, xs, rfl, hx, fun hok1 p => ⟨_, (.s .z), ?_⟩, fun hok1 => ?_⟩)))) (c.toCn.gl)))
  case refine_2 => exact h2 (by assumption)
  obtain ⟨h1, h3⟩ := h1 hok1
  generalize sums xs = fs at *
  obtain ⟨a0, a1, a2, a3, a4, a5, hfs, -⟩ := six h6
  have hD : dI fs = dI [a0, a1, a2, a3, a4, a5] := by rw [hfs]
  refine bk_cons (sk_set c.toCn (ek_lst (ea_nil (⟨(by walk_at "vlen"), ⟨_, (.s (.s .z)), ?_⟩⟩))))
  refine bk_cut (fun Γ L' => ∃ t, Γ = [some cell, some (.ref p), some (mtD t), none, none, none] ∧ L' = (p, .lst (dI fs)) :: L ∧ Tr fs t) (sk_if (et_neD hu (ek_n c.toCn (.s .z) (ek_repL (ea_cons (ek_int (ea_nil (⟨(by walk_at "vlen"), ek_len T.no_len (c.toCn.gl) (ek_n c.toCn (.s .z) (⟨_, Or.inl (.own .z), ⟨_, rfl, (⟨by rw [hD]; show (-9223372036854775808 : Int) ≤ 6; decide, by rw [hD]; show (6 : Int) < 9223372036854775808; decide, by rw [hD]; show 1 * 6 ≤ sizeLine; decide⟩), ⟨_, _, (by first | exact .own .z dpds_dI | exact (by rw [hD]; exact .lst (dpds_dI (xs := [0, 0, 0, 0, 0, 0])))), (by first | exact .own .z dpds_dI | exact (by rw [hD]; exact .lst (dpds_dI (xs := [0, 0, 0, 0, 0, 0])))), (shaped_dI), (shaped_dI), ⟨fun ht => ?_, fun ht => ?_⟩⟩⟩⟩))⟩)))))))) (fun Γ L hM => ?_)
  · rw [show PyData.eqv (.list (fs.map PyData.int)) (.list (([0, 0, 0, 0, 0, 0] : List Int).map PyData.int)) = _ from eqv_dI] at ht
    have hnz : fs ≠ [0, 0, 0, 0, 0, 0] := by simpa using ht
    have hnz := (not_congr (sums_zero h6)).mp hnz
    refine bk_cons (sk_set c.toCn (ek_call c.tk G_one_turned (hr.mono (by decide)) (ea_cons (ek_n c.toCn (.s .z) (ea_nil (⟨_, fs, rfl, .own .z, h6, fun o ho1 => ⟨_, (.s (.s .z)), ?_⟩⟩)))) (c.toCn.gl)))
    refine bk_one (sk_if (et_isN (ek_n c.toCn (.s (.s .z)) (⟨fun ht => ?_, fun ht => ?_⟩))))
    · have ho : OneR fs none := by
        match o, ht with
        | none, _ => exact ho1
        | some (i, v), ht => cases ht
      refine bk_one (sk_set c.toCn (ek_call c.tk G_two_turned (hr.mono (by decide)) (ea_cons (ek_n c.toCn (.s .z) (ea_nil (⟨_, fs, rfl, .own .z, h6, fun o2 ho2 => ⟨_, (.s (.s .z)), ?_⟩⟩)))) (c.toCn.gl)))
      match o2, ho2 with
      | none, ho2 => exact ⟨none, rfl, rfl, ho, ho2, hnz⟩
      | some ((i, u), (k, v)), ho2 => exact ⟨some [(i, u), (k, v)], rfl, rfl, tr_two ho2⟩
    · match o, ho1, ht with
      | some (i, v), ho1, _ => exact bk_nil ⟨some [(i, v)], rfl, rfl, tr_one ho1⟩
      | none, _, ht => cases ht
  · rw [show PyData.eqv (.list (fs.map PyData.int)) (.list (([0, 0, 0, 0, 0, 0] : List Int).map PyData.int)) = _ from eqv_dI] at ht
    have hz : fs = [0, 0, 0, 0, 0, 0] := by simpa using ht
    exact bk_nil ⟨some [], rfl, rfl, tr_nil ((sums_zero h6).mp hz)⟩
  obtain ⟨t, rfl, rfl, htr⟩ := hM
  refine bk_cons (sk_if (et_isN (ek_n c.toCn (.s (.s .z)) (⟨fun ht => ?_, fun ht => ?_⟩))))
  · have htr : Tr fs none := by
      match t, ht with
      | none, _ => exact htr
      | some ts, ht => cases ht
    refine bk_one (sk_retS (ek_non (⟨_, List.sublist_cons_self _ _, ?_⟩)))
    exact h1 (md_none hok1 hso htr.2.2 htr.1 htr.2.1)
  · obtain ⟨ts, rfl⟩ : ∃ ts, t = some ts := by
      match t, ht with
      | some ts, _ => exact ⟨ts, rfl⟩
      | none, ht => cases ht
    refine bk_nil ?_
    refine bk_cons (sk_set c.toCn (ek_listO T.no_list (c.toCn.gl) (ek_n c.toCn .z (⟨_, Or.inl hx.cons, fun p_made => ⟨_, (.s (.s (.s .z))), ?_⟩⟩))))
    refine bk_cons (sk_for c (ei_list (ek_n c.toCn (.s (.s .z)) (⟨_, rfl, ⟨fun i Γ L' => ∃ w1 w2, Γ = [some cell, some (.ref p), some (tsD ts), some (.ref p_made), w1, w2] ∧ L' = (p_made, .lst (dI ((ts.take i).foldl app1 xs))) :: (p, .lst (dI fs)) :: L, ?_, fun F1 c i d Γ L hd hP => ?_, fun Γ L hP => ?_⟩⟩))))
    · exact ⟨_, _, rfl, rfl⟩
    · obtain ⟨w1, w2, rfl, rfl⟩ := hP
      obtain ⟨⟨n, v⟩, hnv, rfl⟩ := map_at' hd
      have hn := htr.1 _ (List.mem_of_getElem? hnv)
      have hz := app_okc (ts := ts.take i) hok1
      have hi : i < ts.length := (List.getElem?_eq_some_iff.mp hnv).1
      have hts : (ts.take (i + 1)).foldl app1 xs = app1 ((ts.take i).foldl app1 xs) (n, v) := by
        rw [List.take_succ, List.foldl_append, hnv]
        rfl
      generalize (ts.take i).foldl app1 xs = zs at *
      have hzl : n < zs.length := by have := hz.1; omega
      have gz : zs[n]? = some (zs.getD n 0) := by
        rw [List.getD_eq_getElem?_getD, List.getElem?_eq_getElem hzl]
        rfl
      refine tg_tup c.calm ⟨_, rfl, rfl, tn_c c.toCn ⟨_, (.s (.s (.s (.s .z)))), tn_c c.toCn ⟨_, (.s (.s (.s (.s (.s .z))))), tn_z (?_)⟩⟩⟩
      refine bk_one (sk_seti (ek_mod (ek_sub (ek_ix (ek_n c.toCn (.s (.s (.s .z))) (ek_n c.toCn (.s (.s (.s (.s .z)))) (⟨_, _, _, (.own .z), rfl, (at_dIk gz), ⟨_, rfl, ek_n c.toCn (.s (.s (.s (.s (.s .z))))) (⟨_, rfl, ⟨_, rfl, ek_int (⟨_, rfl, (by walk_at "vpos"), ek_n c.toCn (.s (.s (.s .z))) (ek_n c.toCn (.s (.s (.s (.s .z)))) (⟨_, _, _, _, _, _, rfl, rfl, .z, (ixN_at (by omega) (by rw [dI_len]; omega)), .z, ?_⟩))⟩)⟩⟩)⟩⟩))) (fun _ _ => rfl)))))
      refine ⟨_, _, rfl, ?_⟩
      rw [hts]
      show (p_made, C.lst ((dI zs).set n (D.int ((zs.getD n 0 - v) % 97)))) :: (p, C.lst (dI fs)) :: L = _
      rw [dI_set]
      rfl
    · obtain ⟨w1, w2, rfl, rfl⟩ := hP
      rw [List.length_map, List.take_length]
      refine bk_one (sk_retS (ek_n c.toCn (.s (.s (.s .z))) (⟨_, .cons₂ _ (List.sublist_cons_self _ _), ?_⟩)))
      exact h3 _ _ (htr.2 xs hok1 hso)
/-- the caller knows the mended one -/
def S_mended1 : SpD := fun ds L q e => ∃ cell xs zs, ds = [cell] ∧ AsL L cell (dI xs) ∧ okc 24 xs ∧ ¬ Md xs none ∧ (∀ ys, Md xs (some ys) → ys = zs) ∧ ∀ p, q (.ref p) ((p, .lst (dI zs)) :: L)
theorem mended1_imp {K : PySem.W.Frag} {ds : List D} {L : Lg} {q : D → Lg → Prop} {e : Xc → Lg → Prop} (h : S_mended1 ds L q e) : S_mended K ds L q e := by
  obtain ⟨x, xs, zs, h1, h2, h3, h4, h5, h6⟩ := h
  exact ⟨x, xs, h1, h2, fun _ => ⟨fun z => absurd z h4, fun ys p z => by rw [h5 ys z]; exact h6 p⟩, fun z => absurd h3 z⟩
/-- there is none -/
def S_mended0 : SpD := fun ds L q e => ∃ cell xs, ds = [cell] ∧ AsL L cell (dI xs) ∧ okc 24 xs ∧ (∀ ys, ¬ Md xs (some ys)) ∧ q .non L
theorem mended0_imp {K : PySem.W.Frag} {ds : List D} {L : Lg} {q : D → Lg → Prop} {e : Xc → Lg → Prop} (h : S_mended0 ds L q e) : S_mended K ds L q e := by
  obtain ⟨x, xs, h1, h2, h3, h5, h6⟩ := h
  exact ⟨x, xs, h1, h2, fun _ => ⟨fun _ => h6, fun ys p z => absurd z (h5 ys)⟩, fun z => absurd h3 z⟩
/-! is_readable -/
def S_is_readable (K : PySem.W.Frag) : SpD := fun ds L q e => ∃ cell xs b, ds = [cell] ∧ AsL L cell (dI xs) ∧ (okc 24 xs → (Md xs none → b = false) ∧ (∀ ys, Md xs (some ys) → b = true) ∧ q (.bl b) L) ∧ (¬ okc 24 xs → e (xcOf K "BadCell") L)
theorem b_is_readable {ds : List D} {L : Lg} {q : D → Lg → Prop} {e : Xc → Lg → Prop} (c : Cf X (["cell"] : List Str) ([] : List Str) (defScope (top 47)) F0 (fun y _ L' => e y L')) (T : Tx X.K X.mg) (hr : Room 5 X.A)
    (G_mended : CalX X 5 "mended" (["cell"] : List Str) (S_mended X.K))
    (h : S_is_readable X.K ds L q e) :
    BK X F0 (defBody (top 47)) (ds.map some ++ List.replicate 0 none) L { nx := fun _ L' => q .non L', rt := q } := by
  obtain ⟨cell, xs, b, rfl, hx, h1, h2⟩ := h
  refine bk_one (sk_retS (ek_notN (ek_call c.tk G_mended (hr.mono (by decide)) (ea_cons (ek_n c.toCn .z (ea_nil (⟨_, xs, rfl, hx, fun hok => ⟨fun hm => ⟨_, (by first | exact List.sublist_cons_self _ _ | exact List.Sublist.refl _), ?_⟩, fun ys p hm => ⟨_, (by first | exact List.sublist_cons_self _ _ | exact List.Sublist.refl _), ?_⟩⟩, fun hok => ?_⟩)))) (c.toCn.gl))))
  · have h3 := h1 hok
    rw [h3.1 hm] at h3
    exact h3.2.2
  · have h3 := h1 hok
    rw [h3.2.1 ys hm] at h3
    exact h3.2.2
  · exact h2 hok
end
end K21


set_option Elab.async false
set_option linter.all false
set_option maxRecDepth 100000
set_option maxHeartbeats 4000000
namespace K21
open PySem PySem.Spec PyProof.Rows L2 Vs
local macro_rules | `(tactic| walk_at "vpos") => `(tactic| first | decide | omega)
local macro_rules | `(tactic| walk_at "vdiv") => `(tactic| first | exact ⟨by decide, by decide⟩ | (constructor <;> omega))
local macro_rules | `(tactic| walk_at "vpow") => `(tactic| exact ⟨by decide, by decide, by decide⟩)
local macro_rules | `(tactic| walk_at "vmul") => `(tactic| first | exact mulL ⟨by decide, by decide⟩ | exact mulR ⟨by decide, by decide⟩ | exact mulL (by constructor <;> omega) | exact mulR (by constructor <;> omega))
local macro_rules | `(tactic| walk_at "vlen") => `(tactic| first | exact sz_ok (Nat.le_of_ble_eq_true rfl) | exact sz_lt (Nat.le_of_ble_eq_true rfl) | (refine sz_ok ?_; simp only [List.length_append, List.length_cons, List.length_nil, List.length_map]; omega) | (refine sz_lt ?_; simp only [List.length_append, List.length_cons, List.length_nil, List.length_map]; omega))
local macro_rules | `(tactic| walk_at "vrng") => `(tactic| (refine ⟨?_, ?_⟩ <;> omega))
local macro_rules | `(tactic| walk_at "vix") => `(tactic| rfl)
local macro_rules | `(tactic| walk_at "vixn") => `(tactic| first | rfl | exact ixN_at (by omega) (by omega))
local macro_rules | `(tactic| walk_at "vkb") => `(tactic| decide +kernel)
local macro_rules | `(tactic| walk_at "vty") => `(tactic| first | exact .int | exact .bl | exact .lst | exact .str | exact .tup | exact .non | exact .own .z | exact tyd_as (by assumption))
local macro_rules | `(tactic| walk_at "vkit") => `(tactic| assumption)
local macro_rules | `(tactic| walk_at "vrep") => `(tactic| (refine ⟨by omega, by omega, ?_⟩; first | decide | (refine sz_ok ?_; simp only [List.length_cons, List.length_nil]; omega)))
section
variable {X : Cx} {F0 : Hp}
/-! look_cell, turned_cell -/
theorem minI_ge {xs : List Int} (h : 0 < xs.length) (hb : ∀ v ∈ xs, 0 ≤ v ∧ v ≤ 96) : 0 ≤ minI xs ∧ maxI xs ≤ 96 := ⟨(hb _ (minI_ok h).1).1, (hb _ (maxI_ok h).1).2⟩
def S_look_cell : SpD := fun ds L q _ => ∃ x xs, ds = [x] ∧ AsL L x (dI xs) ∧ okc 24 xs ∧ q .non L
theorem b_look_cell {ds : List D} {L : Lg} {q : D → Lg → Prop} {e : Xc → Lg → Prop} (c : Cf X (["cell"] : List Str) ([] : List Str) (defScope (top 23)) F0 (fun y _ L' => e y L')) (T : Tx X.K X.mg)
    (h : S_look_cell ds L q e) :
    BK X F0 (defBody (top 23)) (ds.map some ++ List.replicate 0 none) L { nx := fun _ L' => q .non L', rt := q } := by
  obtain ⟨x, xs, rfl, hx, hok, h1⟩ := h
  have hl : xs.length = 24 := by have := hok.1; omega
  obtain ⟨m1, m2⟩ := minI_ge (xs := xs) (by omega) hok.2
  refine bk_one (sk_if (et_w (ew_or (et_neI (ek_len T.no_len (c.toCn.gl) (ek_n c.toCn .z (⟨_, Or.inl hx, ⟨_, rfl, ek_gi T.PLACES_fates (c.toCn.gl) (⟨_, rfl, ⟨rfl, rfl⟩⟩)⟩⟩)))) (fun hb => ew_or (et_lt (ek_minL c.calm T.no_min (c.toCn.gl) (ek_n c.toCn .z (⟨_, (hx), (by omega), ⟨_, rfl, ek_int (⟨_, rfl, ⟨rfl, rfl⟩⟩)⟩⟩)))) (fun hb => et_or1 (et_gt (ek_maxL c.calm T.no_max (c.toCn.gl) (ek_n c.toCn .z (⟨_, (hx), (by omega), ⟨_, rfl, ek_gi T.MOST_SIGN (c.toCn.gl) (⟨_, rfl, ⟨rfl, rfl⟩⟩)⟩⟩))))) (⟨rfl, rfl⟩)) (⟨fun ht => ?_, fun ht => ?_⟩))))
  · exfalso
    rw [dI_len, hl] at ht
    simp at ht
    omega
  · exact bk_nil h1
def S_turned_cell : SpD := fun ds L q _ => ∃ (x : D) (xs : List Int) (ts : List (Nat × Int)), ds = [x, .tup (ts.map fun (t : Nat × Int) => D.tup [.int (t.1 : Int), .int t.2])] ∧ AsL L x (dI xs) ∧ okc 24 xs ∧ (∀ t ∈ ts, t.1 < 24) ∧ q (.lst (dI (ts.foldl add1 xs))) L
theorem b_turned_cell {ds : List D} {L : Lg} {q : D → Lg → Prop} {e : Xc → Lg → Prop} (c : Cf X (["cell", "turns", "told", "place", "add"] : List Str) ([] : List Str) (defScope (top 24)) F0 (fun y _ L' => e y L')) (T : Tx X.K X.mg)
    (h : S_turned_cell ds L q e) :
    BK X F0 (defBody (top 24)) (ds.map some ++ List.replicate 3 none) L { nx := fun _ L' => q .non L', rt := q } := by
  obtain ⟨x, xs, ts, rfl, hx, hok, hts24, h1⟩ := h
  refine bk_cons (sk_set c.toCn (ek_listO T.no_list (c.toCn.gl) (ek_n c.toCn .z (⟨_, Or.inl hx, fun p_told => ⟨_, (.s (.s .z)), ?_⟩⟩))))
  refine bk_cons (sk_for c (ei_tup (ek_n c.toCn (.s .z) (⟨_, rfl, ⟨fun i Γ L' => ∃ w1 w2, Γ = [some x, some (.tup (ts.map fun (t : Nat × Int) => D.tup [.int (t.1 : Int), .int t.2])), some (.ref p_told), w1, w2] ∧ L' = (p_told, .lst (dI ((ts.take i).foldl add1 xs))) :: L, ?_, fun F1 c i d Γ L hd hP => ?_, fun Γ L hP => ?_⟩⟩))))
  · exact ⟨_, _, rfl, rfl⟩
  · obtain ⟨w1, w2, rfl, rfl⟩ := hP
    obtain ⟨⟨p, v⟩, hnv, rfl⟩ := map_at' hd
    have hp24 : p < 24 := hts24 _ (List.mem_of_getElem? hnv)
    have hokz := add_okc (ts := ts.take i) hok
    have hts : (ts.take (i + 1)).foldl add1 xs = add1 ((ts.take i).foldl add1 xs) (p, v) := by
      rw [List.take_succ, List.foldl_append, hnv]
      rfl
    generalize (ts.take i).foldl add1 xs = zs at *
    have hzl : p < zs.length := by have := hokz.1; omega
    have gz : zs[p]? = some (zs.getD p 0) := by
      rw [List.getD_eq_getElem?_getD, List.getElem?_eq_getElem hzl]
      rfl
    refine tg_tup c.calm ⟨_, rfl, rfl, tn_c c.toCn ⟨_, (.s (.s (.s .z))), tn_c c.toCn ⟨_, (.s (.s (.s (.s .z)))), tn_z (?_)⟩⟩⟩
    refine bk_one (sk_seti (ek_mod (ek_add (ek_ix (ek_n c.toCn (.s (.s .z)) (ek_n c.toCn (.s (.s (.s .z))) (⟨_, _, _, (.own .z), rfl, (at_dIk gz), ⟨_, rfl, ek_n c.toCn (.s (.s (.s (.s .z)))) (⟨_, rfl, ⟨_, rfl, ek_add (ek_gi T.MOST_SIGN (c.toCn.gl) (⟨_, rfl, ek_int (⟨_, rfl, ⟨_, rfl, (by walk_at "vpos"), ek_n c.toCn (.s (.s .z)) (ek_n c.toCn (.s (.s (.s .z))) (⟨_, _, _, _, _, _, rfl, rfl, .z, (ixN_at (by omega) (by rw [dI_len]; omega)), .z, ?_⟩))⟩⟩)⟩))⟩⟩)⟩⟩))) (fun _ _ => rfl)))))
    refine ⟨_, _, rfl, ?_⟩
    rw [hts]
    show (p_told, C.lst ((dI zs).set p (D.int ((zs.getD p 0 + v) % 97)))) :: L = _
    rw [dI_set]
    rfl
  · obtain ⟨w1, w2, rfl, rfl⟩ := hP
    rw [List.length_map, List.take_length]
    refine bk_frz (.s (.s .z)) .z (.s (.s .z)) ?_
    refine bk_one (sk_ret (ek_n c.toCn (.s (.s .z)) (?_)))
    exact h1
end
end K21


set_option Elab.async false
set_option linter.all false
set_option maxRecDepth 100000
set_option maxHeartbeats 4000000
namespace K21
open PySem PySem.Spec PyProof.Rows L2 Vs
def mt (i j : Nat) : Stmt := match top i with
  | .ClassDef _ _ _ body _ _ _ _ _ _ _ => body.getD j (.Pass ⟨0, 0, 0, 0⟩)
  | _ => .Pass ⟨0, 0, 0, 0⟩
local macro_rules | `(tactic| walk_at "vpos") => `(tactic| first | decide | omega)
local macro_rules | `(tactic| walk_at "vdiv") => `(tactic| first | exact ⟨by decide, by decide⟩ | (constructor <;> omega))
local macro_rules | `(tactic| walk_at "vpow") => `(tactic| exact ⟨by decide, by decide, by decide⟩)
local macro_rules | `(tactic| walk_at "vmul") => `(tactic| first | exact mulL ⟨by decide, by decide⟩ | exact mulR ⟨by decide, by decide⟩ | exact mulL (by constructor <;> omega) | exact mulR (by constructor <;> omega))
local macro_rules | `(tactic| walk_at "vlen") => `(tactic| first | exact sz_ok (Nat.le_of_ble_eq_true rfl) | exact sz_lt (Nat.le_of_ble_eq_true rfl) | (refine sz_ok ?_; simp only [List.length_append, List.length_cons, List.length_nil, List.length_map]; omega) | (refine sz_lt ?_; simp only [List.length_append, List.length_cons, List.length_nil, List.length_map]; omega))
local macro_rules | `(tactic| walk_at "vrng") => `(tactic| (refine ⟨?_, ?_⟩ <;> omega))
local macro_rules | `(tactic| walk_at "vix") => `(tactic| rfl)
local macro_rules | `(tactic| walk_at "vixn") => `(tactic| first | rfl | exact ixN_at (by omega) (by omega))
local macro_rules | `(tactic| walk_at "vkb") => `(tactic| decide +kernel)
local macro_rules | `(tactic| walk_at "vty") => `(tactic| first | exact .int | exact .bl | exact .lst | exact .str | exact .tup | exact .non | exact .own .z | exact tyd_as (by assumption))
local macro_rules | `(tactic| walk_at "vkit") => `(tactic| assumption)
local macro_rules | `(tactic| walk_at "vrep") => `(tactic| (refine ⟨by omega, by omega, ?_⟩; first | decide | (refine sz_ok ?_; simp only [List.length_cons, List.length_nil]; omega)))
section
variable {X : Cx} {F0 : Hp}
/-! the air: the lists of the ticks stand in front, the dict and the air behind them -/
abbrev airC (K : PySem.W.Frag) : Addr := He.ga K "Air"
abbrev ArM := List (Int × Addr × List (List Int))
def cLs (cs : List (List Int)) : List D := cs.map fun c => D.lst (dI c)
def arL (M : ArM) : Lg := M.map fun m => (m.2.1, C.lst (cLs m.2.2))
def vM (M : ArM) (t : Int) : List (List Int) := ((atK t M).map (·.2)).getD []
def arW (K : PySem.W.Frag) (p dp : Addr) (late : Int) (M : ArM) (kvs : List (Key × D)) (L0 : Lg) : Lg := arL M ++ (dp, C.dic kvs) :: (p, C.obj (airC K) [("late", .int late), ("coming", .ref dp)]) :: L0
structure ArOK (n k : Nat) (M : ArM) (kvs : List (Key × D)) : Prop where
  key : ∀ t : Int, atK (Sum.inl t) kvs = (atK t M).map fun m => D.ref m.1
  len : kvs.length ≤ k
  big : ∀ m ∈ M, m.2.2.length ≤ n
theorem ArOK.mono {n k n' k' : Nat} {M : ArM} {kvs : List (Key × D)} (h : ArOK n k M kvs) (h1 : n ≤ n') (h2 : k ≤ k') : ArOK n' k' M kvs := ⟨h.key, by have := h.len; omega, fun m hm => by have := h.big m hm; omega⟩
theorem get_mid {α : Type} {x : α} {B : List α} : ∀ {A : List α}, Get (A ++ x :: B) A.length x
  | [] => .z
  | _ :: A => .s (get_mid (A := A))
theorem get_mid1 {α : Type} {x y : α} {B : List α} : ∀ {A : List α}, Get (A ++ y :: x :: B) (A.length + 1) x
  | [] => .s .z
  | _ :: A => .s (get_mid1 (A := A))
theorem set_mid {α : Type} {x y : α} {B : List α} : ∀ {A : List α}, (A ++ x :: B).set A.length y = A ++ y :: B
  | [] => rfl
  | a :: A => congrArg (a :: ·) (set_mid (A := A))
theorem atK_drop {κ α : Type} [DecidableEq κ] {k j : κ} : ∀ {r : List (κ × α)}, atK j (dropA k r) = if k = j then none else atK j r
  | [] => by
    show none = _
    by_cases h : k = j <;> simp [h, atK]
  | (i, x) :: r => by
    have ih := atK_drop (k := k) (j := j) (r := r)
    unfold dropA at ih ⊢
    rw [List.filter_cons]
    by_cases hi : i = k
    · rw [if_neg (by simpa using hi), ih]
      subst hi
      by_cases h : i = j
      · rw [if_pos h, if_pos h]
      · rw [if_neg h, if_neg h]
        show _ = if i = j then some x else atK j r
        rw [if_neg h]
    · rw [if_pos (by simpa using hi)]
      show (if i = j then some x else atK j _) = if k = j then none else if i = j then some x else atK j r
      rw [ih]
      by_cases h : i = j
      · rw [if_pos h, if_pos h, if_neg (fun z => hi (h.trans z.symm))]
      · rw [if_neg h, if_neg h]
theorem ar_get {t : Int} {a : Addr} {cs cs' : List (List Int)} : ∀ {M : ArM}, atK t M = some (a, cs) → ∃ j, Get (arL M) j (a, C.lst (cLs cs)) ∧ arL (putA t (a, cs') M) = (arL M).set j (a, C.lst (cLs cs')) ∧ (t, a, cs) ∈ M
  | [], h => by cases h
  | (s, b, ds) :: M, h => by
    unfold atK at h
    by_cases hs : s = t
    · rw [if_pos hs] at h
      obtain ⟨rfl, rfl⟩ := Prod.mk.inj (Option.some.inj h)
      subst hs
      refine ⟨0, .z, ?_, List.mem_cons_self ..⟩
      unfold putA
      rw [if_pos rfl]
      rfl
    · rw [if_neg hs] at h
      obtain ⟨j, g, e, m⟩ := ar_get (cs' := cs') h
      refine ⟨j + 1, .s g, ?_, List.mem_cons_of_mem _ m⟩
      unfold putA
      rw [if_neg hs]
      show (b, C.lst (cLs ds)) :: arL (putA t (a, cs') M) = _
      rw [e]
      rfl
theorem ar_rem {t : Int} {a : Addr} {cs : List (List Int)} : ∀ {M : ArM}, atK t M = some (a, cs) → ∃ j L2, Rem (arL M) j (a, C.lst (cLs cs)) L2 ∧ (arL (dropA t M)).Sublist L2
  | [], h => by cases h
  | (s, b, ds) :: M, h => by
    unfold atK at h
    by_cases hs : s = t
    · rw [if_pos hs] at h
      obtain ⟨rfl, rfl⟩ := Prod.mk.inj (Option.some.inj h)
      subst hs
      refine ⟨0, arL M, .z, ?_⟩
      unfold dropA arL
      rw [List.filter_cons, if_neg (by simp)]
      exact (List.filter_sublist ..).map _
    · rw [if_neg hs] at h
      obtain ⟨j, L2, g, e⟩ := ar_rem h
      refine ⟨j + 1, _, .s g, ?_⟩
      unfold dropA arL
      rw [List.filter_cons, if_pos (by simpa using hs)]
      exact e.cons₂ _
theorem rem_app {α : Type} {x : α} {ys : List α} : ∀ {xs zs : List α} {j : Nat}, Rem xs j x zs → Rem (xs ++ ys) j x (zs ++ ys)
  | _, _, _, .z => .z
  | _, _, _, .s g => .s (rem_app g)
theorem putA_mem {κ α : Type} [DecidableEq κ] {k : κ} {v : α} {m : κ × α} : ∀ {r : List (κ × α)}, m ∈ putA k v r → m ∈ r ∨ m = (k, v)
  | [], h => .inr (by simpa [putA] using h)
  | (i, x) :: r, h => by
    unfold putA at h
    by_cases hi : i = k
    · rw [if_pos hi] at h
      rcases List.mem_cons.mp h with rfl | h
      · exact .inr (by rw [hi])
      · exact .inl (List.mem_cons_of_mem _ h)
    · rw [if_neg hi] at h
      rcases List.mem_cons.mp h with rfl | h
      · exact .inl (List.mem_cons_self ..)
      · rcases putA_mem h with h | h
        · exact .inl (List.mem_cons_of_mem _ h)
        · exact .inr h
theorem vM_none {M : ArM} {t : Int} (h : atK t M = none) : vM M t = [] := by
  unfold vM
  rw [h]
  rfl
theorem vM_some {M : ArM} {t : Int} {a : Addr} {cs : List (List Int)} (h : atK t M = some (a, cs)) : vM M t = cs := by
  unfold vM
  rw [h]
  rfl
/-! Air.__init__ -/
def S_init (K : PySem.W.Frag) : SpD := fun ds L q _ => ∃ p late L0, ds = [.ref p, .int late] ∧ L = (p, .obj (airC K) []) :: L0 ∧ okL late ∧ ∀ dp, q .non (arW K p dp late [] [] L0)
theorem b_init {ds : List D} {L : Lg} {q : D → Lg → Prop} {e : Xc → Lg → Prop} (c : Cf X (["self", "late"] : List Str) ([] : List Str) (defScope (mt 25 0)) F0 (fun y _ L' => e y L')) (T : Tx X.K X.mg) (hr : Room 1 X.A)
    (G_look_late : CalX X 1 "look_late" (["late"] : List Str) (S_look_late X.K))
    (h : S_init X.K ds L q e) :
    BK X F0 (defBody (mt 25 0)) (ds.map some ++ List.replicate 0 none) L { nx := fun _ L' => q .non L', rt := q } := by
  obtain ⟨p, late, L0, rfl, rfl, hlt, h1⟩ := h
  refine bk_cons (sk_expr (ek_call c.tk G_look_late (hr.mono (by decide)) (ea_cons (ek_n c.toCn (.s .z) (ea_nil (⟨_, rfl, fun _ => ?_, fun z => absurd hlt z⟩)))) (c.toCn.gl)))
  refine bk_cons (sk_fld T.cl_Air T.na_Air_late (ek_n c.toCn (.s .z) (ek_n c.toCn .z (⟨_, _, _, _, rfl, .z, (by decide), .z, ?_⟩))))
  refine bk_one (sk_fld T.cl_Air T.na_Air_coming (ek_dnew (fun p_coming => ek_n c.toCn .z (⟨_, _, _, _, rfl, (.s .z), (by show (1 : Nat) < 1000; decide), (.s .z), ?_⟩))))
  exact h1 _
/-! Air.come -/
def S_come (K : PySem.W.Frag) : SpD := fun ds L q _ => ∃ p dp late M kvs L0 t n k, ds = [.ref p, .int t] ∧ L = arW K p dp late M kvs L0 ∧ ArOK n k M kvs ∧
  ∀ M' kvs', ArOK n k M' kvs' → (∀ s, vM M' s = if t = s then [] else vM M s) → q (.lst (cLs (vM M t))) (arW K p dp late M' kvs' L0)
theorem b_come {ds : List D} {L : Lg} {q : D → Lg → Prop} {e : Xc → Lg → Prop} (c : Cf X (["self", "tick"] : List Str) ([] : List Str) (defScope (mt 25 2)) F0 (fun y _ L' => e y L')) (T : Tx X.K X.mg)
    (h : S_come X.K ds L q e) :
    BK X F0 (defBody (mt 25 2)) (ds.map some ++ List.replicate 0 none) L { nx := fun _ L' => q .non L', rt := q } := by
  obtain ⟨p, dp, late, M, kvs, L0, t, n, k, rfl, rfl, hok, h1⟩ := h
  have hgd : Get (arW X.K p dp late M kvs L0) (arL M).length (dp, C.dic kvs) := get_mid
  have hgp : Get (arW X.K p dp late M kvs L0) ((arL M).length + 1) (p, C.obj (airC X.K) [("late", .int late), ("coming", .ref dp)]) := get_mid1
  refine bk_one (sk_ret (ek_frzO (ek_dpop2 (ek_fld T.cl_Air T.na_Air_coming (ek_n c.toCn .z (⟨_, _, _, _, rfl, hgp, (rfl), ⟨_, _, _, rfl, hgd, ek_n c.toCn (.s .z) (ek_lst (ea_nil (⟨(sz_ok (Nat.le_of_ble_eq_true rfl)), ⟨_, (.inl _), _, rfl, hgd, fun dv hdv => ⟨_, hgd.put, ?_⟩, fun hdv => ?_⟩⟩)))⟩⟩))))))
  · rw [hok.key t] at hdv
    cases hm : atK t M with
    | none => rw [hm] at hdv; cases hdv
    | some m =>
      obtain ⟨a, cs⟩ := m
      rw [hm] at hdv
      obtain rfl : D.ref a = dv := Option.some.inj hdv
      obtain ⟨j, L2, hr, hs⟩ := ar_rem hm
      refine .inl ⟨a, cLs cs, j, L2 ++ (dp, C.dic (dropA (Sum.inl t) kvs)) :: (p, C.obj (airC X.K) [("late", .int late), ("coming", .ref dp)]) :: L0, arW X.K p dp late (dropA t M) (dropA (Sum.inl t) kvs) L0, rfl, ?_, .of_sub (hs.append (List.Sublist.refl _)), ?_⟩
      · show Rem ((arL M ++ (dp, C.dic kvs) :: _).set (arL M).length _) j _ _
        rw [set_mid]
        exact rem_app hr
      · have h2 := h1 (dropA t M) (dropA (Sum.inl t) kvs) ⟨fun s => ?_, Nat.le_trans (List.length_filter_le ..) hok.len, fun m hm => hok.big m (List.mem_filter.mp hm).1⟩ (fun s => ?_)
        · rw [vM_some hm] at h2
          exact h2
        · rw [atK_drop, atK_drop, hok.key s]
          by_cases z : t = s
          · rw [if_pos z, if_pos (congrArg Sum.inl z)]
            rfl
          · rw [if_neg z, if_neg (fun y => z (Sum.inl.inj y))]
        · unfold vM
          rw [atK_drop]
          by_cases z : t = s
          · rw [if_pos z, if_pos z]
            rfl
          · rw [if_neg z, if_neg z]
  · rw [hok.key t] at hdv
    have hm : atK t M = none := by
      cases hm : atK t M with
      | none => rfl
      | some m => rw [hm] at hdv; cases hdv
    refine .inr ?_
    have h2 := h1 M kvs hok (fun s => by
      by_cases z : t = s
      · rw [if_pos z, ← z, vM_none hm]
      · rw [if_neg z])
    rw [vM_none hm] at h2
    exact h2
/-! Air.give -/
def tcell (xs : List Int) (ts : List (Int × Int)) : List Int := (ts.map fun t => (t.1.toNat, t.2)).foldl add1 xs
def arrs (xs : List Int) (tick : Int) (f : FT) (t : Int) : List (List Int) := (f.filter fun x => decide (tick + x.1 = t)).map fun x => tcell xs x.2
def S_give (K : PySem.W.Frag) : SpD := fun ds L q _ => ∃ p dp late M kvs L0 x xs f tick n k, ds = [.ref p, x, ftD f, .int tick] ∧ L = arW K p dp late M kvs L0 ∧ (∀ M kvs, AsL (arW K p dp late M kvs L0) x (dI xs)) ∧ okc 24 xs ∧ goodF late f = true ∧
  ArOK n k M kvs ∧ n < 1000 ∧ k < 1000 ∧ ∀ M' kvs', ArOK (n + 3) (k + 3) M' kvs' → (∀ s, vM M' s = vM M s ++ arrs xs tick f s) → q .non (arW K p dp late M' kvs' L0)
theorem okT_pos : ∀ {ts : List (Int × Int)} {l : Int}, -1 ≤ l → okT l ts = true → ∀ t ∈ ts, 0 ≤ t.1 ∧ t.1 < 24
  | [], _, _, _, t, ht => by cases ht
  | s :: ts, l, hl, h, t, ht => by
    unfold okT okA at h
    simp only [Bool.and_eq_true, decide_eq_true_eq] at h
    rcases List.mem_cons.mp ht with rfl | ht
    · omega
    · exact okT_pos (by omega) h.2 t ht
theorem goodT_pr {ts : List (Int × Int)} (h : goodT ts = true) : trD ts = .tup ((ts.map fun t => (t.1.toNat, t.2)).map fun (t : Nat × Int) => D.tup [.int (t.1 : Int), .int t.2]) ∧ ∀ t ∈ ts.map (fun t => (t.1.toNat, t.2)), t.1 < 24 := by
  unfold goodT at h
  simp only [Bool.and_eq_true, decide_eq_true_eq] at h
  have hp := okT_pos (by decide) h.2
  refine ⟨?_, fun t ht => ?_⟩
  · unfold trD
    rw [List.map_map]
    congr 1
    refine List.map_congr_left fun t ht => ?_
    unfold prD
    show _ = D.tup [.int ((t.1.toNat : Nat) : Int), .int t.2]
    rw [Int.toNat_of_nonneg (hp t ht).1]
  · obtain ⟨s, hs, rfl⟩ := List.mem_map.mp ht
    have := hp s hs
    show s.1.toNat < 24
    omega
theorem b_give {ds : List D} {L : Lg} {q : D → Lg → Prop} {e : Xc → Lg → Prop} (c : Cf X (["self", "cell", "fate", "tick", "delay", "turns", "at"] : List Str) ([] : List Str) (defScope (mt 25 1)) F0 (fun y _ L' => e y L')) (T : Tx X.K X.mg) (hr : Room 2 X.A)
    (G_look_cell : CalX X 1 "look_cell" (["cell"] : List Str) S_look_cell) (G_look_fate : CalX X 2 "look_fate" (["fate", "late"] : List Str) (S_look_fate X.K)) (G_turned_cell : CalX X 1 "turned_cell" (["cell", "turns"] : List Str) S_turned_cell)
    (h : S_give X.K ds L q e) :
    BK X F0 (defBody (mt 25 1)) (ds.map some ++ List.replicate 3 none) L { nx := fun _ L' => q .non L', rt := q } := by
  obtain ⟨p, dp, late, M, kvs, L0, x, xs, f, tick, n, k, rfl, rfl, hx, hok, hgf, har, hn, hk, h1⟩ := h
  have hu := hr.units
  have hgp : Get (arW X.K p dp late M kvs L0) ((arL M).length + 1) (p, C.obj (airC X.K) [("late", .int late), ("coming", .ref dp)]) := get_mid1
  refine bk_cons (sk_expr (ek_call c.tk G_look_cell (hr.mono (by decide)) (ea_cons (ek_n c.toCn (.s .z) (ea_nil (⟨_, xs, rfl, hx M kvs, hok, ?_⟩)))) (c.toCn.gl)))
  refine bk_cons (sk_expr (ek_call c.tk G_look_fate (hr.mono (by decide)) (ea_cons (ek_n c.toCn (.s (.s .z)) (ea_cons (ek_fld T.cl_Air T.na_Air_late (ek_n c.toCn .z (⟨_, _, _, _, rfl, hgp, (rfl), ea_nil (⟨_, _, rfl, fun _ => ?_, fun z => absurd hgf (by rw [z]; decide)⟩)⟩)))))) (c.toCn.gl)))
  refine bk_one (sk_for c (ei_tup (ek_n c.toCn (.s (.s .z)) (⟨_, rfl, ⟨fun i Γ L' => ∃ M1 kvs1 w1 w2 w3, Γ = [some (.ref p), some x, some (ftD f), some (.int tick), w1, w2, w3] ∧ L' = arW X.K p dp late M1 kvs1 L0 ∧ ArOK (n + i) (k + i) M1 kvs1 ∧ ∀ s, vM M1 s = vM M s ++ arrs xs tick (f.take i) s, ?_, fun F1 c i d Γ L hd hP => ?_, fun Γ L hP => ?_⟩⟩))))
  · exact ⟨M, kvs, none, none, none, rfl, rfl, har, fun s => by rw [List.take_zero]; exact (List.append_nil _).symm⟩
  · obtain ⟨M1, kvs1, w1, w2, w3, rfl, rfl, ho1, hv1⟩ := hP
    obtain ⟨y, hy, rfl⟩ := ft_get hd
    have hi3 : f.length ≤ 3 := by
      unfold goodF at hgf
      simp only [Bool.and_eq_true, decide_eq_true_eq] at hgf
      exact hgf.1
    have hil : i < f.length := (List.getElem?_eq_some_iff.mp hy).1
    have hgt : goodT y.2 = true := by
      unfold goodF at hgf
      rw [Bool.and_eq_true, List.all_eq_true] at hgf
      have h3 := hgf.2 y (List.mem_of_getElem? hy)
      unfold goodX at h3
      rw [Bool.and_eq_true] at h3
      exact h3.2
    have hgd : Get (arW X.K p dp late M1 kvs1 L0) (arL M1).length (dp, C.dic kvs1) := get_mid
    have hgp : Get (arW X.K p dp late M1 kvs1 L0) ((arL M1).length + 1) (p, C.obj (airC X.K) [("late", .int late), ("coming", .ref dp)]) := get_mid1
    refine tg_tup c.calm ⟨_, rfl, rfl, tn_c c.toCn ⟨_, (.s (.s (.s (.s .z)))), tn_c c.toCn ⟨_, (.s (.s (.s (.s (.s .z))))), tn_z (?_)⟩⟩⟩
    refine bk_cons (sk_set c.toCn (ek_add (ek_n c.toCn (.s (.s (.s .z))) (⟨_, rfl, ek_n c.toCn (.s (.s (.s (.s .z)))) (⟨_, rfl, ⟨_, (.s (.s (.s (.s (.s (.s .z)))))), ?_⟩⟩)⟩))))
    refine bk_cut (fun Γ L => ∃ M2 kvs2 a cs, Γ = [some (.ref p), some x, some (ftD f), some (.int tick), some (.int y.1), some (trD y.2), some (.int (tick + y.1))] ∧ L = arW X.K p dp late M2 kvs2 L0 ∧ ArOK (n + i) (k + i + 1) M2 kvs2 ∧ atK (tick + y.1) M2 = some (a, cs) ∧ ∀ s, vM M2 s = vM M1 s) (sk_if (et_dnotin hu (ek_n c.toCn (.s (.s (.s (.s (.s (.s .z)))))) (ek_fld T.cl_Air T.na_Air_coming (ek_n c.toCn .z (⟨_, _, _, _, rfl, hgp, (rfl), ⟨_, (.inl _), (.own hgd), rfl, ⟨fun ht => ?_, fun ht => ?_⟩⟩⟩)))))) (fun Γ L hM => ?_)
    · have hm : atK (tick + y.1) M1 = none := by
        rw [ho1.key] at ht
        cases hm : atK (tick + y.1) M1 with
        | none => rfl
        | some m => rw [hm] at ht; cases ht
      refine bk_one (sk_dput hu (ek_lstO (ea_nil (⟨(by first | exact sz_ok (Nat.le_of_ble_eq_true rfl) | exact sz_lt (by have := ho1.len; omega)), fun p_item => ek_fld T.cl_Air T.na_Air_coming (ek_n c.toCn .z (⟨_, _, _, _, rfl, (Get.s hgp), (rfl), ek_n c.toCn (.s (.s (.s (.s (.s (.s .z)))))) (⟨_, _, (.inl _), _, _, rfl, (Get.s hgd), rfl, (by first | exact sz_ok (Nat.le_of_ble_eq_true rfl) | exact sz_lt (by have := ho1.len; omega)), (Get.s hgd).put, ?_⟩)⟩))⟩))))
      refine ⟨(tick + y.1, p_item, []) :: M1, putB kvs1 (Sum.inl (tick + y.1)) (.ref p_item), p_item, [], rfl, ?_, ⟨fun s => ?_, Nat.le_trans putB_len (by have := ho1.len; omega), fun m hm => ?_⟩, if_pos rfl, fun s => ?_⟩
      · show (p_item, C.lst []) :: (arL M1 ++ (dp, C.dic kvs1) :: _).set (arL M1).length _ = _
        rw [set_mid]
        rfl
      · rw [atK_putB]
        show _ = Option.map _ (if tick + y.1 = s then some (p_item, []) else atK s M1)
        by_cases z : tick + y.1 = s
        · rw [if_pos z, if_pos (congrArg Sum.inl z)]
          rfl
        · rw [if_neg z, if_neg (fun y => z (Sum.inl.inj y)), ho1.key]
      · rcases List.mem_cons.mp hm with rfl | hm
        · exact Nat.zero_le _
        · exact ho1.big m hm
      · unfold vM
        show ((if tick + y.1 = s then some (p_item, []) else atK s M1).map _).getD [] = _
        by_cases z : tick + y.1 = s
        · rw [if_pos z, ← z, hm]
          rfl
        · rw [if_neg z]
    · refine bk_nil ?_
      cases hm : atK (tick + y.1) M1 with
      | none =>
        rw [ho1.key, hm] at ht
        cases ht
      | some m => exact ⟨M1, kvs1, m.1, m.2, rfl, rfl, ho1.mono (Nat.le_refl _) (by omega), hm, fun s => rfl⟩
    · obtain ⟨M2, kvs2, a, cs, rfl, rfl, ho2, hm2, hv2⟩ := hM
      have hgd : Get (arW X.K p dp late M2 kvs2 L0) (arL M2).length (dp, C.dic kvs2) := get_mid
      have hgp : Get (arW X.K p dp late M2 kvs2 L0) ((arL M2).length + 1) (p, C.obj (airC X.K) [("late", .int late), ("coming", .ref dp)]) := get_mid1
      obtain ⟨j, hgj, hsj, hmj⟩ := ar_get (cs' := cs ++ [tcell xs y.2]) hm2
      have hgl : Get (arW X.K p dp late M2 kvs2 L0) j (a, C.lst (cLs cs)) := hgj.app
      have hcl := ho2.big _ hmj
      refine bk_one (sk_expr (ek_app (ek_dget hu (ek_fld T.cl_Air T.na_Air_coming (ek_n c.toCn .z (⟨_, _, _, _, rfl, hgp, (rfl), ek_n c.toCn (.s (.s (.s (.s (.s (.s .z)))))) (⟨_, (.inl _), _, (.own hgd), rfl, (by rw [ho2.key, hm2]; rfl), ⟨_, _, rfl, .own hgl, ek_call c.tk G_turned_cell (hr.mono (by decide)) (ea_cons (ek_n c.toCn (.s .z) (ea_cons (ek_n c.toCn (.s (.s (.s (.s (.s .z))))) (ea_nil (⟨_, xs, y.2.map (fun t => (t.1.toNat, t.2)), (by rw [← (goodT_pr hgt).1]), hx M2 kvs2, hok, (goodT_pr hgt).2, ⟨_, _, _, hgl, hgl.put, (sz_lt (by unfold cLs; rw [List.length_map]; simp only [] at hcl; omega)), ?_⟩⟩)))))) (c.toCn.gl)⟩⟩)⟩))))))
      refine ⟨putA (tick + y.1) (a, cs ++ [tcell xs y.2]) M2, kvs2, _, _, _, rfl, ?_, ⟨fun s => ?_, by have := ho2.len; omega, fun m hm => ?_⟩, fun s => ?_⟩
      · show (arL M2 ++ _).set j _ = arL (putA _ _ M2) ++ _
        rw [hsj, set_app hgj]
        unfold cLs
        rw [List.map_append]
        rfl
      · rw [atK_put, ho2.key]
        by_cases z : tick + y.1 = s
        · rw [if_pos z, ← z, hm2]
          rfl
        · rw [if_neg z]
      · rcases putA_mem hm with hm | rfl
        · have := ho2.big m hm; omega
        · show (cs ++ [tcell xs y.2]).length ≤ _
          rw [List.length_append]
          simp only [List.length_cons, List.length_nil] at hcl ⊢
          omega
      · have e1 : vM (putA (tick + y.1) (a, cs ++ [tcell xs y.2]) M2) s = vM M2 s ++ if tick + y.1 = s then [tcell xs y.2] else [] := by
          unfold vM
          rw [atK_put]
          by_cases z : tick + y.1 = s
          · rw [if_pos z, if_pos z, ← z, hm2]
            rfl
          · rw [if_neg z, if_neg z, List.append_nil]
        rw [e1, hv2, hv1, List.append_assoc]
        congr 1
        unfold arrs
        rw [List.take_succ, hy, List.filter_append, List.map_append]
        congr 1
        show _ = List.map _ (List.filter _ [y])
        rw [List.filter_cons]
        by_cases z : tick + y.1 = s
        · rw [if_pos z, if_pos (by simpa using z)]
          rfl
        · rw [if_neg z, if_neg (by simpa using z)]
          rfl
  · obtain ⟨M1, kvs1, w1, w2, w3, rfl, rfl, ho1, hv1⟩ := hP
    have hi3 : f.length ≤ 3 := by
      unfold goodF at hgf
      simp only [Bool.and_eq_true, decide_eq_true_eq] at hgf
      exact hgf.1
    rw [List.length_map] at ho1 hv1
    rw [List.take_length] at hv1
    exact h1 M1 kvs1 (ho1.mono (by omega) (by omega)) hv1
end
end K21


set_option Elab.async false
set_option linter.all false
set_option maxRecDepth 100000
set_option maxHeartbeats 4000000
namespace K21
open PySem PySem.Spec PyProof.Rows L2 Vs
local macro_rules | `(tactic| walk_at "vpos") => `(tactic| first | decide | omega)
local macro_rules | `(tactic| walk_at "vdiv") => `(tactic| first | exact ⟨by decide, by decide⟩ | (constructor <;> omega))
local macro_rules | `(tactic| walk_at "vpow") => `(tactic| exact ⟨by decide, by decide, by decide⟩)
local macro_rules | `(tactic| walk_at "vmul") => `(tactic| first | exact mulL ⟨by decide, by decide⟩ | exact mulR ⟨by decide, by decide⟩ | exact mulL (by constructor <;> omega) | exact mulR (by constructor <;> omega))
local macro_rules | `(tactic| walk_at "vlen") => `(tactic| first | exact sz_ok (Nat.le_of_ble_eq_true rfl) | exact sz_lt (Nat.le_of_ble_eq_true rfl) | (refine sz_ok ?_; simp only [List.length_append, List.length_cons, List.length_nil, List.length_map]; omega) | (refine sz_lt ?_; simp only [List.length_append, List.length_cons, List.length_nil, List.length_map]; omega))
local macro_rules | `(tactic| walk_at "vrng") => `(tactic| (refine ⟨?_, ?_⟩ <;> omega))
local macro_rules | `(tactic| walk_at "vix") => `(tactic| rfl)
local macro_rules | `(tactic| walk_at "vixn") => `(tactic| first | rfl | exact ixN_at (by omega) (by omega))
local macro_rules | `(tactic| walk_at "vkb") => `(tactic| decide +kernel)
local macro_rules | `(tactic| walk_at "vty") => `(tactic| first | exact .int | exact .bl | exact .lst | exact .str | exact .tup | exact .non | exact .own .z | exact tyd_as (by assumption))
local macro_rules | `(tactic| walk_at "vkit") => `(tactic| assumption)
local macro_rules | `(tactic| walk_at "vrep") => `(tactic| (refine ⟨by omega, by omega, ?_⟩; first | decide | (refine sz_ok ?_; simp only [List.length_cons, List.length_nil]; omega)))
section
variable {X : Cx} {F0 : Hp}
/-! _law_cell -/
def S_law_cell : SpD := fun ds L q _ => ∃ (ns : List Int) (k : Nat), ds = [.lst (dI ns), .int (k : Int)] ∧ q (.int (ns.getD k 0)) L
theorem b_law_cell {ds : List D} {L : Lg} {q : D → Lg → Prop} {e : Xc → Lg → Prop} (c : Cf X (["script", "k"] : List Str) ([] : List Str) (defScope (top 49)) F0 (fun y _ L' => e y L')) (T : Tx X.K X.mg) (h : S_law_cell ds L q e) :
    BK X F0 (defBody (top 49)) (ds.map some ++ List.replicate 0 none) L { nx := fun _ L' => q .non L', rt := q } := by
  obtain ⟨ns, k, rfl, h1⟩ := h
  refine bk_cons (sk_if (et_lt (ek_n c.toCn (.s .z) (⟨_, rfl, ek_len T.no_len (c.toCn.gl) (ek_n c.toCn .z (⟨_, Or.inl .lst, ⟨_, rfl, ⟨fun ht => ?_, fun ht => ?_⟩⟩⟩))⟩))))
  · rw [dI_len] at ht
    obtain ⟨v, hv⟩ : ∃ v, ns[k]? = some v := ⟨_, List.getElem?_eq_getElem (by simp at ht; omega)⟩
    refine bk_one (sk_ret (ek_ix (ek_n c.toCn .z (ek_n c.toCn (.s .z) (⟨_, _, _, .lst, rfl, (at_dIk hv), ?_⟩))) (fun _ _ => rfl)))
    rw [List.getD_eq_getElem?_getD, hv] at h1
    exact h1
  · rw [dI_len] at ht
    refine bk_nil ?_
    refine bk_one (sk_ret (ek_int (?_)))
    rw [List.getD_eq_getElem?_getD, List.getElem?_eq_none (by simp at ht; omega)] at h1
    exact h1
/-! _law_pot -/
def rest1 (c : Int) : Int := if 1000000000000000000 ≤ (if c < 0 then -c else c) then (if c < 0 then -c else c) - 1000000000000000000 + 1 else 0
def S_law_pot : SpD := fun ds L q _ => ∃ v, ds = [.int v] ∧ ∀ p, q (.ref p) ((p, .lst (dI [rest1 v, 0, v % 2147483647])) :: L)
theorem b_law_pot {ds : List D} {L : Lg} {q : D → Lg → Prop} {e : Xc → Lg → Prop} (c : Cf X (["cell", "rest"] : List Str) ([] : List Str) (defScope (top 50)) F0 (fun y _ L' => e y L')) (T : Tx X.K X.mg) (h : S_law_pot ds L q e) :
    BK X F0 (defBody (top 50)) (ds.map some ++ List.replicate 1 none) L { nx := fun _ L' => q .non L', rt := q } := by
  obtain ⟨v, rfl, h1⟩ := h
  refine bk_cons (sk_set c.toCn (ek_int (⟨_, (.s .z), ?_⟩)))
  refine bk_cons (sk_if (et_ge (ek_abs T.no_abs (c.toCn.gl) (ek_n c.toCn .z (⟨_, rfl, ⟨_, rfl, ek_pow (ek_int (⟨_, rfl, ek_int (⟨_, rfl, (by walk_at "vpow"), ⟨_, rfl, ⟨fun ht => ?_, fun ht => ?_⟩⟩⟩)⟩))⟩⟩)))))
  · refine bk_one (sk_set c.toCn (ek_add (ek_sub (ek_abs T.no_abs (c.toCn.gl) (ek_n c.toCn .z (⟨_, rfl, ⟨_, rfl, ek_pow (ek_int (⟨_, rfl, ek_int (⟨_, rfl, (by walk_at "vpow"), ⟨_, rfl, ⟨_, rfl, ek_int (⟨_, rfl, ⟨_, (.s .z), ?_⟩⟩)⟩⟩⟩)⟩))⟩⟩))))))
    have e1 : rest1 v = (if v < 0 then -v else v) - 10 ^ (18 : Int).toNat + 1 := if_pos (of_decide_eq_true ht)
    refine bk_one (sk_ret (ek_lstO (ea_cons (ek_n c.toCn (.s .z) (ea_cons (ek_int (ea_cons (ek_mod (ek_n c.toCn .z (⟨_, rfl, ek_int (⟨_, rfl, (by walk_at "vpos"), ea_nil (⟨(by walk_at "vlen"), fun p => ?_⟩)⟩)⟩))))))))))
    have h2 := h1 p
    rw [e1] at h2
    exact h2
  · refine bk_nil ?_
    have e1 : rest1 v = 0 := if_neg (of_decide_eq_false ht)
    refine bk_one (sk_ret (ek_lstO (ea_cons (ek_n c.toCn (.s .z) (ea_cons (ek_int (ea_cons (ek_mod (ek_n c.toCn .z (⟨_, rfl, ek_int (⟨_, rfl, (by walk_at "vpos"), ea_nil (⟨(by walk_at "vlen"), fun p => ?_⟩)⟩)⟩))))))))))
    have h2 := h1 p
    rw [e1] at h2
    exact h2
/-! _law_take -/
def mark1 (n m : Int) : Int := (m + 977 * n * n + 40692 * n + 1) % 2147483647
def mark2 (n m : Int) : Int := mark1 n m * mark1 n m % 1000000007 * 48271 % 998244353
def S_law_take : SpD := fun ds L q _ => ∃ p r n m size j, ds = [.ref p, .int size] ∧ Get L j (p, .lst (dI [r, n, m])) ∧ (0 < size ∧ size < 1000000000) ∧ (0 ≤ n ∧ n < 1000000) ∧
  (0 < r → q (.int (r % size)) (L.set j (p, .lst (dI [r / size, n, m])))) ∧ (¬ 0 < r → q (.int (mark2 (n + 1) m / 8 % size)) (L.set j (p, .lst (dI [r, n + 1, m]))))
theorem b_law_take {ds : List D} {L : Lg} {q : D → Lg → Prop} {e : Xc → Lg → Prop} (c : Cf X (["pot", "size", "digit", "k", "mark"] : List Str) ([] : List Str) (defScope (top 51)) F0 (fun y _ L' => e y L')) (T : Tx X.K X.mg) (h : S_law_take ds L q e) :
    BK X F0 (defBody (top 51)) (ds.map some ++ List.replicate 3 none) L { nx := fun _ L' => q .non L', rt := q } := by
  obtain ⟨p, r, n, m, size, j, rfl, g, hs, hn, h1, h2⟩ := h
  refine bk_cons (sk_if (et_gt (ek_ix (ek_n c.toCn .z (ek_int (⟨_, _, _, (.own g), rfl, (by walk_at "vix"), ⟨_, rfl, ek_int (⟨_, rfl, ⟨fun ht => ?_, fun ht => ?_⟩⟩)⟩⟩))) (fun _ _ => rfl))))
  · refine bk_cons (sk_set c.toCn (ek_mod (ek_ix (ek_n c.toCn .z (ek_int (⟨_, _, _, (.own g), rfl, (by walk_at "vix"), ⟨_, rfl, ek_n c.toCn (.s .z) (⟨_, rfl, (by walk_at "vpos"), ⟨_, (.s (.s .z)), ?_⟩⟩)⟩⟩))) (fun _ _ => rfl))))
    refine bk_cons (sk_seti (ek_fdiv (ek_ix (ek_n c.toCn .z (ek_int (⟨_, _, _, (.own g), rfl, (by walk_at "vix"), ⟨_, rfl, ek_n c.toCn (.s .z) (⟨_, rfl, (by walk_at "vdiv"), ek_n c.toCn .z (ek_int (⟨_, _, _, _, _, _, rfl, rfl, g, (by walk_at "vixn"), g.put, ?_⟩))⟩)⟩⟩))) (fun _ _ => rfl))))
    refine bk_one (sk_ret (ek_n c.toCn (.s (.s .z)) (?_)))
    exact h1 (of_decide_eq_true ht)
  · refine bk_nil ?_
    refine bk_cons (sk_seti (ek_add (ek_ix (ek_n c.toCn .z (ek_int (⟨_, _, _, (.own g), rfl, (by walk_at "vix"), ⟨_, rfl, ek_int (⟨_, rfl, ek_n c.toCn .z (ek_int (⟨_, _, _, _, _, _, rfl, rfl, g, (by walk_at "vixn"), g.put, ?_⟩))⟩)⟩⟩))) (fun _ _ => rfl))))
    refine bk_cons (sk_set c.toCn (ek_ix (ek_n c.toCn .z (ek_int (⟨_, _, _, (.own g.got), rfl, (by walk_at "vix"), ⟨_, (.s (.s (.s .z))), ?_⟩⟩))) (fun _ _ => rfl)))
    refine bk_cons (sk_set c.toCn (ek_mod (ek_add (ek_add (ek_add (ek_ix (ek_n c.toCn .z (ek_int (⟨_, _, _, (.own g.got), rfl, (by walk_at "vix"), ⟨_, rfl, ek_mul (ek_mul (ek_int (⟨_, rfl, ek_n c.toCn (.s (.s (.s .z))) (⟨_, rfl, (by walk_at "vmul"), ⟨_, rfl, ek_n c.toCn (.s (.s (.s .z))) (⟨_, rfl, (by walk_at "vmul"), ⟨_, rfl, ⟨_, rfl, ek_mul (ek_int (⟨_, rfl, ek_n c.toCn (.s (.s (.s .z))) (⟨_, rfl, (by walk_at "vmul"), ⟨_, rfl, ⟨_, rfl, ek_int (⟨_, rfl, ⟨_, rfl, ek_int (⟨_, rfl, (by walk_at "vpos"), ⟨_, (.s (.s (.s (.s .z)))), ?_⟩⟩)⟩⟩)⟩⟩⟩)⟩))⟩⟩⟩)⟩⟩)⟩)))⟩⟩))) (fun _ _ => rfl)))))))
    have b1 : 0 ≤ mark1 (n + 1) m ∧ mark1 (n + 1) m < 2147483647 := ⟨Int.emod_nonneg _ (by decide), Int.emod_lt_of_pos _ (by decide)⟩
    have b2 : ∀ x : Int, 0 ≤ x % 1000000007 ∧ x % 1000000007 < 1000000007 := fun x => ⟨Int.emod_nonneg _ (by decide), Int.emod_lt_of_pos _ (by decide)⟩
    refine bk_cons (sk_set c.toCn (ek_mod (ek_mul (ek_mod (ek_mul (ek_n c.toCn (.s (.s (.s (.s .z)))) (⟨_, rfl, ek_n c.toCn (.s (.s (.s (.s .z)))) (⟨_, rfl, (by walk_at "vmul"), ⟨_, rfl, ek_int (⟨_, rfl, (by walk_at "vpos"), ⟨_, rfl, ek_int (⟨_, rfl, (by walk_at "vmul"), ⟨_, rfl, ek_int (⟨_, rfl, (by walk_at "vpos"), ⟨_, (.s (.s (.s (.s .z)))), ?_⟩⟩)⟩⟩)⟩⟩)⟩⟩)⟩)))))))
    refine bk_one (sk_ret (ek_mod (ek_fdiv (ek_n c.toCn (.s (.s (.s (.s .z)))) (⟨_, rfl, ek_int (⟨_, rfl, (by walk_at "vdiv"), ⟨_, rfl, ek_n c.toCn (.s .z) (⟨_, rfl, (by walk_at "vpos"), ?_⟩)⟩⟩)⟩)))))
    exact h2 (of_decide_eq_false ht)
theorem take_range (r n m size : Int) (hs : 0 < size) : (0 ≤ r % size ∧ r % size < size) ∧ (0 ≤ mark2 n m / 8 % size ∧ mark2 n m / 8 % size < size) := ⟨⟨Int.emod_nonneg _ (by omega), Int.emod_lt_of_pos _ hs⟩, ⟨Int.emod_nonneg _ (by omega), Int.emod_lt_of_pos _ hs⟩⟩
/-- what a law asks of a draw -/
def S_take : SpD := fun ds L q _ => ∃ p r n m size j, ds = [.ref p, .int size] ∧ Get L j (p, .lst (dI [r, n, m])) ∧ (0 < size ∧ size < 1000000000) ∧ (0 ≤ n ∧ n < 1000000) ∧
  ∀ dg r' n', (0 ≤ dg ∧ dg < size) → (0 ≤ n' ∧ n' ≤ n + 1) → q (.int dg) (L.set j (p, .lst (dI [r', n', m])))
theorem take_imp {ds : List D} {L : Lg} {q : D → Lg → Prop} {e : Xc → Lg → Prop} (h : S_take ds L q e) : S_law_take ds L q e := by
  obtain ⟨p, r, n, m, size, j, h1, h2, h3, h4, h5⟩ := h
  have tr := take_range r (n + 1) m size h3.1
  exact ⟨p, r, n, m, size, j, h1, h2, h3, h4, fun _ => h5 _ _ _ tr.1 ⟨by omega, by omega⟩, fun _ => h5 _ _ _ tr.2 ⟨by omega, by omega⟩⟩
/-! _law_turns, _law_fate: turns and fates that may be; the pot stands at j of the ledger -/
def S_law_turns : SpD := fun ds L q _ => ∃ p r n m most j, ds = [.ref p, .int most] ∧ Get L j (p, .lst (dI [r, n, m])) ∧ (0 ≤ most ∧ most ≤ 4) ∧ (0 ≤ n ∧ n < 900000) ∧
  ∀ (ts : List (Int × Int)) r' n', goodT ts = true → ts.length ≤ 4 → (0 ≤ n' ∧ n' ≤ n + 9) → q (trD ts) (L.set j (p, .lst (dI [r', n', m])))
theorem b_law_turns {ds : List D} {L : Lg} {q : D → Lg → Prop} {e : Xc → Lg → Prop} (c : Cf X (["pot", "most", "many", "turns", "at", "k"] : List Str) ([] : List Str) (defScope (top 52)) F0 (fun y _ L' => e y L')) (T : Tx X.K X.mg) (hr : Room 1 X.A)
    (G__law_take : CalX X 1 "_law_take" (["pot", "size"] : List Str) S_take) (h : S_law_turns ds L q e) :
    BK X F0 (defBody (top 52)) (ds.map some ++ List.replicate 4 none) L { nx := fun _ L' => q .non L', rt := q } := by
  obtain ⟨p, r, n, m, most, j, rfl, g, hm, hn, h1⟩ := h
  refine bk_cons (sk_set c.toCn (ek_call c.tk G__law_take (hr.mono (by decide)) (ea_cons (ek_n c.toCn .z (ea_cons (ek_add (ek_n c.toCn (.s .z) (⟨_, rfl, ek_int (⟨_, rfl, ea_nil (⟨_, _, _, _, _, j, rfl, g, ⟨by omega, by omega⟩, ⟨by omega, by omega⟩, fun dg1 r1 n1 hd1 hn1 => ⟨_, (.s (.s .z)), ?_⟩⟩)⟩)⟩)))))) (c.toCn.gl)))
  refine bk_cons (sk_set c.toCn (ek_lstO (ea_nil (⟨(by walk_at "vlen"), fun p_turns => ⟨_, (.s (.s (.s .z))), ?_⟩⟩))))
  refine bk_cons (sk_set c.toCn (ek_neg (ek_int (⟨_, rfl, ⟨_, (.s (.s (.s (.s .z)))), ?_⟩⟩))))
  refine bk_cons (sk_for c (ei_range1 T.no_range (c.toCn.gl) (ek_n c.toCn (.s (.s .z)) (⟨_, rfl, (⟨by omega, by omega⟩), ⟨fun i Γ L' => ∃ (ts : List (Int × Int)) (at' r' n' : Int) (w : Option D), Γ = [some (.ref p), some (.int most), some (.int dg1), some (.ref p_turns), some (.int at'), w] ∧ L' = (p_turns, .lst (ts.map prD)) :: L.set j (p, .lst (dI [r', n', m])) ∧ ts.length = i ∧ (-1 ≤ at' ∧ at' ≤ 23 - dg1 + i) ∧ (0 ≤ n' ∧ n' ≤ n + 1 + 2 * i) ∧ okT (-1) ts = true ∧ endP (-1) ts = at', ?_, fun F1 c i d Γ L hd hP => ?_, fun Γ L hP => ?_⟩⟩))))
  · exact ⟨[], _, _, _, none, rfl, rfl, rfl, by omega, by omega, rfl, rfl⟩
  · obtain ⟨ts, at', r', n', w, rfl, rfl, hl, hat, hn', ho, he⟩ := hP
    obtain ⟨hi, rfl⟩ := range_nat hd
    have g2 : Get ((p_turns, C.lst (ts.map prD)) :: L.set j (p, .lst (dI [r', n', m]))) (j + 1) (p, .lst (dI [r', n', m])) := .s (get_at_set g)
    refine tg_n c.toCn ⟨_, (.s (.s (.s (.s (.s .z))))), ?_⟩
    refine bk_cons (sk_set c.toCn (ek_add (ek_add (ek_n c.toCn (.s (.s (.s (.s .z)))) (⟨_, rfl, ek_int (⟨_, rfl, ⟨_, rfl, ek_call c.tk G__law_take (hr.mono (by decide)) (ea_cons (ek_n c.toCn .z (ea_cons (ek_add (ek_sub (ek_sub (ek_int (⟨_, rfl, ek_n c.toCn (.s (.s (.s (.s .z)))) (⟨_, rfl, ⟨_, rfl, ek_n c.toCn (.s (.s .z)) (⟨_, rfl, ⟨_, rfl, ek_n c.toCn (.s (.s (.s (.s (.s .z))))) (⟨_, rfl, ea_nil (⟨_, _, _, _, _, j + 1, rfl, g2, ⟨by omega, by omega⟩, ⟨by omega, by omega⟩, fun dg2 r2 n2 hd2 hn2 => ⟨_, rfl, ⟨_, (.s (.s (.s (.s .z)))), ?_⟩⟩⟩)⟩)⟩⟩)⟩⟩)⟩)))))))) (c.toCn.gl)⟩⟩)⟩)))))
    have g3 : Get (((p_turns, C.lst (ts.map prD)) :: L.set j (p, .lst (dI [r', n', m]))).set (j + 1) (p, .lst (dI [r2, n2, m]))) (j + 1) (p, .lst (dI [r2, n2, m])) := get_at_set g2
    refine bk_one (sk_expr (ek_app (ek_n c.toCn (.s (.s (.s .z))) (⟨_, _, rfl, .own .z, ek_tup (ea_cons (ek_n c.toCn (.s (.s (.s (.s .z)))) (ea_cons (ek_add (ek_int (⟨_, rfl, ek_call c.tk G__law_take (hr.mono (by decide)) (ea_cons (ek_n c.toCn .z (ea_cons (ek_int (ea_nil (⟨_, _, _, _, _, j + 1, rfl, g3, ⟨by omega, by omega⟩, ⟨by omega, by omega⟩, fun dg3 r3 n3 hd3 hn3 => ⟨_, rfl, ea_nil (⟨(by first | exact sz_ok (by simp only [List.length_cons, List.length_nil]; omega) | exact sz_lt (by rw [List.length_map]; omega)), ⟨_, _, _, .z, .z, (by first | exact sz_ok (by simp only [List.length_cons, List.length_nil]; omega) | exact sz_lt (by rw [List.length_map]; omega)), ?_⟩⟩)⟩⟩)))))) (c.toCn.gl)⟩))))))⟩))))
    refine ⟨ts ++ [(at' + 1 + dg2, 1 + dg3)], _, r3, n3, _, rfl, ?_, by rw [List.length_append, hl]; rfl, by omega, by omega, ?_, endP_app⟩
    · rw [List.map_append]
      simp only [List.set_cons_succ, List.set_set]
      rfl
    · rw [okT_app, ho, he]
      unfold okA
      simp
      omega
  · obtain ⟨ts, at', r', n', w, rfl, rfl, hl, hat, hn', ho, he⟩ := hP
    rw [rangeD_len] at hl hn'
    refine bk_frz (.s (.s (.s .z))) .z (.s (.s (.s .z))) ?_
    refine bk_one (sk_ret (ek_tupOf T.no_tuple (c.toCn.gl) (ek_n c.toCn (.s (.s (.s .z))) (⟨_, Or.inl .lst, ?_⟩))))
    refine h1 ts r' n' ?_ (by omega) ⟨hn'.1, by omega⟩
    unfold goodT
    rw [ho, decide_eq_true (by omega)]
    rfl
def S_law_fate : SpD := fun ds L q _ => ∃ p r n m late j, ds = [.ref p, .int late] ∧ Get L j (p, .lst (dI [r, n, m])) ∧ (1 ≤ late ∧ late ≤ 6) ∧ (0 ≤ n ∧ n < 800000) ∧
  ∀ (f : FT) r' n', goodF late f = true → f.length ≤ 3 → (∀ x ∈ f, x.2.length ≤ 4) → (0 ≤ n' ∧ n' ≤ n + 100) → q (ftD f) (L.set j (p, .lst (dI [r', n', m])))
theorem b_law_fate {ds : List D} {L : Lg} {q : D → Lg → Prop} {e : Xc → Lg → Prop} (c : Cf X (["pot", "late", "fate", "k", "delay"] : List Str) ([] : List Str) (defScope (top 53)) F0 (fun y _ L' => e y L')) (T : Tx X.K X.mg) (hr : Room 2 X.A)
    (G__law_take : CalX X 1 "_law_take" (["pot", "size"] : List Str) S_take) (G__law_turns : CalX X 2 "_law_turns" (["pot", "most"] : List Str) S_law_turns) (h : S_law_fate ds L q e) :
    BK X F0 (defBody (top 53)) (ds.map some ++ List.replicate 3 none) L { nx := fun _ L' => q .non L', rt := q } := by
  obtain ⟨p, r, n, m, late, j, rfl, g, hm, hn, h1⟩ := h
  refine bk_cons (sk_set c.toCn (ek_lstO (ea_nil (⟨(by walk_at "vlen"), fun p_fate => ⟨_, (.s (.s .z)), ?_⟩⟩))))
  have g1 : Get ((p_fate, C.lst []) :: L) (j + 1) (p, .lst (dI [r, n, m])) := .s g
  refine bk_cons (sk_for c (ei_range1 T.no_range (c.toCn.gl) (ek_call c.tk G__law_take (hr.mono (by decide)) (ea_cons (ek_n c.toCn .z (ea_cons (ek_int (ea_nil (⟨_, _, _, _, _, j + 1, rfl, g1, ⟨by omega, by omega⟩, ⟨by omega, by omega⟩, fun dg1 r1 n1 hd1 hn1 => ⟨_, rfl, (⟨by omega, by omega⟩), ⟨fun i Γ L' => ∃ (f : FT) (r' n' : Int) (w1 w2 : Option D), Γ = [some (.ref p), some (.int late), some (.ref p_fate), w1, w2] ∧ L' = (p_fate, .lst (f.map arD)) :: L.set j (p, .lst (dI [r', n', m])) ∧ f.length = i ∧ (0 ≤ n' ∧ n' ≤ n + 1 + 20 * i) ∧ f.all (goodX late) = true ∧ ∀ x ∈ f, x.2.length ≤ 4, ?_, fun F1 c i d Γ L hd hP => ?_, fun Γ L hP => ?_⟩⟩⟩)))))) (c.toCn.gl))))
  · exact ⟨[], _, _, none, none, rfl, rfl, rfl, by omega, rfl, fun x hx => by cases hx⟩
  · obtain ⟨f, r', n', w1, w2, rfl, rfl, hl, hn', ho, h4⟩ := hP
    obtain ⟨hi, rfl⟩ := range_nat hd
    have g2 : Get ((p_fate, C.lst (f.map arD)) :: L.set j (p, .lst (dI [r', n', m]))) (j + 1) (p, .lst (dI [r', n', m])) := .s (get_at_set g)
    refine tg_n c.toCn ⟨_, (.s (.s (.s .z))), ?_⟩
    refine bk_cons (sk_set c.toCn (ek_add (ek_int (⟨_, rfl, ek_call c.tk G__law_take (hr.mono (by decide)) (ea_cons (ek_n c.toCn .z (ea_cons (ek_n c.toCn (.s .z) (ea_nil (⟨_, _, _, _, _, j + 1, rfl, g2, ⟨by omega, by omega⟩, ⟨by omega, by omega⟩, fun dg2 r2 n2 hd2 hn2 => ⟨_, rfl, ⟨_, (.s (.s (.s (.s .z)))), ?_⟩⟩⟩)))))) (c.toCn.gl)⟩))))
    have g3 : Get (((p_fate, C.lst (f.map arD)) :: L.set j (p, .lst (dI [r', n', m]))).set (j + 1) (p, .lst (dI [r2, n2, m]))) (j + 1) (p, .lst (dI [r2, n2, m])) := get_at_set g2
    refine bk_one (sk_expr (ek_app (ek_n c.toCn (.s (.s .z)) (⟨_, _, rfl, .own .z, ek_tup (ea_cons (ek_n c.toCn (.s (.s (.s (.s .z)))) (ea_cons (ek_call c.tk G__law_turns (hr.mono (by decide)) (ea_cons (ek_n c.toCn .z (ea_cons (ek_int (ea_nil (⟨_, _, _, _, _, j + 1, rfl, g3, ⟨by decide, by decide⟩, ⟨by omega, by omega⟩, fun ts r3 n3 hgt hts hn3 => ea_nil (⟨(by first | exact sz_ok (by simp only [List.length_cons, List.length_nil]; omega) | exact sz_lt (by rw [List.length_map]; omega)), ⟨_, _, _, .z, .z, (by first | exact sz_ok (by simp only [List.length_cons, List.length_nil]; omega) | exact sz_lt (by rw [List.length_map]; omega)), ?_⟩⟩)⟩)))))) (c.toCn.gl)))))⟩))))
    refine ⟨f ++ [(1 + dg2, ts)], r3, n3, _, _, rfl, ?_, by rw [List.length_append, hl]; rfl, by omega, ?_, fun x hx => ?_⟩
    · rw [List.map_append]
      simp only [List.set_cons_succ, List.set_set]
      rfl
    · rw [List.all_append, ho, List.all_cons, List.all_nil]
      unfold goodX
      rw [hgt]
      simp
      omega
    · rcases List.mem_append.mp hx with y | y
      · exact h4 x y
      · have : x = (1 + dg2, ts) := by simpa using y
        rw [this]
        exact hts
  · obtain ⟨f, r', n', w1, w2, rfl, rfl, hl, hn', ho, h4⟩ := hP
    rw [rangeD_len] at hl hn'
    refine bk_frz (.s (.s .z)) .z (.s (.s .z)) ?_
    refine bk_one (sk_ret (ek_tupOf T.no_tuple (c.toCn.gl) (ek_n c.toCn (.s (.s .z)) (⟨_, Or.inl .lst, ?_⟩))))
    refine h1 f r' n' ?_ (by omega) h4 ⟨hn'.1, by omega⟩
    unfold goodF
    rw [ho, decide_eq_true (by omega)]
    rfl
/-! _law_fits -/
def S_law_fits : SpD := fun ds L q _ => ∃ f : FT, ds = [ftD f] ∧ f.length ≤ 1000 ∧ q (.bl (fit f)) L
theorem b_law_fits {ds : List D} {L : Lg} {q : D → Lg → Prop} {e : Xc → Lg → Prop} (c : Cf X (["fate"] : List Str) (["delay", "turns"] : List Str) (defScope (top 54)) F0 (fun y _ L' => e y L')) (T : Tx X.K X.mg) (h : S_law_fits ds L q e) :
    BK X F0 (defBody (top 54)) (ds.map some ++ List.replicate 2 none) L { nx := fun _ L' => q .non L', rt := q } := by
  obtain ⟨f, rfl, hl, h1⟩ := h
  refine bk_one (sk_ret (ek_gt (ek_len T.no_len (c.toCn.gl) (ek_lc [("delay", 1), ("turns", 2)] c.toCn c.calm (by decide +kernel) (ei_p (ei_tup (ek_n c.toCn .z (⟨_, rfl, ⟨f.map fun x => if fitA x then some (D.int 1) else none, ?_, ?_, ?_, ⟨_, Or.inl .lst, ⟨_, rfl, ek_int (⟨_, rfl, ?_⟩)⟩⟩⟩⟩))))))))
  · rw [List.length_map, List.length_map]
  · rw [List.length_map]
    omega
  · intro F1 n d e acc Dp hd he
    obtain ⟨x, hx, rfl⟩ := ft_get hd
    have he' := map_at hx he
    subst he'
    have e1 : fitA x = decide (((x.2.map prD).length : Int) < 3) := by
      unfold fitA
      rw [List.length_map]
      exact decide_eq_decide.mpr (by omega)
    intro X' cb hX'
    obtain ⟨s0, H0, C0, cl, fp, rfl⟩ := hX'
    refine tb_tup cb ⟨_, rfl, rfl, tnb_c cb ⟨_, (.s .z), tnb_c cb ⟨_, (.s (.s .z)), tnb_z ⟨rfl, fun X' cb hX' => ?_⟩⟩⟩⟩
    obtain ⟨s0, H0, C0, cl, fp, rfl⟩ := hX'
    refine es_one (et_lt (ek_len T.no_len cb.gl (ek_b cb (.s (.s .z)) (⟨_, Or.inr rfl, ⟨_, rfl, ek_int (⟨_, rfl, ⟨rfl, fun ht X' cb hX' => ?_, fun ht => ?_⟩⟩)⟩⟩))))
    · obtain ⟨s0, H0, C0, cl, fp, rfl⟩ := hX'
      refine ek_int (?_)
      refine ⟨rfl, ?_⟩
      rw [if_pos (by rw [e1]; exact ht)]
    · rw [if_neg (by rw [e1, ht]; decide)]
  · rw [fm_len, filt_any]
    exact h1
/-! _law_fates -/
theorem goodF_cut {late : Int} {f : FT} (hl : 1 ≤ late) (h : goodF late f = true) : goodF late (f.take 2 ++ [(late, [])]) = true := by
  unfold goodF at h ⊢
  simp only [Bool.and_eq_true, decide_eq_true_eq] at h ⊢
  refine ⟨?_, ?_⟩
  · rw [List.length_append, List.length_take]
    simp only [List.length_cons, List.length_nil]
    omega
  · rw [List.all_append, Bool.and_eq_true]
    refine ⟨List.all_eq_true.mpr fun x hx => List.all_eq_true.mp h.2 x (List.mem_of_mem_take hx), ?_⟩
    rw [List.all_cons, List.all_nil, Bool.and_true]
    unfold goodX goodT okT
    simp
    omega
def S_law_fates : SpD := fun ds L q _ => ∃ (ns : List Int) (late lost : Int) (kept : Bool), ds = [.lst (dI ns), .int late, .int lost, .bl kept] ∧ (1 ≤ late ∧ late ≤ 6) ∧ ns.length ≤ 63 ∧ ∀ fs : List FT, (∀ f ∈ fs, goodF late f = true) → fs.length = ns.length - 1 → q (.lst (fsD fs)) L
theorem b_law_fates {ds : List D} {L : Lg} {q : D → Lg → Prop} {e : Xc → Lg → Prop} (c : Cf X (["script", "late", "lost", "kept", "fates", "run", "cell", "fate"] : List Str) ([] : List Str) (defScope (top 55)) F0 (fun y _ L' => e y L')) (T : Tx X.K X.mg) (hr : Room 3 X.A)
    (G__law_pot : CalX X 1 "_law_pot" (["cell"] : List Str) S_law_pot) (G__law_fate : CalX X 3 "_law_fate" (["pot", "late"] : List Str) S_law_fate) (G__law_fits : CalX X 1 "_law_fits" (["fate"] : List Str) S_law_fits) (h : S_law_fates ds L q e) :
    BK X F0 (defBody (top 55)) (ds.map some ++ List.replicate 4 none) L { nx := fun _ L' => q .non L', rt := q } := by
  obtain ⟨ns, late, lost, kept, rfl, hl, hns, h1⟩ := h
  have hcut : cutD (dI ns) (some 1) none = dI (ns.drop 1) := by
    show cutD (ns.map D.int) _ _ = _
    rw [cut_map]
    unfold cutL
    rw [show (1 : Int) = ((1 : Nat) : Int) from rfl, HT.sIx_nat]
    show dI _ = _
    congr 1
    rw [show HT.sIx ns.length ns.length none = ns.length from rfl]
    by_cases h : 1 ≤ ns.length
    · rw [Nat.min_eq_left h]
      exact List.take_of_length_le (by rw [List.length_drop]; exact Nat.le_refl _)
    · have : ns = [] := List.length_eq_zero_iff.mp (by omega)
      subst this
      rfl
  refine bk_cons (sk_set c.toCn (ek_lstO (ea_nil (⟨(by walk_at "vlen"), fun p_fates => ⟨_, (.s (.s (.s (.s .z)))), ?_⟩⟩))))
  refine bk_cons (sk_set c.toCn (ek_int (⟨_, (.s (.s (.s (.s (.s .z))))), ?_⟩)))
  refine bk_cons (sk_for c (ei_list (ek_sl (ek_n c.toCn .z (eo_s (ek_int (⟨_, rfl, eo_n (⟨_, .lst, ⟨_, rfl, ⟨fun i Γ L' => ∃ (fs : List FT) (run : Int) (w1 w2 : Option D), Γ = [some (.lst (dI ns)), some (.int late), some (.int lost), some (.bl kept), some (.ref p_fates), some (.int run), w1, w2] ∧ L' = (p_fates, .lst (fsD fs)) :: L ∧ fs.length = i ∧ ∀ f ∈ fs, goodF late f = true, ?_, fun F1 c i d Γ L hd hP => ?_, fun Γ L hP => ?_⟩⟩⟩)⟩)))))))
  · exact ⟨[], _, none, none, rfl, rfl, rfl, fun f hf => by cases hf⟩
  · obtain ⟨fs, run, w1, w2, rfl, rfl, hfl, hfg⟩ := hP
    rw [hcut] at hd
    have hi := (List.getElem?_eq_some_iff.mp hd).1
    rw [dI_len, List.length_drop] at hi
    obtain ⟨v, hv, rfl⟩ := dI_get hd
    refine tg_n c.toCn ⟨_, (.s (.s (.s (.s (.s (.s .z)))))), ?_⟩
    refine bk_cons (sk_set c.toCn (ek_call c.tk G__law_fate (hr.mono (by decide)) (ea_cons (ek_call c.tk G__law_pot (hr.mono (by decide)) (ea_cons (ek_n c.toCn (.s (.s (.s (.s (.s (.s .z)))))) (ea_nil (⟨v, rfl, fun pp => ea_cons (ek_n c.toCn (.s .z) (ea_nil (⟨pp, _, _, _, late, _, rfl, .z, hl, ⟨by decide, by decide⟩, fun f r' n' hgf hf3 hf4 hn' => ⟨_, (.s (.s (.s (.s (.s (.s (.s .z))))))), ?_⟩⟩)))⟩)))) (c.toCn.gl))) (c.toCn.gl)))
    refine bk_drop .z ?_
    refine bk_cons (sk_set c.toCn (ek_add (ek_n c.toCn (.s (.s (.s (.s (.s .z))))) (⟨_, rfl, ek_int (⟨_, rfl, ⟨_, (.s (.s (.s (.s (.s .z))))), ?_⟩⟩)⟩))))
    refine bk_cut (fun Γ L' => ∃ run : Int, Γ = [some (.lst (dI ns)), some (.int late), some (.int lost), some (.bl kept), some (.ref p_fates), some (.int run), some (.int v), some (ftD f)] ∧ L' = (p_fates, .lst (fsD fs)) :: L) (sk_if (et_v (ek_call c.tk G__law_fits (hr.mono (by decide)) (ea_cons (ek_n c.toCn (.s (.s (.s (.s (.s (.s (.s .z))))))) (ea_nil (⟨f, rfl, by omega, ⟨_, rfl, ⟨fun ht => ?_, fun ht => ?_⟩⟩⟩)))) (c.toCn.gl)))) (fun Γ L hM => ?_)
    · refine bk_one (sk_set c.toCn (ek_int (⟨_, (.s (.s (.s (.s (.s .z))))), ?_⟩)))
      exact ⟨_, rfl, rfl⟩
    · exact bk_nil ⟨_, rfl, rfl⟩
    · obtain ⟨run, rfl, rfl⟩ := hM
      have hcf : cutD (f.map arD) none (some 2) = (f.take 2).map arD := by
        rw [cut_map]
        unfold cutL
        rw [show (2 : Int) = ((2 : Nat) : Int) from rfl, HT.sIx_nat]
        show List.map arD (List.take (min 2 f.length - 0) (List.drop 0 f)) = _
        rw [List.drop_zero, Nat.sub_zero]
        congr 1
        by_cases h : 2 ≤ f.length
        · rw [Nat.min_eq_left h]
        · rw [Nat.min_eq_right (by omega), List.take_of_length_le (Nat.le_refl _), List.take_of_length_le (by omega)]
      refine bk_cut (fun Γ L' => ∃ (run : Int) (f : FT), Γ = [some (.lst (dI ns)), some (.int late), some (.int lost), some (.bl kept), some (.ref p_fates), some (.int run), some (.int v), some (ftD f)] ∧ L' = (p_fates, .lst (fsD fs)) :: L ∧ goodF late f = true) (sk_if (et_w (ew_and (et_gt (ek_n c.toCn (.s (.s (.s (.s (.s .z))))) (⟨_, rfl, ek_n c.toCn (.s (.s .z)) (⟨_, rfl, ⟨rfl, rfl⟩⟩)⟩))) (fun hb => et_and1 (et_v (ek_n c.toCn (.s (.s (.s .z))) (⟨_, rfl, ⟨rfl, rfl⟩⟩)))) (⟨fun ht => ?_, fun ht => ?_⟩)))) (fun Γ L hM => ?_)
      · refine bk_cons (sk_set c.toCn (ek_catT (ek_slT (ek_n c.toCn (.s (.s (.s (.s (.s (.s (.s .z))))))) (eo_n (eo_s (ek_int (⟨_, rfl, ⟨_, rfl, ek_tup (ea_cons (ek_tup (ea_cons (ek_n c.toCn (.s .z) (ea_cons (ek_tup (ea_nil (⟨(by first | exact sz_ok (Nat.le_of_ble_eq_true rfl) | exact sz_lt (Nat.le_of_ble_eq_true rfl) | (rw [hcf]; refine sz_ok ?_; rw [List.length_map, List.length_take]; simp only [List.length_cons, List.length_nil]; omega)), ea_nil (⟨(by first | exact sz_ok (Nat.le_of_ble_eq_true rfl) | exact sz_lt (Nat.le_of_ble_eq_true rfl) | (rw [hcf]; refine sz_ok ?_; rw [List.length_map, List.length_take]; simp only [List.length_cons, List.length_nil]; omega)), ea_nil (⟨(by first | exact sz_ok (Nat.le_of_ble_eq_true rfl) | exact sz_lt (Nat.le_of_ble_eq_true rfl) | (rw [hcf]; refine sz_ok ?_; rw [List.length_map, List.length_take]; simp only [List.length_cons, List.length_nil]; omega)), ⟨_, _, rfl, rfl, (by first | exact sz_ok (Nat.le_of_ble_eq_true rfl) | exact sz_lt (Nat.le_of_ble_eq_true rfl) | (rw [hcf]; refine sz_ok ?_; rw [List.length_map, List.length_take]; simp only [List.length_cons, List.length_nil]; omega)), ⟨_, (.s (.s (.s (.s (.s (.s (.s .z))))))), ?_⟩⟩⟩)⟩)⟩))))))))⟩⟩))))))))
        refine bk_one (sk_set c.toCn (ek_int (⟨_, (.s (.s (.s (.s (.s .z))))), ?_⟩)))
        have e1 : D.tup (Vs.cutD (f.map arD) none (some 2) ++ [D.tup [.int late, .tup []]]) = ftD (f.take 2 ++ [(late, [])]) := by
          rw [hcf]
          unfold ftD
          rw [List.map_append]
          rfl
        exact ⟨0, f.take 2 ++ [(late, [])], by rw [← e1], rfl, goodF_cut hl.1 hgf⟩
      · exact bk_nil ⟨_, f, rfl, rfl, hgf⟩
      · obtain ⟨run, f, rfl, rfl, hgf⟩ := hM
        refine bk_one (sk_expr (ek_app (ek_n c.toCn (.s (.s (.s (.s .z)))) (⟨_, _, rfl, .own .z, ek_n c.toCn (.s (.s (.s (.s (.s (.s (.s .z))))))) (⟨_, _, _, .z, .z, (sz_lt (by rw [fsD_len]; omega)), ?_⟩)⟩))))
        refine ⟨fs ++ [f], _, _, _, rfl, ?_, by rw [List.length_append, hfl]; rfl, fun g hg => ?_⟩
        · unfold fsD
          rw [List.map_append]
          rfl
        · rcases List.mem_append.mp hg with z | z
          · exact hfg g z
          · rw [List.mem_singleton.mp z]
            exact hgf
  · obtain ⟨fs, run, w1, w2, rfl, rfl, hfl, hfg⟩ := hP
    rw [hcut, dI_len, List.length_drop] at hfl
    refine bk_frz (.s (.s (.s (.s .z)))) .z (.s (.s (.s (.s .z)))) ?_
    refine bk_one (sk_ret (ek_n c.toCn (.s (.s (.s (.s .z)))) (?_)))
    exact h1 fs hfg hfl
end
end K21


set_option Elab.async false
set_option linter.all false
set_option maxRecDepth 100000
set_option maxHeartbeats 4000000
namespace K21
open PySem PySem.Spec PyProof.Rows L2 Vs
local macro_rules | `(tactic| walk_at "vpos") => `(tactic| first | decide | omega)
local macro_rules | `(tactic| walk_at "vdiv") => `(tactic| first | exact ⟨by decide, by decide⟩ | (constructor <;> omega))
local macro_rules | `(tactic| walk_at "vpow") => `(tactic| exact ⟨by decide, by decide, by decide⟩)
local macro_rules | `(tactic| walk_at "vmul") => `(tactic| first | exact mulL ⟨by decide, by decide⟩ | exact mulR ⟨by decide, by decide⟩ | exact mulL (by constructor <;> omega) | exact mulR (by constructor <;> omega))
local macro_rules | `(tactic| walk_at "vlen") => `(tactic| first | exact sz_ok (Nat.le_of_ble_eq_true rfl) | exact sz_lt (Nat.le_of_ble_eq_true rfl) | (refine sz_ok ?_; simp only [List.length_append, List.length_cons, List.length_nil, List.length_map]; omega) | (refine sz_lt ?_; simp only [List.length_append, List.length_cons, List.length_nil, List.length_map]; omega))
local macro_rules | `(tactic| walk_at "vrng") => `(tactic| (refine ⟨?_, ?_⟩ <;> omega))
local macro_rules | `(tactic| walk_at "vix") => `(tactic| rfl)
local macro_rules | `(tactic| walk_at "vixn") => `(tactic| first | rfl | exact ixN_at (by omega) (by omega))
local macro_rules | `(tactic| walk_at "vkb") => `(tactic| decide +kernel)
local macro_rules | `(tactic| walk_at "vty") => `(tactic| first | exact .int | exact .bl | exact .lst | exact .str | exact .tup | exact .non | exact .own .z | exact tyd_as (by assumption))
local macro_rules | `(tactic| walk_at "vkit") => `(tactic| assumption)
local macro_rules | `(tactic| walk_at "vrep") => `(tactic| (refine ⟨by omega, by omega, ?_⟩; first | decide | (refine sz_ok ?_; simp only [List.length_cons, List.length_nil]; omega)))
section
variable {X : Cx} {F0 : Hp}
/-! what is due -/
abbrev It := List Int × List (Int × Int)
def celI (it : It) : List Int := tcell it.1 it.2
def seg (fs : List FT) (t : Int) (s : Nat) : FT := (fs.getD s []).filter fun x => decide ((s : Int) + x.1 = t)
def dueI (Cs : List (List Int)) (fs : List FT) (t : Int) : List It := (List.range Cs.length).flatMap fun s => (seg fs t s).map fun x => (Cs.getD s [], x.2)
def dueB (fs : List FT) (a : Nat) (t : Int) : List Bool := (List.range a).flatMap fun s => (seg fs t s).map fitA
theorem dueI_b {Cs : List (List Int)} {fs : List FT} {t : Int} : (dueI Cs fs t).map (fun it => decide (it.2.length ≤ 2)) = dueB fs Cs.length t := by
  unfold dueI dueB
  rw [List.map_flatMap]
  congr 1
  funext s
  rw [List.map_map]
  rfl
theorem fm_congr {α β : Type} {f g : α → List β} : ∀ {xs : List α}, (∀ x ∈ xs, f x = g x) → xs.flatMap f = xs.flatMap g
  | [], _ => rfl
  | x :: xs, h => by rw [List.flatMap_cons, List.flatMap_cons, h x (List.mem_cons_self ..), fm_congr fun y hy => h y (List.mem_cons_of_mem _ hy)]
theorem dueI_app {Cs : List (List Int)} {c : List Int} {fs : List FT} {t : Int} : (dueI (Cs ++ [c]) fs t).map celI = (dueI Cs fs t).map celI ++ arrs c (Cs.length : Int) (fs.getD Cs.length []) t := by
  unfold dueI
  rw [List.length_append, show Cs.length + [c].length = Cs.length + 1 from rfl, List.range_succ, List.flatMap_append, List.map_append]
  congr 1
  · congr 1
    refine fm_congr fun s hs => ?_
    rw [List.mem_range] at hs
    have e : (Cs ++ [c]).getD s [] = Cs.getD s [] := by rw [List.getD_eq_getElem?_getD, List.getElem?_append_left hs, ← List.getD_eq_getElem?_getD]
    rw [e]
  · rw [List.flatMap_singleton, List.map_map, show (Cs ++ [c]).getD Cs.length [] = c by rw [List.getD_eq_getElem?_getD, List.getElem?_append_right (Nat.le_refl _), Nat.sub_self]; rfl]
    rfl
theorem dueI_mem {Cs : List (List Int)} {fs : List FT} {t : Int} {it : It} (h : it ∈ dueI Cs fs t) : it.1 ∈ Cs ∧ ∃ f ∈ fs, ∃ x ∈ f, it.2 = x.2 := by
  unfold dueI at h
  obtain ⟨s, hs, h2⟩ := List.mem_flatMap.mp h
  obtain ⟨x, hx, rfl⟩ := List.mem_map.mp h2
  rw [List.mem_range] at hs
  unfold seg at hx
  have hx := (List.mem_filter.mp hx).1
  have hl : s < fs.length := Classical.byContradiction fun z => by
    rw [List.getD_eq_getElem?_getD, List.getElem?_eq_none (by omega)] at hx
    cases hx
  refine ⟨?_, fs[s], List.getElem_mem _, x, ?_, rfl⟩
  · show Cs.getD s [] ∈ Cs
    rw [List.getD_eq_getElem?_getD, List.getElem?_eq_getElem hs]
    exact List.getElem_mem _
  · rw [List.getD_eq_getElem?_getD, List.getElem?_eq_getElem hl] at hx
    exact hx
/-- only the last ticks' cells can come -/
theorem dueB_cut {fs : List FT} {late lo a : Nat} {t : Int} (hf : ∀ f ∈ fs, goodF late f = true) (hlo : lo ≤ a) (ht : 0 < lo → (lo : Int) + late ≤ t) : dueB fs a t = (List.range (a - lo)).flatMap fun j => (seg fs t (lo + j)).map fitA := by
  unfold dueB
  obtain ⟨d, rfl⟩ : ∃ d, a = lo + d := ⟨a - lo, by omega⟩
  rw [Nat.add_sub_cancel_left, List.range_add, List.flatMap_append, List.flatMap_map]
  have e0 : ((List.range lo).flatMap fun s => (seg fs t s).map fitA) = [] := by
    rw [List.flatMap_eq_nil_iff]
    intro s hs
    rw [List.mem_range] at hs
    rw [List.map_eq_nil_iff]
    unfold seg
    rw [List.filter_eq_nil_iff]
    intro x hx
    have hl : s < fs.length := Classical.byContradiction fun z => by
      rw [List.getD_eq_getElem?_getD, List.getElem?_eq_none (by omega)] at hx
      cases hx
    rw [List.getD_eq_getElem?_getD, List.getElem?_eq_getElem hl] at hx
    have h2 := hf _ (List.getElem_mem hl)
    unfold goodF at h2
    rw [Bool.and_eq_true, List.all_eq_true] at h2
    have h3 := h2.2 x hx
    unfold goodX at h3
    simp only [Bool.and_eq_true, decide_eq_true_eq] at h3 ⊢
    have := ht (by omega)
    omega
  rw [e0, List.nil_append]
theorem eqv_bl {b : Bool} : PyData.eqv (.bool b) (.bool true) = b := by
  cases b <;> simp [PyData.eqv]
theorem any_bl {bs : List Bool} : (bs.map PyData.bool).any (fun z => PyData.eqv z (.bool true)) = bs.any id := by
  rw [List.any_map]
  congr 1
  funext b
  exact eqv_bl
theorem dpds_bl {L : Lg} {bs : List Bool} : Dpds L (bs.map D.bl) (bs.map PyData.bool) := dpds_map fun _ => .bl
theorem shp_bls {bs : List Bool} : Shp 1 (.list (bs.map PyData.bool)) := shp_lst (shp_all fun _ => shp_bl)
theorem seg_len {fs : List FT} {late t : Int} (hf : ∀ f ∈ fs, goodF late f = true) {s : Nat} : (seg fs t s).length ≤ 3 := by
  unfold seg
  refine Nat.le_trans (List.length_filter_le ..) ?_
  by_cases hl : s < fs.length
  · rw [List.getD_eq_getElem?_getD, List.getElem?_eq_getElem hl]
    have h2 := hf _ (List.getElem_mem hl)
    unfold goodF at h2
    simp only [Bool.and_eq_true, decide_eq_true_eq] at h2
    exact h2.1
  · rw [List.getD_eq_getElem?_getD, List.getElem?_eq_none (by omega)]
    exact Nat.zero_le _
/-- turned signs: at unlike places, by no turn round -/
theorem goodT_tns {ts : List (Int × Int)} (h : goodT ts = true) : Tns (ts.map fun t => (t.1.toNat, t.2)) ∧ ts.length ≤ 4 := by
  unfold goodT at h
  simp only [Bool.and_eq_true, decide_eq_true_eq] at h
  have key : ∀ {ts : List (Int × Int)} {l : Int}, -1 ≤ l → okT l ts = true → (∀ t ∈ ts, l < t.1 ∧ t.1 < 24 ∧ 1 ≤ t.2 ∧ t.2 ≤ 96) ∧ ((ts.map fun t => (t.1.toNat, t.2)).map (·.1)).Nodup := by
    intro ts
    induction ts with
    | nil => intro l _ _; exact ⟨fun t ht => (by cases ht), List.nodup_nil⟩
    | cons s ts ih =>
      intro l hl h
      unfold okT okA at h
      simp only [Bool.and_eq_true, decide_eq_true_eq] at h
      obtain ⟨i1, i2⟩ := ih (l := s.1) (by omega) h.2
      refine ⟨fun t ht => ?_, ?_⟩
      · rcases List.mem_cons.mp ht with rfl | ht
        · omega
        · have := i1 t ht
          omega
      · rw [List.map_cons, List.map_cons, List.nodup_cons]
        refine ⟨fun z => ?_, i2⟩
        obtain ⟨t', ht', e⟩ := List.mem_map.mp z
        obtain ⟨t, ht, rfl⟩ := List.mem_map.mp ht'
        have := i1 t ht
        simp only at e
        omega
  obtain ⟨k1, k2⟩ := key (l := -1) (by decide) h.2
  refine ⟨⟨k2, fun t ht => ?_⟩, h.1⟩
  obtain ⟨s, hs, rfl⟩ := List.mem_map.mp ht
  have := k1 s hs
  show s.1.toNat < 24 ∧ s.2 % 97 ≠ 0
  omega
theorem told_ok {it : It} (hc : okc 24 it.1) (hs : sld it.1) (hg : goodT it.2 = true) : okc 24 (celI it) ∧ (Md (celI it) none → decide (it.2.length ≤ 2) = false) ∧ (∀ ys, Md (celI it) (some ys) → decide (it.2.length ≤ 2) = true) := by
  obtain ⟨h1, h4⟩ := goodT_tns hg
  refine ⟨add_okc hc, fun hm => ?_, fun ys hm => ?_⟩
  · refine decide_eq_false fun z => ?_
    exact (md_few hc hs (by rw [List.length_map]; exact z)).1 hm
  · refine decide_eq_true (Classical.byContradiction fun z => ?_)
    exact md_many hc hs h1 (by rw [List.length_map]; omega) (by rw [List.length_map]; omega) hm
def heardL (fs : List FT) (late : Nat) : List Bool := (List.range (fs.length + late + 1)).map fun t => (dueB fs (min t fs.length) (t : Int)).any id
end
end K21


set_option Elab.async false
set_option linter.all false
set_option maxRecDepth 100000
set_option maxHeartbeats 4000000
namespace K21
open PySem PySem.Spec PyProof.Rows L2 Vs
local macro_rules | `(tactic| walk_at "vpos") => `(tactic| first | decide | omega)
local macro_rules | `(tactic| walk_at "vdiv") => `(tactic| first | exact ⟨by decide, by decide⟩ | (constructor <;> omega))
local macro_rules | `(tactic| walk_at "vpow") => `(tactic| exact ⟨by decide, by decide, by decide⟩)
local macro_rules | `(tactic| walk_at "vmul") => `(tactic| first | exact mulL ⟨by decide, by decide⟩ | exact mulR ⟨by decide, by decide⟩ | exact mulL (by constructor <;> omega) | exact mulR (by constructor <;> omega))
local macro_rules | `(tactic| walk_at "vlen") => `(tactic| first | exact sz_ok (Nat.le_of_ble_eq_true rfl) | exact sz_lt (Nat.le_of_ble_eq_true rfl) | (refine sz_ok ?_; simp only [List.length_append, List.length_cons, List.length_nil, List.length_map]; omega) | (refine sz_lt ?_; simp only [List.length_append, List.length_cons, List.length_nil, List.length_map]; omega))
local macro_rules | `(tactic| walk_at "vrng") => `(tactic| (refine ⟨?_, ?_⟩ <;> omega))
local macro_rules | `(tactic| walk_at "vix") => `(tactic| rfl)
local macro_rules | `(tactic| walk_at "vixn") => `(tactic| first | rfl | exact ixN_at (by omega) (by omega))
local macro_rules | `(tactic| walk_at "vkb") => `(tactic| decide +kernel)
local macro_rules | `(tactic| walk_at "vty") => `(tactic| first | exact .int | exact .bl | exact .lst | exact .str | exact .tup | exact .non | exact .own .z | exact tyd_as (by assumption))
local macro_rules | `(tactic| walk_at "vkit") => `(tactic| assumption)
local macro_rules | `(tactic| walk_at "vrep") => `(tactic| (refine ⟨by omega, by omega, ?_⟩; first | decide | (refine sz_ok ?_; simp only [List.length_cons, List.length_nil]; omega)))
section
variable {X : Cx} {F0 : Hp}
theorem get_mid2 {α : Type} {x y z : α} {B : List α} : ∀ {A : List α}, Get (A ++ y :: z :: x :: B) (A.length + 2) x
  | [] => .s (.s .z)
  | _ :: A => .s (get_mid2 (A := A))
theorem set_mid2 {α : Type} {x x' y z : α} {B : List α} : ∀ {A : List α}, (A ++ y :: z :: x :: B).set (A.length + 2) x' = A ++ y :: z :: x' :: B
  | [] => rfl
  | a :: A => congrArg (a :: ·) (set_mid2 (A := A))
theorem sld_cel {xs : List Int} (h : xs.length = 18) : sld (celOf xs) := fun m h1 h2 => by
  have := celOf_sums h ⟨m - 1, by omega⟩
  have e : m - 1 + 1 = m := by omega
  rwa [show ((⟨m - 1, by omega⟩ : Fin 6).val + 1) = m from e] at this
def unI : D → Int
  | .int i => i
  | _ => 0
def unIs (ds : List D) : List Int := ds.map unI
theorem unIs_app {ds : List D} {v : Int} : unIs (ds ++ [D.int v]) = unIs ds ++ [v] := by
  unfold unIs
  rw [List.map_append]
  rfl
/-! _law_heard -/
def S_law_heard (K : PySem.W.Frag) : SpD := fun ds L q _ => ∃ (ns : List Int) (fs : List FT) (late : Nat), ds = [.lst (dI ns), .lst (fsD fs), .int (late : Int)] ∧ okL late ∧ (∀ f ∈ fs, goodF late f = true) ∧ fs.length ≤ 62 ∧ ∀ L', q (.lst ((heardL fs late).map D.bl)) L'
theorem b_law_heard {ds : List D} {L : Lg} {q : D → Lg → Prop} {e : Xc → Lg → Prop} (c : Cf X (["script", "fates", "late", "air", "heard_at", "tick", "came", "due", "start", "pot"] : List Str) (["told", "delay", "turns", "k"] : List Str) (defScope (top 56)) F0 (fun y _ L' => e y L')) (T : Tx X.K X.mg) (hr : Room 6 X.A)
    (G_Air : MkX X 2 "Air" (He.ga X.K "Air") (["self", "late"] : List Str) (S_init X.K)) (G_Air_come : MetX X 1 (He.ga X.K "Air") "come" (["self", "tick"] : List Str) (S_come X.K)) (G_Air_give : MetX X 3 (He.ga X.K "Air") "give" (["self", "cell", "fate", "tick"] : List Str) (S_give X.K))
    (G_is_readable : CalX X 6 "is_readable" (["cell"] : List Str) (S_is_readable X.K)) (G_sealed : CalX X 2 "sealed" (["signs"] : List Str) (S_sealed X.K)) (G__law_take : CalX X 1 "_law_take" (["pot", "size"] : List Str) S_take)
    (G__law_pot : CalX X 1 "_law_pot" (["cell"] : List Str) S_law_pot) (G__law_cell : CalX X 1 "_law_cell" (["script", "k"] : List Str) S_law_cell)
    (h : S_law_heard X.K ds L q e) :
    BK X F0 (defBody (top 56)) (ds.map some ++ List.replicate 11 none) L { nx := fun _ L' => q .non L', rt := q } := by
  obtain ⟨ns, fs, late, rfl, hla, hfg, hfl, h1⟩ := h
  have hu := hr.units
  have hu65 : X.A.units + 65 < cLine := by have := hr.un; omega
  refine bk_cons (sk_set c.toCn (ek_make c.tk G_Air (hr.mono (by decide)) (ea_cons (ek_n c.toCn (.s (.s .z)) (ea_nil (fun pa => ⟨pa, _, _, rfl, rfl, hla, fun dpa => ⟨rfl, ⟨_, (.s (.s (.s .z))), ?_⟩⟩⟩)))) (c.toCn.gl)))
  refine bk_cons (sk_set c.toCn (ek_lstO (ea_nil (⟨(by walk_at "vlen"), fun p_heard_at => ⟨_, (.s (.s (.s (.s .z)))), ?_⟩⟩))))
  refine bk_lg (L := arW X.K pa dpa late [] [] ((p_heard_at, .lst []) :: L)) (.of_perm (List.perm_middle (l₁ := [_, _]))) ?_
  refine bk_cons (sk_for c (ei_range1 T.no_range (c.toCn.gl) (ek_add (ek_add (ek_len T.no_len (c.toCn.gl) (ek_n c.toCn (.s .z) (⟨_, Or.inl .lst, ⟨_, rfl, ek_n c.toCn (.s (.s .z)) (⟨_, rfl, ⟨_, rfl, ek_int (⟨_, rfl, ⟨_, rfl, (by rw [fsD_len]; unfold okL at hla; omega), ⟨fun i Γ L' => ∃ (M : ArM) (kvs : List (Key × D)) (Cs : List (List Int)) (w1 w2 w3 w4 w5 w6 w7 w8 w9 : Option D), Γ = [some (.lst (dI ns)), some (.lst (fsD fs)), some (.int (late : Int)), some (.ref pa), some (.ref p_heard_at), w1, w2, w3, w4, w5, w6, w7, w8, w9] ∧ L' = arW X.K pa dpa late M kvs ((p_heard_at, .lst (((heardL fs late).take i).map D.bl)) :: L) ∧ ArOK (3 * i) (3 * i) M kvs ∧ Cs.length = min i fs.length ∧ (∀ c ∈ Cs, okc 24 c ∧ sld c) ∧ ∀ t : Int, (i : Int) ≤ t → vM M t = (dueI Cs fs t).map celI, ?_, fun F1 c i d Γ L hd hP => ?_, fun Γ L hP => ?_⟩⟩⟩)⟩⟩)⟩⟩)))))))
  · exact ⟨[], [], [], none, none, none, none, none, none, none, none, none, rfl, rfl, ⟨fun _ => rfl, Nat.zero_le _, fun m hm => by cases hm⟩, (Nat.zero_min _).symm, fun c hc => (by cases hc), fun t _ => rfl⟩
  · obtain ⟨M, kvs, Cs, w1, w2, w3, w4, w5, w6, w7, w8, w9, rfl, rfl, har, hCl, hCs, hv⟩ := hP
    obtain ⟨hi, rfl⟩ := range_nat hd
    rw [fsD_len] at hi
    have hi : i < fs.length + late + 1 := by omega
    unfold okL at hla
    have hga : Get (arW X.K pa dpa late M kvs ((p_heard_at, .lst (((heardL fs late).take i).map D.bl)) :: L)) ((arL M).length + 1) (pa, C.obj (airC X.K) [("late", .int late), ("coming", .ref dpa)]) := get_mid1
    have hvi : vM M (0 + (i : Int)) = (dueI Cs fs (0 + (i : Int))).map celI := hv _ (by omega)
    have hmem : ∀ it ∈ dueI Cs fs (0 + (i : Int)), okc 24 (celI it) ∧ (Md (celI it) none → decide (it.2.length ≤ 2) = false) ∧ (∀ ys, Md (celI it) (some ys) → decide (it.2.length ≤ 2) = true) := fun it hit => by
      obtain ⟨m1, f, hf, x, hx, e⟩ := dueI_mem hit
      have hg := hfg f hf
      unfold goodF at hg
      rw [Bool.and_eq_true, List.all_eq_true] at hg
      have h3 := hg.2 x hx
      unfold goodX at h3
      rw [Bool.and_eq_true] at h3
      exact told_ok (hCs _ m1).1 (hCs _ m1).2 (by rw [e]; exact h3.2)
    have hdl : (dueI Cs fs (0 + (i : Int))).length ≤ 3 * i := by
      cases hm : atK (0 + (i : Int)) M with
      | none =>
        have e := congrArg List.length hvi
        rw [vM_none hm, List.length_map] at e
        simp only [List.length_nil] at e
        omega
      | some m =>
        obtain ⟨a, cs⟩ := m
        obtain ⟨_, _, _, hmm⟩ := ar_get (cs' := []) hm
        have e := congrArg List.length hvi
        rw [vM_some hm, List.length_map] at e
        have := har.big _ hmm
        simp only at this
        omega
    have hdb : (dueI Cs fs (0 + (i : Int))).map (fun it => decide (it.2.length ≤ 2)) = dueB fs (min i fs.length) (0 + (i : Int)) := by rw [dueI_b, hCl]
    generalize dueI Cs fs (0 + (i : Int)) = its at hvi hmem hdl hdb
    refine tg_n c.toCn ⟨_, (.s (.s (.s (.s (.s .z))))), ?_⟩
    refine bk_cons (sk_setLcO [("told", 10)] c.toCn c.calm (by decide +kernel) (ei_list (ek_meth c.tk G_Air_come (hr.mono (by decide)) (ek_n c.toCn (.s (.s (.s .z))) (⟨_, _, _, rfl, hga, rfl, ea_cons (ek_n c.toCn (.s (.s (.s (.s (.s .z))))) (ea_nil (⟨_, _, _, _, _, _, _, _, _, rfl, rfl, har, fun M2 kvs2 har2 hv2 => ⟨_, rfl, ⟨fun n acc Lc => Lc = arW X.K pa dpa late M2 kvs2 ((p_heard_at, .lst (((heardL fs late).take i).map D.bl)) :: L) ∧ acc = ((its.take n).map (fun it => decide (it.2.length ≤ 2))).map D.bl, ?_, ?_, ?_, fun acc L Dp hP hacc => ⟨_, (.s (.s (.s (.s (.s (.s .z)))))), ?_⟩⟩⟩⟩)))⟩)))))
    · exact ⟨rfl, rfl⟩
    · rw [hvi]
      unfold cLs
      rw [List.length_map, List.length_map]
      omega
    · intro F1 n d acc Lc Dp hd hacc hP
      obtain ⟨rfl, rfl⟩ := hP
      rw [hvi] at hd
      unfold cLs at hd
      rw [List.map_map, List.getElem?_map] at hd
      cases hn : its[n]? with
      | none => rw [hn] at hd; cases hd
      | some it =>
        rw [hn] at hd
        obtain rfl : D.lst (dI (celI it)) = d := Option.some.inj hd
        have hit := hmem it (List.mem_of_getElem? hn)
        intro X' cb hX'
        obtain ⟨s0, H0, C0, cl, fp, rfl⟩ := hX'
        refine tb_n cb ⟨_, (.s (.s (.s (.s (.s (.s (.s (.s (.s (.s .z)))))))))), fun X' cb hX' => ?_⟩
        obtain ⟨s0, H0, C0, cl, fp, rfl⟩ := hX'
        refine es_nil ⟨fun _ X' cb hX' => ?_, fun h => nomatch h⟩
        obtain ⟨s0, H0, C0, cl, fp, rfl⟩ := hX'
        refine ek_call takesZ0 G_is_readable (hr.mono (by decide)) (ea_cons (ek_b cb (.s (.s (.s (.s (.s (.s (.s (.s (.s (.s .z)))))))))) (ea_nil (⟨_, celI it, decide (it.2.length ≤ 2), rfl, .lst, fun _ => ⟨hit.2.1, hit.2.2, ?_⟩, fun z => absurd hit.1 z⟩)))) cb.gl
        refine ⟨_, rfl, rfl, ?_⟩
        rw [List.take_succ, hn]
        simp only [Option.toList, List.map_append, List.map_cons, List.map_nil]
    obtain ⟨rfl, rfl⟩ := hP
    rw [show (cLs (vM M (0 + (i : Int)))).length = its.length by rw [hvi]; unfold cLs; rw [List.length_map, List.length_map], List.take_length, hdb]
    refine bk_frz (.s (.s (.s (.s (.s (.s .z)))))) .z (.s (.s (.s (.s (.s (.s .z)))))) ?_
    refine bk_cons (sk_set c.toCn (ek_lstO (ea_nil (⟨(by walk_at "vlen"), fun p_due => ⟨_, (.s (.s (.s (.s (.s (.s (.s .z))))))), ?_⟩⟩))))
    have hmx : (if (0 : Int) + (i : Int) - (late : Int) > 0 then (0 : Int) + (i : Int) - (late : Int) else 0) = ((i - late : Nat) : Int) := by split <;> omega
    have hmn : (if ((fsD fs).length : Int) < 0 + (i : Int) then ((fsD fs).length : Int) else 0 + (i : Int)) = ((min i fs.length : Nat) : Int) := by rw [fsD_len]; split <;> omega
    refine bk_cons (sk_for c (ei_range2 T.no_range (c.toCn.gl) (ek_max2 c.calm T.no_max (c.toCn.gl) (ek_int (⟨_, rfl, ek_sub (ek_n c.toCn (.s (.s (.s (.s (.s .z))))) (⟨_, rfl, ek_n c.toCn (.s (.s .z)) (⟨_, rfl, ⟨_, rfl, ⟨_, rfl, ek_min2 c.calm T.no_min (c.toCn.gl) (ek_n c.toCn (.s (.s (.s (.s (.s .z))))) (⟨_, rfl, ek_len T.no_len (c.toCn.gl) (ek_n c.toCn (.s .z) (⟨_, Or.inl .lst, ⟨_, rfl, ⟨_, rfl, (by rw [hmx, hmn]; omega), ⟨fun j Γ L' => ∃ (bs : List Bool) (w4 w5 w6 w7 w8 w9 : Option D), Γ = [some (.lst (dI ns)), some (.lst (fsD fs)), some (.int (late : Int)), some (.ref pa), some (.ref p_heard_at), some (.int (0 + (i : Int))), some (.lst ((dueB fs (min i fs.length) (0 + (i : Int))).map D.bl)), some (.ref p_due), w4, w5, w6, w7, w8, w9] ∧ L' = (p_due, .lst (bs.map D.bl)) :: arW X.K pa dpa late M2 kvs2 ((p_heard_at, .lst (((heardL fs late).take i).map D.bl)) :: L) ∧ bs = ((List.range j).flatMap fun s => (seg fs (0 + (i : Int)) (i - late + s)).map fitA) ∧ bs.length ≤ 3 * j, ?_, fun F1 c j d Γ L hd hP => ?_, fun Γ L hP => ?_⟩⟩⟩⟩))⟩))⟩⟩⟩)⟩))⟩)))))
    · exact ⟨[], _, _, _, _, _, _, rfl, rfl, rfl, Nat.zero_le _⟩
    · obtain ⟨bs, w4, w5, w6, w7, w8, w9, rfl, rfl, hbs, hbl⟩ := hP
      rw [hmx, hmn] at hd
      obtain ⟨hj, rfl⟩ := range_nat hd
      have hjl : i - late + j < fs.length := by omega
      obtain ⟨f, hf⟩ : ∃ f, fs[i - late + j]? = some f := ⟨_, List.getElem?_eq_getElem hjl⟩
      have hsg : seg fs (0 + (i : Int)) (i - late + j) = f.filter fun x => decide (((i - late + j : Nat) : Int) + x.1 = 0 + (i : Int)) := by
        unfold seg
        rw [List.getD_eq_getElem?_getD, hf]
        rfl
      have hsl := seg_len (t := 0 + (i : Int)) (s := i - late + j) hfg
      have hf3 : f.length ≤ 3 := by
        have h2 := hfg f (List.mem_of_getElem? hf)
        unfold goodF at h2
        simp only [Bool.and_eq_true, decide_eq_true_eq] at h2
        exact h2.1
      have hix : atI (fsD fs) (((i - late : Nat) : Int) + (j : Int)) = some (ftD f) := by
        have : ((i - late : Nat) : Int) + (j : Int) = ((i - late + j : Nat) : Int) := by omega
        rw [this]
        unfold L2.atI L2.ixN fsD
        rw [List.length_map, if_pos (by omega), if_pos (by omega), Int.toNat_natCast]
        show (fs.map ftD)[_]? = _
        rw [List.getElem?_map, hf]
        rfl
      refine tg_n c.toCn ⟨_, (.s (.s (.s (.s (.s (.s (.s (.s .z)))))))), ?_⟩
      refine bk_one (sk_expr (ek_ext (ek_n c.toCn (.s (.s (.s (.s (.s (.s (.s .z))))))) (⟨_, _, rfl, .own .z, ek_lc [("delay", 11), ("turns", 12)] c.toCn c.calm (by decide +kernel) (ei_p (ei_tup (ek_ix (ek_n c.toCn (.s .z) (ek_n c.toCn (.s (.s (.s (.s (.s (.s (.s (.s .z)))))))) (⟨_, _, _, .lst, rfl, (hix), ⟨_, rfl, ⟨f.map fun x => if decide (((i - late : Nat) : Int) + (j : Int) + x.1 = 0 + (i : Int)) then some (D.bl (fitA x)) else none, ?_, ?_, ?_, ⟨_, _, _, _, .z, Or.inl .lst, .z, (by rw [fm_map, List.length_map, List.length_map]; refine sz_ok ?_; have e := congrArg List.length hsg; rw [show ((i - late + j : Nat) : Int) = ((i - late : Nat) : Int) + (j : Int) by omega] at e; omega), ?_⟩⟩⟩⟩))) (fun _ _ => rfl))))⟩))))
      · rw [List.length_map, List.length_map]
      · rw [List.length_map]
        omega
      · intro F1 n d e acc Dp hd he
        obtain ⟨x, hx, rfl⟩ := ft_get hd
        have he' := map_at hx he
        subst he'
        have e1 : fitA x = decide (((x.2.map prD).length : Int) < 3) := by
          unfold fitA
          rw [List.length_map]
          exact decide_eq_decide.mpr (by omega)
        intro X' cb hX'
        obtain ⟨s0, H0, C0, cl, fp, rfl⟩ := hX'
        refine tb_tup cb ⟨_, rfl, rfl, tnb_c cb ⟨_, (.s (.s (.s (.s (.s (.s (.s (.s (.s (.s (.s .z))))))))))), tnb_c cb ⟨_, (.s (.s (.s (.s (.s (.s (.s (.s (.s (.s (.s (.s .z)))))))))))), tnb_z ⟨rfl, fun X' cb hX' => ?_⟩⟩⟩⟩
        obtain ⟨s0, H0, C0, cl, fp, rfl⟩ := hX'
        refine es_one (et_eqI (ek_add (ek_b cb (.s (.s (.s (.s (.s (.s (.s (.s .z)))))))) (⟨_, rfl, ek_b cb (.s (.s (.s (.s (.s (.s (.s (.s (.s (.s (.s .z))))))))))) (⟨_, rfl, ⟨_, rfl, ek_b cb (.s (.s (.s (.s (.s .z))))) (⟨_, rfl, ⟨rfl, fun ht X' cb hX' => ?_, fun ht => ?_⟩⟩)⟩⟩)⟩))))
        · obtain ⟨s0, H0, C0, cl, fp, rfl⟩ := hX'
          refine ek_lt (ek_len T.no_len cb.gl (ek_b cb (.s (.s (.s (.s (.s (.s (.s (.s (.s (.s (.s (.s .z)))))))))))) (⟨_, Or.inr rfl, ⟨_, rfl, ek_int (⟨_, rfl, ?_⟩)⟩⟩)))
          refine ⟨rfl, ?_⟩
          rw [if_pos ht, e1]
        · rw [if_neg (by rw [ht]; decide)]
      · refine ⟨bs ++ (seg fs (0 + (i : Int)) (i - late + j)).map fitA, _, _, _, _, _, _, rfl, ?_, ?_, ?_⟩
        · rw [fm_map, hsg, List.map_append, List.map_map, show ((i - late + j : Nat) : Int) = ((i - late : Nat) : Int) + (j : Int) by omega]
          rfl
        · rw [hbs, List.range_succ, List.flatMap_append, List.flatMap_singleton]
        · rw [List.length_append, List.length_map]
          omega
    · obtain ⟨bs, w4, w5, w6, w7, w8, w9, rfl, rfl, hbs, hbl⟩ := hP
      rw [hmx, hmn, rangeD_len, show (((min i fs.length : Nat) : Int) - ((i - late : Nat) : Int)).toNat = min i fs.length - (i - late) by omega] at hbs
      rw [← dueB_cut hfg (by omega) (by omega)] at hbs
      subst hbs
      generalize hb : dueB fs (min i fs.length) (0 + (i : Int)) = bs
      have hgh : Get ((p_due, C.lst (bs.map D.bl)) :: arW X.K pa dpa late M2 kvs2 ((p_heard_at, .lst (((heardL fs late).take i).map D.bl)) :: L)) ((arL M2).length + 2 + 1) (p_heard_at, .lst (((heardL fs late).take i).map D.bl)) := .s get_mid2
      refine bk_cons (sk_if (et_neD hu (ek_n c.toCn (.s (.s (.s (.s (.s (.s .z)))))) (ek_n c.toCn (.s (.s (.s (.s (.s (.s (.s .z))))))) (⟨_, _, (by first | exact .lst dpds_bl | exact .own .z dpds_bl), (by first | exact .lst dpds_bl | exact .own .z dpds_bl), (shp_ok shp_bls (by decide)), (shp_ok shp_bls (by decide)), ⟨fun ht => ?_, fun ht => ?_⟩⟩)))))
      · exfalso
        rw [shp_refl shp_bls] at ht
        cases ht
      · refine bk_nil ?_
        refine bk_cons (sk_expr (ek_app (ek_n c.toCn (.s (.s (.s (.s .z)))) (⟨_, _, rfl, .own hgh, ek_inD hu65 (ek_bl (ek_n c.toCn (.s (.s (.s (.s (.s (.s .z)))))) (⟨_, _, (by first | exact .bl | exact .lst dpds_bl), (by first | exact .bl | exact .lst dpds_bl), (by first | exact shp_ok shp_bls (by decide) | exact shp_ok (k := 0) shp_bl (by decide)), (by first | exact shp_ok shp_bls (by decide) | exact shp_ok (k := 0) shp_bl (by decide)), ⟨_, _, _, hgh, hgh.put, (sz_lt (by rw [List.length_map, List.length_take]; omega)), ?_⟩⟩)))⟩))))
        have hbt : bs.any id = ((heardL fs late)[i]?).getD false ∧ i < (heardL fs late).length := by
          unfold heardL
          rw [List.length_map, List.length_range, List.getElem?_map, List.getElem?_range hi, ← hb]
          refine ⟨?_, hi⟩
          rw [Int.zero_add]
          rfl
        refine bk_lg (L := arW X.K pa dpa late M2 kvs2 ((p_heard_at, .lst (((heardL fs late).take (i + 1)).map D.bl)) :: L)) (.of_sub ?_) ?_
        · show List.Sublist _ ((p_due, _) :: (arL M2 ++ _ :: _ :: _ :: L).set ((arL M2).length + 2) _)
          rw [set_mid2]
          refine List.Sublist.cons _ ?_
          have e1 : ((heardL fs late).take i).map D.bl ++ [D.bl ((bs.map PyData.bool).any fun z => PyData.eqv z (.bool true))] = ((heardL fs late).take (i + 1)).map D.bl := by
            rw [any_bl, List.take_succ, List.map_append, hbt.1]
            congr 1
            rw [List.getElem?_eq_getElem hbt.2]
            rfl
          rw [e1]
          exact List.Sublist.refl _
        have hv3 : ∀ t : Int, ((i + 1 : Nat) : Int) ≤ t → vM M2 t = (dueI Cs fs t).map celI := fun t ht => by
          rw [hv2, if_neg (by omega)]
          exact hv t (by omega)
        have hga : Get (arW X.K pa dpa late M2 kvs2 ((p_heard_at, .lst (((heardL fs late).take (i + 1)).map D.bl)) :: L)) ((arL M2).length + 1) (pa, C.obj (airC X.K) [("late", .int late), ("coming", .ref dpa)]) := get_mid1
        refine bk_one (sk_if (et_lt (ek_n c.toCn (.s (.s (.s (.s (.s .z))))) (⟨_, rfl, ek_len T.no_len (c.toCn.gl) (ek_n c.toCn (.s .z) (⟨_, Or.inl .lst, ⟨_, rfl, ⟨fun ht => ?_, fun ht => ?_⟩⟩⟩))⟩))))
        · have hif : i < fs.length := by
            rw [fsD_len] at ht
            have := of_decide_eq_true ht
            omega
          obtain ⟨f, hf⟩ : ∃ f, fs[i]? = some f := ⟨_, List.getElem?_eq_getElem hif⟩
          have hix : atI (fsD fs) (0 + (i : Int)) = some (ftD f) := by
            rw [Int.zero_add]
            unfold L2.atI L2.ixN fsD
            rw [List.length_map, if_pos (by omega), if_pos (by omega), Int.toNat_natCast]
            show (fs.map ftD)[_]? = _
            rw [List.getElem?_map, hf]
            rfl
          have hgf := hfg f (List.mem_of_getElem? hf)
          refine bk_cons (sk_set c.toCn (ek_call c.tk G__law_pot (hr.mono (by decide)) (ea_cons (ek_add (ek_call c.tk G__law_cell (hr.mono (by decide)) (ea_cons (ek_n c.toCn .z (ea_cons (ek_add (ek_int (⟨_, rfl, ek_n c.toCn (.s (.s (.s (.s (.s .z))))) (⟨_, rfl, ea_nil (⟨ns, 1 + i, (by rw [show (1 + (0 + (i : Int))) = ((1 + i : Nat) : Int) by omega]), ⟨_, rfl, ek_int (⟨_, rfl, ea_nil (⟨_, rfl, fun p_pot => ⟨_, (.s (.s (.s (.s (.s (.s (.s (.s (.s .z))))))))), ?_⟩⟩)⟩)⟩⟩)⟩)⟩)))))) (c.toCn.gl)))) (c.toCn.gl)))
          generalize rest1 (ns.getD (1 + i) 0 + 1) = r0
          generalize (ns.getD (1 + i) 0 + 1) % 2147483647 = m0
          refine bk_one (sk_expr (ek_meth c.tk G_Air_give (hr.mono (by decide)) (ek_n c.toCn (.s (.s (.s .z))) (⟨_, _, _, rfl, (Get.s hga), rfl, ea_cons (ek_frz (ek_call c.tk G_sealed (hr.mono (by decide)) (ea_cons (ek_lcO [("k", 13)] c.toCn c.calm (by decide +kernel) (ei_range1 T.no_range (c.toCn.gl) (ek_int (⟨_, rfl, (by decide), ⟨fun n acc Lc => acc = dI (unIs acc) ∧ ((unIs acc).length = n ∧ ∀ v ∈ unIs acc, 0 ≤ v ∧ v ≤ 96) ∧ ∃ (r' n' : Int), (0 ≤ n' ∧ n' ≤ n) ∧ Lc = (p_pot, .lst (dI [r', n', m0])) :: arW X.K pa dpa late M2 kvs2 ((p_heard_at, .lst (((heardL fs late).take (i + 1)).map D.bl)) :: L), ?_, ?_, ?_, fun acc L Dp hP hacc => ea_nil (⟨_, unIs acc, rfl, (by rw [← hP.1]; exact .own .z), fun hok => fun ps => ⟨_, _, _, _, rfl, .z, ea_cons (ek_ix (ek_n c.toCn (.s .z) (ek_n c.toCn (.s (.s (.s (.s (.s .z))))) (⟨_, _, _, .lst, rfl, (hix), ea_cons (ek_n c.toCn (.s (.s (.s (.s (.s .z))))) (ea_nilS ⟨_, (by obtain ⟨_, _, r', n', _, rfl⟩ := hP; exact .of_sub (List.Sublist.cons _ (List.Sublist.cons _ (List.Sublist.refl _)))), ⟨pa, dpa, late, M2, kvs2, _, _, celOf (unIs acc), f, 0 + (i : Int), 3 * i, 3 * i, rfl, rfl, fun _ _ => .lst, okc_celOf hok, hgf, har2, by omega, by omega, fun M3 kvs3 har3 hv4 => ?_⟩⟩))⟩))) (fun _ _ => rfl))⟩, fun z => absurd (by have h18 := hP.2.1.1; rw [rangeD_len] at h18; exact ⟨by omega, hP.2.1.2⟩) z⟩)⟩⟩))))) (c.toCn.gl)))⟩))))
          · exact ⟨rfl, ⟨rfl, fun v hv => (by cases hv)⟩, _, _, ⟨by decide, by decide⟩, rfl⟩
          · decide
          · intro F1 n d acc Lc Dp hd hacc hP
            obtain ⟨e1, ⟨e2, e3⟩, r', n', hn', rfl⟩ := hP
            obtain ⟨hn18, rfl⟩ := range_nat hd
            have hn18 : n < 18 := hn18
            intro X' cb hX'
            obtain ⟨s0, H0, C0, cl, fp, rfl⟩ := hX'
            refine tb_n cb ⟨_, (.s (.s (.s (.s (.s (.s (.s (.s (.s (.s (.s (.s (.s .z))))))))))))), fun X' cb hX' => ?_⟩
            obtain ⟨s0, H0, C0, cl, fp, rfl⟩ := hX'
            refine es_nil ⟨fun _ X' cb hX' => ?_, fun h => nomatch h⟩
            obtain ⟨s0, H0, C0, cl, fp, rfl⟩ := hX'
            refine ek_call takesZ0 G__law_take (hr.mono (by decide)) (ea_cons (ek_b cb (.s (.s (.s (.s (.s (.s (.s (.s (.s .z))))))))) (ea_cons (ek_int (ea_nil (⟨_, _, _, _, _, _, rfl, .z, ⟨by decide, by decide⟩, ⟨by omega, by omega⟩, fun dg r1 n1 hd1 hn1 => ?_⟩)))))) cb.gl
            refine ⟨_, rfl, ?_, ⟨?_, fun v hv => ?_⟩, r1, n1, ⟨by omega, by omega⟩, rfl⟩
            · rw [unIs_app, ← dI_app, ← e1]
            · rw [unIs_app, List.length_append, e2]
              rfl
            · rw [unIs_app] at hv
              rcases List.mem_append.mp hv with z | z
              · exact e3 v z
              · rw [List.mem_singleton.mp z]
                omega
          · have hCi : Cs.length = i := by rw [hCl]; omega
            refine ⟨M3, kvs3, Cs ++ [celOf (unIs acc)], _, _, _, _, _, _, _, _, _, rfl, rfl, har3.mono (by omega) (by omega), ?_, fun c hc => ?_, fun t ht => ?_⟩
            · rw [List.length_append, hCi]
              show i + 1 = _
              omega
            · rcases List.mem_append.mp hc with z | z
              · exact hCs c z
              · rw [List.mem_singleton.mp z]
                exact ⟨okc_celOf hok, sld_cel (by have := hok.1; omega)⟩
            · rw [hv4, hv3 t ht, dueI_app, hCi, Int.zero_add]
              congr 2
              rw [List.getD_eq_getElem?_getD, hf]
              rfl
        · have hif : ¬ i < fs.length := by
            rw [fsD_len] at ht
            have := of_decide_eq_false ht
            omega
          refine bk_nil ⟨M2, kvs2, Cs, _, _, _, _, _, _, _, _, _, rfl, rfl, har2.mono (by omega) (by omega), by rw [hCl]; omega, hCs, hv3⟩
  · obtain ⟨M, kvs, Cs, w1, w2, w3, w4, w5, w6, w7, w8, w9, rfl, rfl, har, hCl, hCs, hv⟩ := hP
    rw [rangeD_len, fsD_len, show (((fs.length : Int) + (late : Int) + 1)).toNat = fs.length + late + 1 by omega]
    refine bk_lg (L := (p_heard_at, .lst (((heardL fs late).take (fs.length + late + 1)).map D.bl)) :: L) (.of_sub ?_) ?_
    · exact List.sublist_append_of_sublist_right (List.Sublist.cons _ (List.Sublist.cons _ (List.Sublist.refl _)))
    refine bk_frz (.s (.s (.s (.s .z)))) .z (.s (.s (.s (.s .z)))) ?_
    refine bk_one (sk_ret (ek_n c.toCn (.s (.s (.s (.s .z)))) (?_)))
    have h2 := h1 L
    rw [← List.take_of_length_le (l := heardL fs late) (i := fs.length + late + 1) (by unfold heardL; rw [List.length_map, List.length_range]; exact Nat.le_refl _)] at h2
    exact h2
end
end K21


set_option Elab.async false
set_option linter.all false
set_option maxRecDepth 100000
set_option maxHeartbeats 4000000
namespace K21
open PySem PySem.Spec PyProof.Rows L2 Vs
local macro_rules | `(tactic| walk_at "vpos") => `(tactic| first | decide | omega)
local macro_rules | `(tactic| walk_at "vdiv") => `(tactic| first | exact ⟨by decide, by decide⟩ | (constructor <;> omega))
local macro_rules | `(tactic| walk_at "vpow") => `(tactic| exact ⟨by decide, by decide, by decide⟩)
local macro_rules | `(tactic| walk_at "vmul") => `(tactic| first | exact mulL ⟨by decide, by decide⟩ | exact mulR ⟨by decide, by decide⟩ | exact mulL (by constructor <;> omega) | exact mulR (by constructor <;> omega))
local macro_rules | `(tactic| walk_at "vlen") => `(tactic| first | exact sz_ok (Nat.le_of_ble_eq_true rfl) | exact sz_lt (Nat.le_of_ble_eq_true rfl) | (refine sz_ok ?_; simp only [List.length_append, List.length_cons, List.length_nil, List.length_map]; omega) | (refine sz_lt ?_; simp only [List.length_append, List.length_cons, List.length_nil, List.length_map]; omega))
local macro_rules | `(tactic| walk_at "vrng") => `(tactic| (refine ⟨?_, ?_⟩ <;> omega))
local macro_rules | `(tactic| walk_at "vix") => `(tactic| rfl)
local macro_rules | `(tactic| walk_at "vixn") => `(tactic| first | rfl | exact ixN_at (by omega) (by omega))
local macro_rules | `(tactic| walk_at "vkb") => `(tactic| decide +kernel)
local macro_rules | `(tactic| walk_at "vty") => `(tactic| first | exact .int | exact .bl | exact .lst | exact .str | exact .tup | exact .non | exact .own .z | exact tyd_as (by assumption))
local macro_rules | `(tactic| walk_at "vkit") => `(tactic| assumption)
local macro_rules | `(tactic| walk_at "vrep") => `(tactic| (refine ⟨by omega, by omega, ?_⟩; first | decide | (refine sz_ok ?_; simp only [List.length_cons, List.length_nil]; omega)))
section
variable {X : Cx} {F0 : Hp}
theorem dueB_any {fs : List FT} {a : Nat} {t : Int} {s : Nat} {f : FT} {x : Int × List (Int × Int)} (hs : s < a) (hf : fs[s]? = some f) (hx : x ∈ f) (hfit : fitA x = true) (ht : (s : Int) + x.1 = t) : (dueB fs a t).any id = true := by
  unfold dueB
  rw [List.any_eq_true]
  refine ⟨true, List.mem_flatMap.mpr ⟨s, List.mem_range.mpr hs, List.mem_map.mpr ⟨x, ?_, hfit⟩⟩, rfl⟩
  unfold seg
  rw [List.getD_eq_getElem?_getD, hf]
  exact List.mem_filter.mpr ⟨hx, decide_eq_true ht⟩
/-- a silence of quiet ticks: no fate of lost + 1 was fit -/
theorem silent_unf {fs : List FT} {late lost i : Nat} (hg : ∀ f ∈ fs, goodF late f = true) (hi : i + lost < fs.length) (hs : ∀ t, i + 1 ≤ t → t < i + 1 + (late + lost) → (dueB fs (min t fs.length) (t : Int)).any id = false) : unf fs i (lost + 1) := fun j hj => by
  obtain ⟨f, hf⟩ : ∃ f, fs[i + j]? = some f := ⟨_, List.getElem?_eq_getElem (by omega)⟩
  refine ⟨f, hf, ?_⟩
  cases hfit : fit f with
  | false => rfl
  | true =>
    exfalso
    unfold fit at hfit
    obtain ⟨x, hx, hx2⟩ := List.any_eq_true.mp hfit
    have h2 := hg f (List.mem_of_getElem? hf)
    unfold goodF at h2
    rw [Bool.and_eq_true, List.all_eq_true] at h2
    have h3 := h2.2 x hx
    unfold goodX at h3
    simp only [Bool.and_eq_true, decide_eq_true_eq] at h3
    obtain ⟨d, hd⟩ : ∃ d : Nat, x.1 = d := ⟨x.1.toNat, by omega⟩
    have := hs (i + j + d) (by omega) (by omega)
    rw [dueB_any (s := i + j) (by omega) hf hx hx2 (by omega)] at this
    cases this
theorem cutL_mid {α : Type} {xs : List α} {a b : Nat} (h1 : a ≤ b) (h2 : b ≤ xs.length) : cutL xs (some (a : Int)) (some (b : Int)) = (xs.drop a).take (b - a) := by
  unfold cutL
  rw [HT.sIx_nat, HT.sIx_nat, Nat.min_eq_left h2, Nat.min_eq_left (show a ≤ xs.length by omega)]
/-! law -/
def S_law : SpD := fun ds L q _ => ∃ ns : List Int, ds = [.lst (dI ns)] ∧ ns.length ≤ 63 ∧ ∀ L', q (.bl true) L'
theorem b_law {ds : List D} {L : Lg} {q : D → Lg → Prop} {e : Xc → Lg → Prop} (c : Cf X (["script", "pot", "late", "lost", "fates", "heard_at", "quiet", "place", "first", "silent"] : List Str) ([] : List Str) (defScope (top 57)) F0 (fun y _ L' => e y L')) (T : Tx X.K X.mg) (hr : Room 7 X.A)
    (G__law_pot : CalX X 1 "_law_pot" (["cell"] : List Str) S_law_pot) (G__law_cell : CalX X 1 "_law_cell" (["script", "k"] : List Str) S_law_cell) (G__law_take : CalX X 1 "_law_take" (["pot", "size"] : List Str) S_take) (G__law_fates : CalX X 4 "_law_fates" (["script", "late", "lost", "kept"] : List Str) S_law_fates) (G__law_heard : CalX X 7 "_law_heard" (["script", "fates", "late"] : List Str) (S_law_heard X.K)) (G_quiet_of : CalX X 3 "quiet_of" (["measure"] : List Str) (S_quiet_of X.K)) (G_breach : CalX X 3 "breach" (["fates", "measure"] : List Str) (S_breach X.K))
    (h : S_law ds L q e) :
    BK X F0 (defBody (top 57)) (ds.map some ++ List.replicate 9 none) L { nx := fun _ L' => q .non L', rt := q } := by
  obtain ⟨ns, rfl, hns, h1⟩ := h
  have hu := hr.units
  have hu65 : X.A.units + 65 < cLine := by have := hr.un; omega
  refine bk_cons (sk_set c.toCn (ek_call c.tk G__law_pot (hr.mono (by decide)) (ea_cons (ek_call c.tk G__law_cell (hr.mono (by decide)) (ea_cons (ek_n c.toCn .z (ea_cons (ek_int (ea_nil (⟨ns, 0, rfl, ea_nil (⟨_, rfl, fun p_pot => ⟨_, (.s .z), ?_⟩⟩)⟩)))))) (c.toCn.gl))) (c.toCn.gl)))
  generalize rest1 (ns.getD 0 0) = r0
  generalize (ns.getD 0 0) % 2147483647 = m0
  refine bk_cons (sk_set c.toCn (ek_add (ek_int (⟨_, rfl, ek_call c.tk G__law_take (hr.mono (by decide)) (ea_cons (ek_n c.toCn (.s .z) (ea_cons (ek_int (ea_nil (⟨_, _, _, _, _, _, rfl, .z, ⟨by decide, by decide⟩, ⟨by omega, by omega⟩, fun dg1 r1 n1 hd1 hn1 => ⟨_, rfl, ⟨_, (.s (.s .z)), ?_⟩⟩⟩)))))) (c.toCn.gl)⟩))))
  obtain ⟨late, hlate⟩ : ∃ late : Nat, 1 + dg1 = (late : Int) := ⟨(1 + dg1).toNat, by omega⟩
  rw [hlate]
  refine bk_cons (sk_set c.toCn (ek_call c.tk G__law_take (hr.mono (by decide)) (ea_cons (ek_n c.toCn (.s .z) (ea_cons (ek_int (ea_nil (⟨_, _, _, _, _, _, rfl, .z, ⟨by decide, by decide⟩, ⟨by omega, by omega⟩, fun dg2 r2 n2 hd2 hn2 => ⟨_, (.s (.s (.s .z))), ?_⟩⟩)))))) (c.toCn.gl)))
  obtain ⟨lost, rfl⟩ : ∃ lost : Nat, dg2 = (lost : Int) := ⟨dg2.toNat, by omega⟩
  refine bk_cons (sk_set c.toCn (ek_call c.tk G__law_fates (hr.mono (by decide)) (ea_cons (ek_n c.toCn .z (ea_cons (ek_n c.toCn (.s (.s .z)) (ea_cons (ek_n c.toCn (.s (.s (.s .z))) (ea_cons (ek_eqI (ek_call c.tk G__law_take (hr.mono (by decide)) (ea_cons (ek_n c.toCn (.s .z) (ea_cons (ek_int (ea_nil (⟨_, _, _, _, _, _, rfl, .z, ⟨by decide, by decide⟩, ⟨by omega, by omega⟩, fun dg3 r3 n3 hd3 hn3 => ⟨_, rfl, ek_int (⟨_, rfl, ea_nil (⟨ns, _, _, _, rfl, by omega, hns, fun fs hfg hfl => ⟨_, (.s (.s (.s (.s .z)))), ?_⟩⟩)⟩)⟩⟩)))))) (c.toCn.gl)))))))))) (c.toCn.gl)))
  have hf3 : ∀ f ∈ fs, f.length ≤ 1000 := fun f hf => by
    have h2 := hfg f hf
    unfold goodF at h2
    simp only [Bool.and_eq_true, decide_eq_true_eq] at h2
    omega
  refine bk_cons (sk_set c.toCn (ek_call c.tk G__law_heard (hr.mono (by decide)) (ea_cons (ek_n c.toCn .z (ea_cons (ek_n c.toCn (.s (.s (.s (.s .z)))) (ea_cons (ek_n c.toCn (.s (.s .z)) (ea_nil (⟨ns, fs, late, rfl, ⟨by omega, by omega⟩, hfg, by omega, fun L2 => ⟨_, (.s (.s (.s (.s (.s .z))))), ?_⟩⟩)))))))) (c.toCn.gl)))
  refine bk_cons (sk_if (et_isN (ek_n c.toCn (.s (.s (.s (.s (.s .z))))) (⟨fun ht => ?_, fun ht => ?_⟩))))
  · cases ht
  refine bk_nil ?_
  refine bk_cons (sk_set c.toCn (ek_call c.tk G_quiet_of (hr.mono (by decide)) (ea_cons (ek_tup (ea_cons (ek_n c.toCn (.s (.s .z)) (ea_cons (ek_n c.toCn (.s (.s (.s .z))) (ea_nil (⟨(by walk_at "vlen"), ea_nil (⟨_, _, rfl, fun _ => ⟨_, (.s (.s (.s (.s (.s (.s .z)))))), ?_⟩, fun z => absurd ⟨⟨by omega, by omega⟩, by omega, by omega⟩ z⟩)⟩)))))))) (c.toCn.gl)))
  refine bk_cons (sk_set c.toCn (ek_call c.tk G_breach (hr.mono (by decide)) (ea_cons (ek_n c.toCn (.s (.s (.s (.s .z)))) (ea_cons (ek_tup (ea_cons (ek_n c.toCn (.s (.s .z)) (ea_cons (ek_n c.toCn (.s (.s (.s .z))) (ea_nil (⟨(by walk_at "vlen"), ea_nil (⟨_, fs, _, _, rfl, .lst, by omega, hf3, fun _ o ho => ⟨_, (.s (.s (.s (.s (.s (.s (.s .z))))))), ?_⟩, fun z => absurd ⟨⟨by omega, by omega⟩, by omega, by omega⟩ z⟩)⟩)))))))))) (c.toCn.gl)))
  have hH : (heardL fs late).length = fs.length + late + 1 := by unfold heardL; rw [List.length_map, List.length_range]
  refine bk_cons (sk_for c (ei_range2 T.no_range (c.toCn.gl) (ek_int (⟨_, rfl, ek_add (ek_sub (ek_len T.no_len (c.toCn.gl) (ek_n c.toCn (.s (.s (.s (.s .z)))) (⟨_, Or.inl .lst, ⟨_, rfl, ek_n c.toCn (.s (.s (.s .z))) (⟨_, rfl, ⟨_, rfl, ek_int (⟨_, rfl, ⟨_, rfl, (by rw [fsD_len]; omega), ⟨fun i Γ L' => ∃ (w1 w2 : Option D), Γ = [some (.lst (dI ns)), some (.ref p_pot), some (.int (late : Int)), some (.int (lost : Int)), some (.lst (fsD fs)), some (.lst ((heardL fs late).map D.bl)), some (.int ((late : Int) + (lost : Int))), some (optD o), w1, w2], ?_, fun F1 c i d Γ L hd hP => ?_, fun Γ L hP => ?_⟩⟩⟩)⟩⟩)⟩⟩))))⟩))))
  · exact ⟨none, none, rfl⟩
  · obtain ⟨w1, w2, rfl⟩ := hP
    obtain ⟨hi, rfl⟩ := range_nat hd
    rw [fsD_len] at hi
    have hi : i + lost < fs.length := by omega
    have hcut : cutD ((heardL fs late).map D.bl) (some (1 + (i : Int))) (some (1 + (i : Int) + ((late : Int) + (lost : Int)))) = (((heardL fs late).drop (i + 1)).take (late + lost)).map D.bl := by
      rw [cut_map, show (1 + (i : Int)) = ((i + 1 : Nat) : Int) by omega, show (((i + 1 : Nat) : Int) + ((late : Int) + (lost : Int))) = ((i + 1 + (late + lost) : Nat) : Int) by omega, cutL_mid (by omega) (by rw [hH]; omega), Nat.add_sub_cancel_left]
    refine tg_n c.toCn ⟨_, (.s (.s (.s (.s (.s (.s (.s (.s .z)))))))), ?_⟩
    refine bk_cons (sk_set c.toCn (ek_notinD hu65 (ek_bl (ek_sl (ek_n c.toCn (.s (.s (.s (.s (.s .z))))) (eo_s (ek_n c.toCn (.s (.s (.s (.s (.s (.s (.s (.s .z)))))))) (⟨_, rfl, eo_s (ek_add (ek_n c.toCn (.s (.s (.s (.s (.s (.s (.s (.s .z)))))))) (⟨_, rfl, ek_n c.toCn (.s (.s (.s (.s (.s (.s .z)))))) (⟨_, rfl, ⟨_, rfl, ⟨_, .lst, ⟨_, _, (by first | exact .bl | (rw [hcut]; exact .lst dpds_bl)), (by first | exact .bl | (rw [hcut]; exact .lst dpds_bl)), (by first | exact shp_ok shp_bls (by decide) | exact shp_ok (k := 0) shp_bl (by decide)), (by first | exact shp_ok shp_bls (by decide) | exact shp_ok (k := 0) shp_bl (by decide)), ⟨_, (.s (.s (.s (.s (.s (.s (.s (.s (.s .z))))))))), ?_⟩⟩⟩⟩⟩)⟩)))⟩))))))))
    rw [any_bl]
    have hkey : (!(((heardL fs late).drop (i + 1)).take (late + lost)).any id) = true → ∃ p, o = some p ∧ p ≤ i := fun hb => by
      have hun : unf fs i (lost + 1) := silent_unf hfg hi fun t h1 h2 => by
        rw [Bool.not_eq_true', List.any_eq_false] at hb
        have := hb ((dueB fs (min t fs.length) (t : Int)).any id) (List.mem_of_getElem? (i := t - (i + 1)) (by
          rw [List.getElem?_take, if_pos (by omega), List.getElem?_drop, show i + 1 + (t - (i + 1)) = t by omega]
          unfold heardL
          rw [List.getElem?_map, List.getElem?_range (by omega)]
          rfl))
        simpa using this
      rw [Int.toNat_natCast] at ho
      cases o with
      | none => exact absurd hun (ho i)
      | some p => exact ⟨p, rfl, Classical.byContradiction fun z => ho.2 i (by omega) hun⟩
    generalize (!(((heardL fs late).drop (i + 1)).take (late + lost)).any id) = b at hkey
    cases b with
    | true =>
      obtain ⟨p, rfl, hp⟩ := hkey rfl
      show BK X _ _ [_, _, _, _, _, _, _, some (D.int (p : Int)), _, _] _ _
      refine bk_one (sk_if (et_w (ew_and (et_v (ek_n c.toCn (.s (.s (.s (.s (.s (.s (.s (.s (.s .z))))))))) (⟨_, rfl, ⟨rfl, rfl⟩⟩))) (fun hb => et_and1 (et_w (ew_or (et_isN (ek_n c.toCn (.s (.s (.s (.s (.s (.s (.s .z))))))) (⟨rfl, rfl⟩))) (fun hb => et_or1 (et_gt (ek_n c.toCn (.s (.s (.s (.s (.s (.s (.s .z))))))) (⟨_, rfl, ek_sub (ek_n c.toCn (.s (.s (.s (.s (.s (.s (.s (.s .z)))))))) (⟨_, rfl, ek_int (⟨_, rfl, ⟨_, rfl, ⟨rfl, rfl⟩⟩⟩)⟩))⟩)))) (⟨rfl, rfl⟩)))) (⟨fun ht => ?_, fun ht => ?_⟩))))
      · exfalso
        have h3 := Bool.and_eq_true_iff.mp ht
        have h4 : (false || decide ((p : Int) > 1 + (i : Int) - 1)) = true := h3.2
        rw [Bool.false_or, decide_eq_true_eq] at h4
        omega
      · exact bk_nil ⟨_, _, rfl⟩
    | false =>
      refine bk_one (sk_if (et_w (ew_and (et_v (ek_n c.toCn (.s (.s (.s (.s (.s (.s (.s (.s (.s .z))))))))) (⟨_, rfl, ⟨rfl, rfl⟩⟩))) (q := false) (fun hb => by cases hb) (⟨fun ht => ?_, fun ht => ?_⟩))))
      · cases ht
      · exact bk_nil ⟨_, _, rfl⟩
  · obtain ⟨w1, w2, rfl⟩ := hP
    refine bk_one (sk_ret (ek_bl (?_)))
    exact h1 _
end
end K21


set_option Elab.async false
set_option linter.all false
set_option maxRecDepth 100000
set_option maxHeartbeats 4000000
namespace K21
open PySem PySem.Spec PyProof.Rows L2 Vs
/-! ### the head and the end -/
abbrev R : PySem.W.OpenRow := PySem.W.OpenLaw.row PySem.Challenge.rw_stormpost_k21_whole_quiet_ticks
def fn : List He.DefD := [dd "look_signs" (top 32), dd "sums_of" (top 33), dd "sealed" (top 34), dd "troubles" (top 35), dd "look_sign" (top 38), dd "power" (top 39), dd "inverse" (top 40), dd "place_of" (top 42), dd "one_turned" (top 43), dd "goes_on" (top 44), dd "two_turned" (top 45), dd "mended" (top 46), dd "is_readable" (top 47), dd "look_late" (top 15), dd "look_measure" (top 16), dd "look_turns" (top 17), dd "look_fate" (top 18), dd "is_fit" (top 19), dd "quiet_of" (top 20), dd "breach" (top 21), dd "look_cell" (top 23), dd "turned_cell" (top 24), dm "Air" "__init__" "Air.__init__" (mt 25 0), dm "Air" "come" "Air.come" (mt 25 2), dm "Air" "give" "Air.give" (mt 25 1), dd "_law_cell" (top 49), dd "_law_pot" (top 50), dd "_law_take" (top 51), dd "_law_turns" (top 52), dd "_law_fate" (top 53), dd "_law_fits" (top 54), dd "_law_fates" (top 55), dd "_law_heard" (top 56), dd "law" (top 57)]
def fa : List He.Fa := [.glo "look_signs", .glo "sums_of", .glo "sealed", .glo "troubles", .glo "look_sign", .glo "power", .glo "inverse", .glo "place_of", .glo "one_turned", .glo "goes_on", .glo "two_turned", .glo "mended", .glo "is_readable", .glo "look_late", .glo "look_measure", .glo "look_turns", .glo "look_fate", .glo "is_fit", .glo "quiet_of", .glo "breach", .glo "look_cell", .glo "turned_cell", .glo "_law_cell", .glo "_law_pot", .glo "_law_take", .glo "_law_turns", .glo "_law_fate", .glo "_law_fits", .glo "_law_fates", .glo "_law_heard", .glo "law", .glo "Air", .cls "Air", .noat "Air" "late", .noat "Air" "coming", .mkr "Air", .meth "Air" "give", .meth "Air" "come", .glo "PostError", .exc "PostError", .glo "BadSign", .exc "BadSign", .glo "BadCell", .exc "BadCell", .glo "BadMeasure", .exc "BadMeasure", .glo "BadFate", .exc "BadFate", .glo "POWERS", .glo "CHECKS", .int "PLACES_fates" 24, .int "PLACES_cells" 24, .int "MOST_SIGN" 96, .int "MOST_LATE" 6, .int "MOST_LOST" 4, .int "MOST_ARRIVALS" 3, .int "MOST_TURNS" 4, .int "MENDED_TURNS" 2, .int "FREE" 18, .int "SUMS" 6, .int "PRIME" 97, .free "len", .free "range", .free "isinstance", .free "int", .free "bool", .free "list", .free "sum", .free "min", .free "max", .free "enumerate", .free "any", .free "abs", .free "tuple"]
def ex (K : PySem.W.Frag) : Bool := (He.lstB K "POWERS" ((pows : List Int).map He.Dv.int) && (lstT K "CHECKS" ckRows && true))
abbrev hk : PySem.W.Hook := hookE 6 fa fn ex
def ob (s : PySem.W.SharedT) : AlE := obsE 6 fa fn ex (HandSHeadRun.getT s)
theorem ob_eq (s : PySem.W.SharedT) : ob s = hk.obs s.abs := obsE_eq (HandSHeadRun.getT_eq s)
def loose : List Str := (("_wall" : Str) :: ("PostError" : Str) :: ("BadSign" : Str) :: ("BadCell" : Str) :: ("BadMeasure" : Str) :: ("BadFate" : Str) :: ("PLACES_fates" : Str) :: ("MOST_SIGN" : Str) :: ("MOST_LATE" : Str) :: ("MOST_LOST" : Str) :: ("MOST_ARRIVALS" : Str) :: ("MOST_TURNS" : Str) :: ("MENDED_TURNS" : Str) :: ("look_late" : Str) :: ("look_measure" : Str) :: ("look_turns" : Str) :: ("look_fate" : Str) :: ("is_fit" : Str) :: ("quiet_of" : Str) :: ("breach" : Str) :: ("look_cell" : Str) :: ("turned_cell" : Str) :: ("Air" : Str) :: ("POWERS" : Str) :: ("CHECKS" : Str) :: ("PLACES_cells" : Str) :: ("FREE" : Str) :: ("SUMS" : Str) :: ("look_signs" : Str) :: ("sums_of" : Str) :: ("sealed" : Str) :: ("troubles" : Str) :: ("PRIME" : Str) :: ("look_sign" : Str) :: ("power" : Str) :: [] : List Str) ++ (("inverse" : Str) :: ("place_of" : Str) :: ("one_turned" : Str) :: ("goes_on" : Str) :: ("two_turned" : Str) :: ("mended" : Str) :: ("is_readable" : Str) :: ("_law_cell" : Str) :: ("_law_pot" : Str) :: ("_law_take" : Str) :: ("_law_turns" : Str) :: ("_law_fate" : Str) :: ("_law_fits" : Str) :: ("_law_fates" : Str) :: ("_law_heard" : Str) :: [] : List Str)
theorem run (w : World) : HandSHeadRun.RunEq R (PySem.W.view R.prog [57]) hk ob 3000 loose w := by
  intro os
  kernel_rfl
theorem tx_of {K : PySem.W.Frag} {h : Heap} {mg : Str → Option Value} (X : K.In h) (G : h.Ns mainGlobals mg) (c : SaysE fa fn ex K) : Tx K mg := by
  have f := fun (i : Nat) (q : He.Fa) (hq : fa[i]? = some q) => c.d.fact i hq
  have e := c.ex
  unfold ex at e
  obtain ⟨e0, e⟩ := He.ba e
  obtain ⟨e1, e⟩ := He.ba e
  exact { PostError := exF_of X G (f 38 _ rfl) (f 39 _ rfl),
          BadSign := exF_of X G (f 40 _ rfl) (f 41 _ rfl),
          BadCell := exF_of X G (f 42 _ rfl) (f 43 _ rfl),
          BadMeasure := exF_of X G (f 44 _ rfl) (f 45 _ rfl),
          BadFate := exF_of X G (f 46 _ rfl) (f 47 _ rfl),
          PLACES_fates := He.int_ok X G (f 50 _ rfl),
          PLACES_cells := He.int_ok X G (f 51 _ rfl),
          MOST_SIGN := He.int_ok X G (f 52 _ rfl),
          MOST_LATE := He.int_ok X G (f 53 _ rfl),
          MOST_LOST := He.int_ok X G (f 54 _ rfl),
          MOST_ARRIVALS := He.int_ok X G (f 55 _ rfl),
          MOST_TURNS := He.int_ok X G (f 56 _ rfl),
          MENDED_TURNS := He.int_ok X G (f 57 _ rfl),
          FREE := He.int_ok X G (f 58 _ rfl),
          SUMS := He.int_ok X G (f 59 _ rfl),
          PRIME := He.int_ok X G (f 60 _ rfl),
          no_len := He.free_ok X G (f 61 _ rfl),
          no_range := He.free_ok X G (f 62 _ rfl),
          no_isinstance := He.free_ok X G (f 63 _ rfl),
          no_int := He.free_ok X G (f 64 _ rfl),
          no_bool := He.free_ok X G (f 65 _ rfl),
          no_list := He.free_ok X G (f 66 _ rfl),
          no_sum := He.free_ok X G (f 67 _ rfl),
          no_min := He.free_ok X G (f 68 _ rfl),
          no_max := He.free_ok X G (f 69 _ rfl),
          no_enumerate := He.free_ok X G (f 70 _ rfl),
          no_any := He.free_ok X G (f 71 _ rfl),
          no_abs := He.free_ok X G (f 72 _ rfl),
          no_tuple := He.free_ok X G (f 73 _ rfl),
          cl_Air := He.cls_ok (f 32 _ rfl),
          mg_Air := He.glo_ok X G (f 31 _ rfl),
          na_Air_late := He.noat_ok (f 33 _ rfl),
          na_Air_coming := He.noat_ok (f 34 _ rfl),
          mk_Air := He.mkr_ok (f 35 _ rfl),
          me_Air_give := He.meth_ok (f 36 _ rfl),
          me_Air_come := He.meth_ok (f 37 _ rfl),
          POWERS := gobj_ints (He.glo_ok X G (f 48 _ rfl)) e0,
          CHECKS := gobj_tups (He.glo_ok X G (f 49 _ rfl)) e1 }
theorem facts {P : Program} {w : World} {K : PySem.W.Frag} {h : Heap} {mg : Str → Option Value} {f : Addr} (X : K.In h) (G : h.Ns mainGlobals mg) (hfa : mg ("law" : Str) = some (.ref f)) (c : SaysE fa fn ex K) :
    ∃ fd : FuncData, (∀ (s : Shared) (v : Value), BindsTo s fd ⟨[v], []⟩ [("script", v)]) ∧ ∀ base : Heap, K.In base → base.Ns mainGlobals mg → FnOk P w K mg base (L2.CX P w) 8 f fd ["script"] (spOf K K21.S_law) := by
  have T := tx_of X G c
  obtain ⟨d0, D0⟩ : ∃ fd, FunX K "look_signs" (top 32) fd := c.d.def_ 0 (d := dd "look_signs" (top 32)) rfl
  obtain ⟨d1, D1⟩ : ∃ fd, FunX K "sums_of" (top 33) fd := c.d.def_ 1 (d := dd "sums_of" (top 33)) rfl
  obtain ⟨d2, D2⟩ : ∃ fd, FunX K "sealed" (top 34) fd := c.d.def_ 2 (d := dd "sealed" (top 34)) rfl
  obtain ⟨d3, D3⟩ : ∃ fd, FunX K "troubles" (top 35) fd := c.d.def_ 3 (d := dd "troubles" (top 35)) rfl
  obtain ⟨d4, D4⟩ : ∃ fd, FunX K "look_sign" (top 38) fd := c.d.def_ 4 (d := dd "look_sign" (top 38)) rfl
  obtain ⟨d5, D5⟩ : ∃ fd, FunX K "power" (top 39) fd := c.d.def_ 5 (d := dd "power" (top 39)) rfl
  obtain ⟨d6, D6⟩ : ∃ fd, FunX K "inverse" (top 40) fd := c.d.def_ 6 (d := dd "inverse" (top 40)) rfl
  obtain ⟨d7, D7⟩ : ∃ fd, FunX K "place_of" (top 42) fd := c.d.def_ 7 (d := dd "place_of" (top 42)) rfl
  obtain ⟨d8, D8⟩ : ∃ fd, FunX K "one_turned" (top 43) fd := c.d.def_ 8 (d := dd "one_turned" (top 43)) rfl
  obtain ⟨d9, D9⟩ : ∃ fd, FunX K "goes_on" (top 44) fd := c.d.def_ 9 (d := dd "goes_on" (top 44)) rfl
  obtain ⟨d10, D10⟩ : ∃ fd, FunX K "two_turned" (top 45) fd := c.d.def_ 10 (d := dd "two_turned" (top 45)) rfl
  obtain ⟨d11, D11⟩ : ∃ fd, FunX K "mended" (top 46) fd := c.d.def_ 11 (d := dd "mended" (top 46)) rfl
  obtain ⟨d12, D12⟩ : ∃ fd, FunX K "is_readable" (top 47) fd := c.d.def_ 12 (d := dd "is_readable" (top 47)) rfl
  obtain ⟨d13, D13⟩ : ∃ fd, FunX K "look_late" (top 15) fd := c.d.def_ 13 (d := dd "look_late" (top 15)) rfl
  obtain ⟨d14, D14⟩ : ∃ fd, FunX K "look_measure" (top 16) fd := c.d.def_ 14 (d := dd "look_measure" (top 16)) rfl
  obtain ⟨d15, D15⟩ : ∃ fd, FunX K "look_turns" (top 17) fd := c.d.def_ 15 (d := dd "look_turns" (top 17)) rfl
  obtain ⟨d16, D16⟩ : ∃ fd, FunX K "look_fate" (top 18) fd := c.d.def_ 16 (d := dd "look_fate" (top 18)) rfl
  obtain ⟨d17, D17⟩ : ∃ fd, FunX K "is_fit" (top 19) fd := c.d.def_ 17 (d := dd "is_fit" (top 19)) rfl
  obtain ⟨d18, D18⟩ : ∃ fd, FunX K "quiet_of" (top 20) fd := c.d.def_ 18 (d := dd "quiet_of" (top 20)) rfl
  obtain ⟨d19, D19⟩ : ∃ fd, FunX K "breach" (top 21) fd := c.d.def_ 19 (d := dd "breach" (top 21)) rfl
  obtain ⟨d20, D20⟩ : ∃ fd, FunX K "look_cell" (top 23) fd := c.d.def_ 20 (d := dd "look_cell" (top 23)) rfl
  obtain ⟨d21, D21⟩ : ∃ fd, FunX K "turned_cell" (top 24) fd := c.d.def_ 21 (d := dd "turned_cell" (top 24)) rfl
  obtain ⟨d22, D22⟩ : ∃ fd, MetD K "Air" "__init__" "Air.__init__" (mt 25 0) fd := c.d.def_ 22 (d := dm "Air" "__init__" "Air.__init__" (mt 25 0)) rfl
  obtain ⟨d23, D23⟩ : ∃ fd, MetD K "Air" "come" "Air.come" (mt 25 2) fd := c.d.def_ 23 (d := dm "Air" "come" "Air.come" (mt 25 2)) rfl
  obtain ⟨d24, D24⟩ : ∃ fd, MetD K "Air" "give" "Air.give" (mt 25 1) fd := c.d.def_ 24 (d := dm "Air" "give" "Air.give" (mt 25 1)) rfl
  obtain ⟨d25, D25⟩ : ∃ fd, FunX K "_law_cell" (top 49) fd := c.d.def_ 25 (d := dd "_law_cell" (top 49)) rfl
  obtain ⟨d26, D26⟩ : ∃ fd, FunX K "_law_pot" (top 50) fd := c.d.def_ 26 (d := dd "_law_pot" (top 50)) rfl
  obtain ⟨d27, D27⟩ : ∃ fd, FunX K "_law_take" (top 51) fd := c.d.def_ 27 (d := dd "_law_take" (top 51)) rfl
  obtain ⟨d28, D28⟩ : ∃ fd, FunX K "_law_turns" (top 52) fd := c.d.def_ 28 (d := dd "_law_turns" (top 52)) rfl
  obtain ⟨d29, D29⟩ : ∃ fd, FunX K "_law_fate" (top 53) fd := c.d.def_ 29 (d := dd "_law_fate" (top 53)) rfl
  obtain ⟨d30, D30⟩ : ∃ fd, FunX K "_law_fits" (top 54) fd := c.d.def_ 30 (d := dd "_law_fits" (top 54)) rfl
  obtain ⟨d31, D31⟩ : ∃ fd, FunX K "_law_fates" (top 55) fd := c.d.def_ 31 (d := dd "_law_fates" (top 55)) rfl
  obtain ⟨d32, D32⟩ : ∃ fd, FunX K "_law_heard" (top 56) fd := c.d.def_ 32 (d := dd "_law_heard" (top 56)) rfl
  obtain ⟨d33, D33⟩ : ∃ fd, FunX K "law" (top 57) fd := c.d.def_ 33 (d := dd "law" (top 57)) rfl
  have g := fun (i : Nat) (x : Str) (hq : fa[i]? = some (.glo x)) => He.glo_ok X G (c.d.fact i hq)
  have e := hfa.symm.trans (g 30 _ rfl)
  cases e
  have b := FunD.bindsA (ps := ["script"]) D33 fun _ _ _ _ _ _ us hl => match us, hl with | [_], _ => rfl
  refine ⟨d33, fun s v => b s [v] rfl, fun base _ _ => ?_⟩
  have C_looks : Cal P w K mg base 1 "look_signs" (["signs", "many"] : List Str) (S_look_signs K) := cal_of (N := (["signs", "many", "sign"] : List Str)) (Nc := ([] : List Str)) D0 (g 0 _ rfl) ⟨rfl, rfl, rfl, by decide +kernel, rfl, by decide +kernel, by decide +kernel⟩ (by decide +kernel)
    (D0.bindsN fun _ _ _ _ _ _ us hl => match us, hl with | [_, _], _ => rfl) (fun ds L q e h => by first | (obtain ⟨rfl, _⟩ := h; rfl) | (obtain ⟨_, rfl, _⟩ := h; rfl) | (obtain ⟨_, _, rfl, _⟩ := h; rfl) | (obtain ⟨_, _, _, rfl, _⟩ := h; rfl) | (obtain ⟨_, _, _, _, rfl, _⟩ := h; rfl) | (obtain ⟨_, _, _, _, _, rfl, _⟩ := h; rfl) | (obtain ⟨_, _, _, _, _, _, rfl, _⟩ := h; rfl) | (obtain ⟨_, _, _, _, _, _, _, rfl, _⟩ := h; rfl) | (obtain ⟨_, _, _, _, _, _, _, _, rfl, _⟩ := h; rfl) | (obtain ⟨_, _, _, _, _, _, _, _, _, rfl, _⟩ := h; rfl) | (obtain ⟨_, _, _, _, _, _, _, _, _, _, rfl, _⟩ := h; rfl) | (obtain ⟨_, _, _, _, _, _, _, _, _, _, _, rfl, _⟩ := h; rfl) | (obtain ⟨_, _, _, _, _, _, _, _, _, _, _, _, rfl, _⟩ := h; rfl) | (obtain ⟨_, _, _, _, _, _, _, _, _, _, _, _, _, rfl, _⟩ := h; rfl) | (obtain ⟨_, _, _, _, _, _, _, _, _, _, _, _, _, _, rfl, _⟩ := h; rfl) | (obtain ⟨_, _, _, _, _, _, _, _, _, _, _, _, _, _, _, rfl, _⟩ := h; rfl)) (fun X F0 ds L q e h1 h2 h3 h4 h5 cf hr hS => by subst h1 h2 h3 h4 h5; exact b_look_signs cf T hS)
  have C_sums : Cal P w K mg base 1 "sums_of" (["signs"] : List Str) S_sums_of := cal_of (N := (["signs"] : List Str)) (Nc := (["j", "i"] : List Str)) D1 (g 1 _ rfl) ⟨rfl, rfl, rfl, by decide +kernel, rfl, by decide +kernel, by decide +kernel⟩ (by decide +kernel)
    (D1.bindsN fun _ _ _ _ _ _ us hl => match us, hl with | [_], _ => rfl) (fun ds L q e h => by first | (obtain ⟨rfl, _⟩ := h; rfl) | (obtain ⟨_, rfl, _⟩ := h; rfl) | (obtain ⟨_, _, rfl, _⟩ := h; rfl) | (obtain ⟨_, _, _, rfl, _⟩ := h; rfl) | (obtain ⟨_, _, _, _, rfl, _⟩ := h; rfl) | (obtain ⟨_, _, _, _, _, rfl, _⟩ := h; rfl) | (obtain ⟨_, _, _, _, _, _, rfl, _⟩ := h; rfl) | (obtain ⟨_, _, _, _, _, _, _, rfl, _⟩ := h; rfl) | (obtain ⟨_, _, _, _, _, _, _, _, rfl, _⟩ := h; rfl) | (obtain ⟨_, _, _, _, _, _, _, _, _, rfl, _⟩ := h; rfl) | (obtain ⟨_, _, _, _, _, _, _, _, _, _, rfl, _⟩ := h; rfl) | (obtain ⟨_, _, _, _, _, _, _, _, _, _, _, rfl, _⟩ := h; rfl) | (obtain ⟨_, _, _, _, _, _, _, _, _, _, _, _, rfl, _⟩ := h; rfl) | (obtain ⟨_, _, _, _, _, _, _, _, _, _, _, _, _, rfl, _⟩ := h; rfl) | (obtain ⟨_, _, _, _, _, _, _, _, _, _, _, _, _, _, rfl, _⟩ := h; rfl) | (obtain ⟨_, _, _, _, _, _, _, _, _, _, _, _, _, _, _, rfl, _⟩ := h; rfl)) (fun X F0 ds L q e h1 h2 h3 h4 h5 cf hr hS => by subst h1 h2 h3 h4 h5; exact b_sums_of cf T hS)
  have C_sealed : Cal P w K mg base 2 "sealed" (["signs"] : List Str) (S_sealed K) := cal_of (N := (["signs"] : List Str)) (Nc := (["k", "i"] : List Str)) D2 (g 2 _ rfl) ⟨rfl, rfl, rfl, by decide +kernel, rfl, by decide +kernel, by decide +kernel⟩ (by decide +kernel)
    (D2.bindsN fun _ _ _ _ _ _ us hl => match us, hl with | [_], _ => rfl) (fun ds L q e h => by first | (obtain ⟨rfl, _⟩ := h; rfl) | (obtain ⟨_, rfl, _⟩ := h; rfl) | (obtain ⟨_, _, rfl, _⟩ := h; rfl) | (obtain ⟨_, _, _, rfl, _⟩ := h; rfl) | (obtain ⟨_, _, _, _, rfl, _⟩ := h; rfl) | (obtain ⟨_, _, _, _, _, rfl, _⟩ := h; rfl) | (obtain ⟨_, _, _, _, _, _, rfl, _⟩ := h; rfl) | (obtain ⟨_, _, _, _, _, _, _, rfl, _⟩ := h; rfl) | (obtain ⟨_, _, _, _, _, _, _, _, rfl, _⟩ := h; rfl) | (obtain ⟨_, _, _, _, _, _, _, _, _, rfl, _⟩ := h; rfl) | (obtain ⟨_, _, _, _, _, _, _, _, _, _, rfl, _⟩ := h; rfl) | (obtain ⟨_, _, _, _, _, _, _, _, _, _, _, rfl, _⟩ := h; rfl) | (obtain ⟨_, _, _, _, _, _, _, _, _, _, _, _, rfl, _⟩ := h; rfl) | (obtain ⟨_, _, _, _, _, _, _, _, _, _, _, _, _, rfl, _⟩ := h; rfl) | (obtain ⟨_, _, _, _, _, _, _, _, _, _, _, _, _, _, rfl, _⟩ := h; rfl) | (obtain ⟨_, _, _, _, _, _, _, _, _, _, _, _, _, _, _, rfl, _⟩ := h; rfl)) (fun X F0 ds L q e h1 h2 h3 h4 h5 cf hr hS => by subst h1 h2 h3 h4 h5; exact b_sealed cf T hr C_looks hS)
  have C_troubles : Cal P w K mg base 2 "troubles" (["cell"] : List Str) (S_troubles K) := cal_of (N := (["cell"] : List Str)) (Nc := ([] : List Str)) D3 (g 3 _ rfl) ⟨rfl, rfl, rfl, by decide +kernel, rfl, by decide +kernel, by decide +kernel⟩ (by decide +kernel)
    (D3.bindsN fun _ _ _ _ _ _ us hl => match us, hl with | [_], _ => rfl) (fun ds L q e h => by first | (obtain ⟨rfl, _⟩ := h; rfl) | (obtain ⟨_, rfl, _⟩ := h; rfl) | (obtain ⟨_, _, rfl, _⟩ := h; rfl) | (obtain ⟨_, _, _, rfl, _⟩ := h; rfl) | (obtain ⟨_, _, _, _, rfl, _⟩ := h; rfl) | (obtain ⟨_, _, _, _, _, rfl, _⟩ := h; rfl) | (obtain ⟨_, _, _, _, _, _, rfl, _⟩ := h; rfl) | (obtain ⟨_, _, _, _, _, _, _, rfl, _⟩ := h; rfl) | (obtain ⟨_, _, _, _, _, _, _, _, rfl, _⟩ := h; rfl) | (obtain ⟨_, _, _, _, _, _, _, _, _, rfl, _⟩ := h; rfl) | (obtain ⟨_, _, _, _, _, _, _, _, _, _, rfl, _⟩ := h; rfl) | (obtain ⟨_, _, _, _, _, _, _, _, _, _, _, rfl, _⟩ := h; rfl) | (obtain ⟨_, _, _, _, _, _, _, _, _, _, _, _, rfl, _⟩ := h; rfl) | (obtain ⟨_, _, _, _, _, _, _, _, _, _, _, _, _, rfl, _⟩ := h; rfl) | (obtain ⟨_, _, _, _, _, _, _, _, _, _, _, _, _, _, rfl, _⟩ := h; rfl) | (obtain ⟨_, _, _, _, _, _, _, _, _, _, _, _, _, _, _, rfl, _⟩ := h; rfl)) (fun X F0 ds L q e h1 h2 h3 h4 h5 cf hr hS => by subst h1 h2 h3 h4 h5; exact b_troubles cf T hr C_looks C_sums hS)
  have C_look : Cal P w K mg base 1 "look_sign" (["a"] : List Str) (S_look_sign K) := cal_of (N := (["a"] : List Str)) (Nc := ([] : List Str)) D4 (g 4 _ rfl) ⟨rfl, rfl, rfl, by decide +kernel, rfl, by decide +kernel, by decide +kernel⟩ (by decide +kernel)
    (D4.bindsN fun _ _ _ _ _ _ us hl => match us, hl with | [_], _ => rfl) (fun ds L q e h => by first | (obtain ⟨rfl, _⟩ := h; rfl) | (obtain ⟨_, rfl, _⟩ := h; rfl) | (obtain ⟨_, _, rfl, _⟩ := h; rfl) | (obtain ⟨_, _, _, rfl, _⟩ := h; rfl) | (obtain ⟨_, _, _, _, rfl, _⟩ := h; rfl) | (obtain ⟨_, _, _, _, _, rfl, _⟩ := h; rfl) | (obtain ⟨_, _, _, _, _, _, rfl, _⟩ := h; rfl) | (obtain ⟨_, _, _, _, _, _, _, rfl, _⟩ := h; rfl) | (obtain ⟨_, _, _, _, _, _, _, _, rfl, _⟩ := h; rfl) | (obtain ⟨_, _, _, _, _, _, _, _, _, rfl, _⟩ := h; rfl) | (obtain ⟨_, _, _, _, _, _, _, _, _, _, rfl, _⟩ := h; rfl) | (obtain ⟨_, _, _, _, _, _, _, _, _, _, _, rfl, _⟩ := h; rfl) | (obtain ⟨_, _, _, _, _, _, _, _, _, _, _, _, rfl, _⟩ := h; rfl) | (obtain ⟨_, _, _, _, _, _, _, _, _, _, _, _, _, rfl, _⟩ := h; rfl) | (obtain ⟨_, _, _, _, _, _, _, _, _, _, _, _, _, _, rfl, _⟩ := h; rfl) | (obtain ⟨_, _, _, _, _, _, _, _, _, _, _, _, _, _, _, rfl, _⟩ := h; rfl)) (fun X F0 ds L q e h1 h2 h3 h4 h5 cf hr hS => by subst h1 h2 h3 h4 h5; exact b_look_sign cf T hS)
  have C_power : Cal P w K mg base 2 "power" (["a", "k"] : List Str) (S_power K) := cal_of (N := (["a", "k", "found", "square"] : List Str)) (Nc := ([] : List Str)) D5 (g 5 _ rfl) ⟨rfl, rfl, rfl, by decide +kernel, rfl, by decide +kernel, by decide +kernel⟩ (by decide +kernel)
    (D5.bindsN fun _ _ _ _ _ _ us hl => match us, hl with | [_, _], _ => rfl) (fun ds L q e h => by first | (obtain ⟨rfl, _⟩ := h; rfl) | (obtain ⟨_, rfl, _⟩ := h; rfl) | (obtain ⟨_, _, rfl, _⟩ := h; rfl) | (obtain ⟨_, _, _, rfl, _⟩ := h; rfl) | (obtain ⟨_, _, _, _, rfl, _⟩ := h; rfl) | (obtain ⟨_, _, _, _, _, rfl, _⟩ := h; rfl) | (obtain ⟨_, _, _, _, _, _, rfl, _⟩ := h; rfl) | (obtain ⟨_, _, _, _, _, _, _, rfl, _⟩ := h; rfl) | (obtain ⟨_, _, _, _, _, _, _, _, rfl, _⟩ := h; rfl) | (obtain ⟨_, _, _, _, _, _, _, _, _, rfl, _⟩ := h; rfl) | (obtain ⟨_, _, _, _, _, _, _, _, _, _, rfl, _⟩ := h; rfl) | (obtain ⟨_, _, _, _, _, _, _, _, _, _, _, rfl, _⟩ := h; rfl) | (obtain ⟨_, _, _, _, _, _, _, _, _, _, _, _, rfl, _⟩ := h; rfl) | (obtain ⟨_, _, _, _, _, _, _, _, _, _, _, _, _, rfl, _⟩ := h; rfl) | (obtain ⟨_, _, _, _, _, _, _, _, _, _, _, _, _, _, rfl, _⟩ := h; rfl) | (obtain ⟨_, _, _, _, _, _, _, _, _, _, _, _, _, _, _, rfl, _⟩ := h; rfl)) (fun X F0 ds L q e h1 h2 h3 h4 h5 cf hr hS => by subst h1 h2 h3 h4 h5; exact b_power cf T hr C_look hS)
  have C_inverse : Cal P w K mg base 3 "inverse" (["a"] : List Str) (S_inverse K) := cal_of (N := (["a"] : List Str)) (Nc := ([] : List Str)) D6 (g 6 _ rfl) ⟨rfl, rfl, rfl, by decide +kernel, rfl, by decide +kernel, by decide +kernel⟩ (by decide +kernel)
    (D6.bindsN fun _ _ _ _ _ _ us hl => match us, hl with | [_], _ => rfl) (fun ds L q e h => by first | (obtain ⟨rfl, _⟩ := h; rfl) | (obtain ⟨_, rfl, _⟩ := h; rfl) | (obtain ⟨_, _, rfl, _⟩ := h; rfl) | (obtain ⟨_, _, _, rfl, _⟩ := h; rfl) | (obtain ⟨_, _, _, _, rfl, _⟩ := h; rfl) | (obtain ⟨_, _, _, _, _, rfl, _⟩ := h; rfl) | (obtain ⟨_, _, _, _, _, _, rfl, _⟩ := h; rfl) | (obtain ⟨_, _, _, _, _, _, _, rfl, _⟩ := h; rfl) | (obtain ⟨_, _, _, _, _, _, _, _, rfl, _⟩ := h; rfl) | (obtain ⟨_, _, _, _, _, _, _, _, _, rfl, _⟩ := h; rfl) | (obtain ⟨_, _, _, _, _, _, _, _, _, _, rfl, _⟩ := h; rfl) | (obtain ⟨_, _, _, _, _, _, _, _, _, _, _, rfl, _⟩ := h; rfl) | (obtain ⟨_, _, _, _, _, _, _, _, _, _, _, _, rfl, _⟩ := h; rfl) | (obtain ⟨_, _, _, _, _, _, _, _, _, _, _, _, _, rfl, _⟩ := h; rfl) | (obtain ⟨_, _, _, _, _, _, _, _, _, _, _, _, _, _, rfl, _⟩ := h; rfl) | (obtain ⟨_, _, _, _, _, _, _, _, _, _, _, _, _, _, _, rfl, _⟩ := h; rfl)) (fun X F0 ds L q e h1 h2 h3 h4 h5 cf hr hS => by subst h1 h2 h3 h4 h5; exact b_inverse cf T hr C_look C_power hS)
  have C_place : Cal P w K mg base 1 "place_of" (["x"] : List Str) S_place_of := cal_of (N := (["x", "i"] : List Str)) (Nc := ([] : List Str)) D7 (g 7 _ rfl) ⟨rfl, rfl, rfl, by decide +kernel, rfl, by decide +kernel, by decide +kernel⟩ (by decide +kernel)
    (D7.bindsN fun _ _ _ _ _ _ us hl => match us, hl with | [_], _ => rfl) (fun ds L q e h => by first | (obtain ⟨rfl, _⟩ := h; rfl) | (obtain ⟨_, rfl, _⟩ := h; rfl) | (obtain ⟨_, _, rfl, _⟩ := h; rfl) | (obtain ⟨_, _, _, rfl, _⟩ := h; rfl) | (obtain ⟨_, _, _, _, rfl, _⟩ := h; rfl) | (obtain ⟨_, _, _, _, _, rfl, _⟩ := h; rfl) | (obtain ⟨_, _, _, _, _, _, rfl, _⟩ := h; rfl) | (obtain ⟨_, _, _, _, _, _, _, rfl, _⟩ := h; rfl) | (obtain ⟨_, _, _, _, _, _, _, _, rfl, _⟩ := h; rfl) | (obtain ⟨_, _, _, _, _, _, _, _, _, rfl, _⟩ := h; rfl) | (obtain ⟨_, _, _, _, _, _, _, _, _, _, rfl, _⟩ := h; rfl) | (obtain ⟨_, _, _, _, _, _, _, _, _, _, _, rfl, _⟩ := h; rfl) | (obtain ⟨_, _, _, _, _, _, _, _, _, _, _, _, rfl, _⟩ := h; rfl) | (obtain ⟨_, _, _, _, _, _, _, _, _, _, _, _, _, rfl, _⟩ := h; rfl) | (obtain ⟨_, _, _, _, _, _, _, _, _, _, _, _, _, _, rfl, _⟩ := h; rfl) | (obtain ⟨_, _, _, _, _, _, _, _, _, _, _, _, _, _, _, rfl, _⟩ := h; rfl)) (fun X F0 ds L q e h1 h2 h3 h4 h5 cf hr hS => by subst h1 h2 h3 h4 h5; exact b_place_of cf T hS)
  have C_one : Cal P w K mg base 4 "one_turned" (["found"] : List Str) S_one_turned := cal_of (N := (["found", "x", "j", "place"] : List Str)) (Nc := ([] : List Str)) D8 (g 8 _ rfl) ⟨rfl, rfl, rfl, by decide +kernel, rfl, by decide +kernel, by decide +kernel⟩ (by decide +kernel)
    (D8.bindsN fun _ _ _ _ _ _ us hl => match us, hl with | [_], _ => rfl) (fun ds L q e h => by first | (obtain ⟨rfl, _⟩ := h; rfl) | (obtain ⟨_, rfl, _⟩ := h; rfl) | (obtain ⟨_, _, rfl, _⟩ := h; rfl) | (obtain ⟨_, _, _, rfl, _⟩ := h; rfl) | (obtain ⟨_, _, _, _, rfl, _⟩ := h; rfl) | (obtain ⟨_, _, _, _, _, rfl, _⟩ := h; rfl) | (obtain ⟨_, _, _, _, _, _, rfl, _⟩ := h; rfl) | (obtain ⟨_, _, _, _, _, _, _, rfl, _⟩ := h; rfl) | (obtain ⟨_, _, _, _, _, _, _, _, rfl, _⟩ := h; rfl) | (obtain ⟨_, _, _, _, _, _, _, _, _, rfl, _⟩ := h; rfl) | (obtain ⟨_, _, _, _, _, _, _, _, _, _, rfl, _⟩ := h; rfl) | (obtain ⟨_, _, _, _, _, _, _, _, _, _, _, rfl, _⟩ := h; rfl) | (obtain ⟨_, _, _, _, _, _, _, _, _, _, _, _, rfl, _⟩ := h; rfl) | (obtain ⟨_, _, _, _, _, _, _, _, _, _, _, _, _, rfl, _⟩ := h; rfl) | (obtain ⟨_, _, _, _, _, _, _, _, _, _, _, _, _, _, rfl, _⟩ := h; rfl) | (obtain ⟨_, _, _, _, _, _, _, _, _, _, _, _, _, _, _, rfl, _⟩ := h; rfl)) (fun X F0 ds L q e h1 h2 h3 h4 h5 cf hr hS => by subst h1 h2 h3 h4 h5; exact b_one_turned cf T hr C_inverse C_place hS)
  have C_goes : Cal P w K mg base 1 "goes_on" (["found", "s", "p"] : List Str) S_goes_on := cal_of (N := (["found", "s", "p", "j"] : List Str)) (Nc := ([] : List Str)) D9 (g 9 _ rfl) ⟨rfl, rfl, rfl, by decide +kernel, rfl, by decide +kernel, by decide +kernel⟩ (by decide +kernel)
    (D9.bindsN fun _ _ _ _ _ _ us hl => match us, hl with | [_, _, _], _ => rfl) (fun ds L q e h => by first | (obtain ⟨rfl, _⟩ := h; rfl) | (obtain ⟨_, rfl, _⟩ := h; rfl) | (obtain ⟨_, _, rfl, _⟩ := h; rfl) | (obtain ⟨_, _, _, rfl, _⟩ := h; rfl) | (obtain ⟨_, _, _, _, rfl, _⟩ := h; rfl) | (obtain ⟨_, _, _, _, _, rfl, _⟩ := h; rfl) | (obtain ⟨_, _, _, _, _, _, rfl, _⟩ := h; rfl) | (obtain ⟨_, _, _, _, _, _, _, rfl, _⟩ := h; rfl) | (obtain ⟨_, _, _, _, _, _, _, _, rfl, _⟩ := h; rfl) | (obtain ⟨_, _, _, _, _, _, _, _, _, rfl, _⟩ := h; rfl) | (obtain ⟨_, _, _, _, _, _, _, _, _, _, rfl, _⟩ := h; rfl) | (obtain ⟨_, _, _, _, _, _, _, _, _, _, _, rfl, _⟩ := h; rfl) | (obtain ⟨_, _, _, _, _, _, _, _, _, _, _, _, rfl, _⟩ := h; rfl) | (obtain ⟨_, _, _, _, _, _, _, _, _, _, _, _, _, rfl, _⟩ := h; rfl) | (obtain ⟨_, _, _, _, _, _, _, _, _, _, _, _, _, _, rfl, _⟩ := h; rfl) | (obtain ⟨_, _, _, _, _, _, _, _, _, _, _, _, _, _, _, rfl, _⟩ := h; rfl)) (fun X F0 ds L q e h1 h2 h3 h4 h5 cf hr hS => by subst h1 h2 h3 h4 h5; exact b_goes_on cf T hS)
  have C_two : Cal P w K mg base 4 "two_turned" (["found"] : List Str) S_two_turned := cal_of (N := (["found", "below", "over", "s", "p", "places", "one", "two", "first", "second"] : List Str)) (Nc := (["i"] : List Str)) D10 (g 10 _ rfl) ⟨rfl, rfl, rfl, by decide +kernel, rfl, by decide +kernel, by decide +kernel⟩ (by decide +kernel)
    (D10.bindsN fun _ _ _ _ _ _ us hl => match us, hl with | [_], _ => rfl) (fun ds L q e h => by first | (obtain ⟨rfl, _⟩ := h; rfl) | (obtain ⟨_, rfl, _⟩ := h; rfl) | (obtain ⟨_, _, rfl, _⟩ := h; rfl) | (obtain ⟨_, _, _, rfl, _⟩ := h; rfl) | (obtain ⟨_, _, _, _, rfl, _⟩ := h; rfl) | (obtain ⟨_, _, _, _, _, rfl, _⟩ := h; rfl) | (obtain ⟨_, _, _, _, _, _, rfl, _⟩ := h; rfl) | (obtain ⟨_, _, _, _, _, _, _, rfl, _⟩ := h; rfl) | (obtain ⟨_, _, _, _, _, _, _, _, rfl, _⟩ := h; rfl) | (obtain ⟨_, _, _, _, _, _, _, _, _, rfl, _⟩ := h; rfl) | (obtain ⟨_, _, _, _, _, _, _, _, _, _, rfl, _⟩ := h; rfl) | (obtain ⟨_, _, _, _, _, _, _, _, _, _, _, rfl, _⟩ := h; rfl) | (obtain ⟨_, _, _, _, _, _, _, _, _, _, _, _, rfl, _⟩ := h; rfl) | (obtain ⟨_, _, _, _, _, _, _, _, _, _, _, _, _, rfl, _⟩ := h; rfl) | (obtain ⟨_, _, _, _, _, _, _, _, _, _, _, _, _, _, rfl, _⟩ := h; rfl) | (obtain ⟨_, _, _, _, _, _, _, _, _, _, _, _, _, _, _, rfl, _⟩ := h; rfl)) (fun X F0 ds L q e h1 h2 h3 h4 h5 cf hr hS => by subst h1 h2 h3 h4 h5; exact b_two_turned cf T hr C_inverse C_goes hS)
  have C_mended : Cal P w K mg base 5 "mended" (["cell"] : List Str) (S_mended K) := cal_of (N := (["cell", "found", "turns", "made", "place", "add"] : List Str)) (Nc := ([] : List Str)) D11 (g 11 _ rfl) ⟨rfl, rfl, rfl, by decide +kernel, rfl, by decide +kernel, by decide +kernel⟩ (by decide +kernel)
    (D11.bindsN fun _ _ _ _ _ _ us hl => match us, hl with | [_], _ => rfl) (fun ds L q e h => by first | (obtain ⟨rfl, _⟩ := h; rfl) | (obtain ⟨_, rfl, _⟩ := h; rfl) | (obtain ⟨_, _, rfl, _⟩ := h; rfl) | (obtain ⟨_, _, _, rfl, _⟩ := h; rfl) | (obtain ⟨_, _, _, _, rfl, _⟩ := h; rfl) | (obtain ⟨_, _, _, _, _, rfl, _⟩ := h; rfl) | (obtain ⟨_, _, _, _, _, _, rfl, _⟩ := h; rfl) | (obtain ⟨_, _, _, _, _, _, _, rfl, _⟩ := h; rfl) | (obtain ⟨_, _, _, _, _, _, _, _, rfl, _⟩ := h; rfl) | (obtain ⟨_, _, _, _, _, _, _, _, _, rfl, _⟩ := h; rfl) | (obtain ⟨_, _, _, _, _, _, _, _, _, _, rfl, _⟩ := h; rfl) | (obtain ⟨_, _, _, _, _, _, _, _, _, _, _, rfl, _⟩ := h; rfl) | (obtain ⟨_, _, _, _, _, _, _, _, _, _, _, _, rfl, _⟩ := h; rfl) | (obtain ⟨_, _, _, _, _, _, _, _, _, _, _, _, _, rfl, _⟩ := h; rfl) | (obtain ⟨_, _, _, _, _, _, _, _, _, _, _, _, _, _, rfl, _⟩ := h; rfl) | (obtain ⟨_, _, _, _, _, _, _, _, _, _, _, _, _, _, _, rfl, _⟩ := h; rfl)) (fun X F0 ds L q e h1 h2 h3 h4 h5 cf hr hS => by subst h1 h2 h3 h4 h5; exact b_mended cf T hr C_troubles C_one C_two hS)
  have C_readable : Cal P w K mg base 6 "is_readable" (["cell"] : List Str) (S_is_readable K) := cal_of (N := (["cell"] : List Str)) (Nc := ([] : List Str)) D12 (g 12 _ rfl) ⟨rfl, rfl, rfl, by decide +kernel, rfl, by decide +kernel, by decide +kernel⟩ (by decide +kernel)
    (D12.bindsN fun _ _ _ _ _ _ us hl => match us, hl with | [_], _ => rfl) (fun ds L q e h => by first | (obtain ⟨rfl, _⟩ := h; rfl) | (obtain ⟨_, rfl, _⟩ := h; rfl) | (obtain ⟨_, _, rfl, _⟩ := h; rfl) | (obtain ⟨_, _, _, rfl, _⟩ := h; rfl) | (obtain ⟨_, _, _, _, rfl, _⟩ := h; rfl) | (obtain ⟨_, _, _, _, _, rfl, _⟩ := h; rfl) | (obtain ⟨_, _, _, _, _, _, rfl, _⟩ := h; rfl) | (obtain ⟨_, _, _, _, _, _, _, rfl, _⟩ := h; rfl) | (obtain ⟨_, _, _, _, _, _, _, _, rfl, _⟩ := h; rfl) | (obtain ⟨_, _, _, _, _, _, _, _, _, rfl, _⟩ := h; rfl) | (obtain ⟨_, _, _, _, _, _, _, _, _, _, rfl, _⟩ := h; rfl) | (obtain ⟨_, _, _, _, _, _, _, _, _, _, _, rfl, _⟩ := h; rfl) | (obtain ⟨_, _, _, _, _, _, _, _, _, _, _, _, rfl, _⟩ := h; rfl) | (obtain ⟨_, _, _, _, _, _, _, _, _, _, _, _, _, rfl, _⟩ := h; rfl) | (obtain ⟨_, _, _, _, _, _, _, _, _, _, _, _, _, _, rfl, _⟩ := h; rfl) | (obtain ⟨_, _, _, _, _, _, _, _, _, _, _, _, _, _, _, rfl, _⟩ := h; rfl)) (fun X F0 ds L q e h1 h2 h3 h4 h5 cf hr hS => by subst h1 h2 h3 h4 h5; exact b_is_readable cf T hr C_mended hS)
  have C_late : Cal P w K mg base 1 "look_late" (["late"] : List Str) (S_look_late K) := cal_of (N := (["late"] : List Str)) (Nc := ([] : List Str)) D13 (g 13 _ rfl) ⟨rfl, rfl, rfl, by decide +kernel, rfl, by decide +kernel, by decide +kernel⟩ (by decide +kernel)
    (D13.bindsN fun _ _ _ _ _ _ us hl => match us, hl with | [_], _ => rfl) (fun ds L q e h => by first | (obtain ⟨rfl, _⟩ := h; rfl) | (obtain ⟨_, rfl, _⟩ := h; rfl) | (obtain ⟨_, _, rfl, _⟩ := h; rfl) | (obtain ⟨_, _, _, rfl, _⟩ := h; rfl) | (obtain ⟨_, _, _, _, rfl, _⟩ := h; rfl) | (obtain ⟨_, _, _, _, _, rfl, _⟩ := h; rfl) | (obtain ⟨_, _, _, _, _, _, rfl, _⟩ := h; rfl) | (obtain ⟨_, _, _, _, _, _, _, rfl, _⟩ := h; rfl) | (obtain ⟨_, _, _, _, _, _, _, _, rfl, _⟩ := h; rfl) | (obtain ⟨_, _, _, _, _, _, _, _, _, rfl, _⟩ := h; rfl) | (obtain ⟨_, _, _, _, _, _, _, _, _, _, rfl, _⟩ := h; rfl) | (obtain ⟨_, _, _, _, _, _, _, _, _, _, _, rfl, _⟩ := h; rfl) | (obtain ⟨_, _, _, _, _, _, _, _, _, _, _, _, rfl, _⟩ := h; rfl) | (obtain ⟨_, _, _, _, _, _, _, _, _, _, _, _, _, rfl, _⟩ := h; rfl) | (obtain ⟨_, _, _, _, _, _, _, _, _, _, _, _, _, _, rfl, _⟩ := h; rfl) | (obtain ⟨_, _, _, _, _, _, _, _, _, _, _, _, _, _, _, rfl, _⟩ := h; rfl)) (fun X F0 ds L q e h1 h2 h3 h4 h5 cf hr hS => by subst h1 h2 h3 h4 h5; exact b_look_late cf T hS)
  have C_measure : Cal P w K mg base 2 "look_measure" (["measure"] : List Str) (S_look_measure K) := cal_of (N := (["measure", "late", "lost"] : List Str)) (Nc := ([] : List Str)) D14 (g 14 _ rfl) ⟨rfl, rfl, rfl, by decide +kernel, rfl, by decide +kernel, by decide +kernel⟩ (by decide +kernel)
    (D14.bindsN fun _ _ _ _ _ _ us hl => match us, hl with | [_], _ => rfl) (fun ds L q e h => by first | (obtain ⟨rfl, _⟩ := h; rfl) | (obtain ⟨_, rfl, _⟩ := h; rfl) | (obtain ⟨_, _, rfl, _⟩ := h; rfl) | (obtain ⟨_, _, _, rfl, _⟩ := h; rfl) | (obtain ⟨_, _, _, _, rfl, _⟩ := h; rfl) | (obtain ⟨_, _, _, _, _, rfl, _⟩ := h; rfl) | (obtain ⟨_, _, _, _, _, _, rfl, _⟩ := h; rfl) | (obtain ⟨_, _, _, _, _, _, _, rfl, _⟩ := h; rfl) | (obtain ⟨_, _, _, _, _, _, _, _, rfl, _⟩ := h; rfl) | (obtain ⟨_, _, _, _, _, _, _, _, _, rfl, _⟩ := h; rfl) | (obtain ⟨_, _, _, _, _, _, _, _, _, _, rfl, _⟩ := h; rfl) | (obtain ⟨_, _, _, _, _, _, _, _, _, _, _, rfl, _⟩ := h; rfl) | (obtain ⟨_, _, _, _, _, _, _, _, _, _, _, _, rfl, _⟩ := h; rfl) | (obtain ⟨_, _, _, _, _, _, _, _, _, _, _, _, _, rfl, _⟩ := h; rfl) | (obtain ⟨_, _, _, _, _, _, _, _, _, _, _, _, _, _, rfl, _⟩ := h; rfl) | (obtain ⟨_, _, _, _, _, _, _, _, _, _, _, _, _, _, _, rfl, _⟩ := h; rfl)) (fun X F0 ds L q e h1 h2 h3 h4 h5 cf hr hS => by subst h1 h2 h3 h4 h5; exact b_look_measure cf T hr C_late hS)
  have C_lturns : Cal P w K mg base 1 "look_turns" (["turns"] : List Str) (S_look_turns K) := cal_of (N := (["turns", "last", "place", "add"] : List Str)) (Nc := ([] : List Str)) D15 (g 15 _ rfl) ⟨rfl, rfl, rfl, by decide +kernel, rfl, by decide +kernel, by decide +kernel⟩ (by decide +kernel)
    (D15.bindsN fun _ _ _ _ _ _ us hl => match us, hl with | [_], _ => rfl) (fun ds L q e h => by first | (obtain ⟨rfl, _⟩ := h; rfl) | (obtain ⟨_, rfl, _⟩ := h; rfl) | (obtain ⟨_, _, rfl, _⟩ := h; rfl) | (obtain ⟨_, _, _, rfl, _⟩ := h; rfl) | (obtain ⟨_, _, _, _, rfl, _⟩ := h; rfl) | (obtain ⟨_, _, _, _, _, rfl, _⟩ := h; rfl) | (obtain ⟨_, _, _, _, _, _, rfl, _⟩ := h; rfl) | (obtain ⟨_, _, _, _, _, _, _, rfl, _⟩ := h; rfl) | (obtain ⟨_, _, _, _, _, _, _, _, rfl, _⟩ := h; rfl) | (obtain ⟨_, _, _, _, _, _, _, _, _, rfl, _⟩ := h; rfl) | (obtain ⟨_, _, _, _, _, _, _, _, _, _, rfl, _⟩ := h; rfl) | (obtain ⟨_, _, _, _, _, _, _, _, _, _, _, rfl, _⟩ := h; rfl) | (obtain ⟨_, _, _, _, _, _, _, _, _, _, _, _, rfl, _⟩ := h; rfl) | (obtain ⟨_, _, _, _, _, _, _, _, _, _, _, _, _, rfl, _⟩ := h; rfl) | (obtain ⟨_, _, _, _, _, _, _, _, _, _, _, _, _, _, rfl, _⟩ := h; rfl) | (obtain ⟨_, _, _, _, _, _, _, _, _, _, _, _, _, _, _, rfl, _⟩ := h; rfl)) (fun X F0 ds L q e h1 h2 h3 h4 h5 cf hr hS => by subst h1 h2 h3 h4 h5; exact b_look_turns cf T hS)
  have C_lfate : Cal P w K mg base 2 "look_fate" (["fate", "late"] : List Str) (S_look_fate K) := cal_of (N := (["fate", "late", "delay", "turns"] : List Str)) (Nc := ([] : List Str)) D16 (g 16 _ rfl) ⟨rfl, rfl, rfl, by decide +kernel, rfl, by decide +kernel, by decide +kernel⟩ (by decide +kernel)
    (D16.bindsN fun _ _ _ _ _ _ us hl => match us, hl with | [_, _], _ => rfl) (fun ds L q e h => by first | (obtain ⟨rfl, _⟩ := h; rfl) | (obtain ⟨_, rfl, _⟩ := h; rfl) | (obtain ⟨_, _, rfl, _⟩ := h; rfl) | (obtain ⟨_, _, _, rfl, _⟩ := h; rfl) | (obtain ⟨_, _, _, _, rfl, _⟩ := h; rfl) | (obtain ⟨_, _, _, _, _, rfl, _⟩ := h; rfl) | (obtain ⟨_, _, _, _, _, _, rfl, _⟩ := h; rfl) | (obtain ⟨_, _, _, _, _, _, _, rfl, _⟩ := h; rfl) | (obtain ⟨_, _, _, _, _, _, _, _, rfl, _⟩ := h; rfl) | (obtain ⟨_, _, _, _, _, _, _, _, _, rfl, _⟩ := h; rfl) | (obtain ⟨_, _, _, _, _, _, _, _, _, _, rfl, _⟩ := h; rfl) | (obtain ⟨_, _, _, _, _, _, _, _, _, _, _, rfl, _⟩ := h; rfl) | (obtain ⟨_, _, _, _, _, _, _, _, _, _, _, _, rfl, _⟩ := h; rfl) | (obtain ⟨_, _, _, _, _, _, _, _, _, _, _, _, _, rfl, _⟩ := h; rfl) | (obtain ⟨_, _, _, _, _, _, _, _, _, _, _, _, _, _, rfl, _⟩ := h; rfl) | (obtain ⟨_, _, _, _, _, _, _, _, _, _, _, _, _, _, _, rfl, _⟩ := h; rfl)) (fun X F0 ds L q e h1 h2 h3 h4 h5 cf hr hS => by subst h1 h2 h3 h4 h5; exact b_look_fate cf T hr C_lturns hS)
  have C_fit : Cal P w K mg base 1 "is_fit" (["fate"] : List Str) S_is_fit := cal_of (N := (["fate"] : List Str)) (Nc := (["delay", "turns"] : List Str)) D17 (g 17 _ rfl) ⟨rfl, rfl, rfl, by decide +kernel, rfl, by decide +kernel, by decide +kernel⟩ (by decide +kernel)
    (D17.bindsN fun _ _ _ _ _ _ us hl => match us, hl with | [_], _ => rfl) (fun ds L q e h => by first | (obtain ⟨rfl, _⟩ := h; rfl) | (obtain ⟨_, rfl, _⟩ := h; rfl) | (obtain ⟨_, _, rfl, _⟩ := h; rfl) | (obtain ⟨_, _, _, rfl, _⟩ := h; rfl) | (obtain ⟨_, _, _, _, rfl, _⟩ := h; rfl) | (obtain ⟨_, _, _, _, _, rfl, _⟩ := h; rfl) | (obtain ⟨_, _, _, _, _, _, rfl, _⟩ := h; rfl) | (obtain ⟨_, _, _, _, _, _, _, rfl, _⟩ := h; rfl) | (obtain ⟨_, _, _, _, _, _, _, _, rfl, _⟩ := h; rfl) | (obtain ⟨_, _, _, _, _, _, _, _, _, rfl, _⟩ := h; rfl) | (obtain ⟨_, _, _, _, _, _, _, _, _, _, rfl, _⟩ := h; rfl) | (obtain ⟨_, _, _, _, _, _, _, _, _, _, _, rfl, _⟩ := h; rfl) | (obtain ⟨_, _, _, _, _, _, _, _, _, _, _, _, rfl, _⟩ := h; rfl) | (obtain ⟨_, _, _, _, _, _, _, _, _, _, _, _, _, rfl, _⟩ := h; rfl) | (obtain ⟨_, _, _, _, _, _, _, _, _, _, _, _, _, _, rfl, _⟩ := h; rfl) | (obtain ⟨_, _, _, _, _, _, _, _, _, _, _, _, _, _, _, rfl, _⟩ := h; rfl)) (fun X F0 ds L q e h1 h2 h3 h4 h5 cf hr hS => by subst h1 h2 h3 h4 h5; exact b_is_fit cf T hS)
  have C_quiet : Cal P w K mg base 3 "quiet_of" (["measure"] : List Str) (S_quiet_of K) := cal_of (N := (["measure"] : List Str)) (Nc := ([] : List Str)) D18 (g 18 _ rfl) ⟨rfl, rfl, rfl, by decide +kernel, rfl, by decide +kernel, by decide +kernel⟩ (by decide +kernel)
    (D18.bindsN fun _ _ _ _ _ _ us hl => match us, hl with | [_], _ => rfl) (fun ds L q e h => by first | (obtain ⟨rfl, _⟩ := h; rfl) | (obtain ⟨_, rfl, _⟩ := h; rfl) | (obtain ⟨_, _, rfl, _⟩ := h; rfl) | (obtain ⟨_, _, _, rfl, _⟩ := h; rfl) | (obtain ⟨_, _, _, _, rfl, _⟩ := h; rfl) | (obtain ⟨_, _, _, _, _, rfl, _⟩ := h; rfl) | (obtain ⟨_, _, _, _, _, _, rfl, _⟩ := h; rfl) | (obtain ⟨_, _, _, _, _, _, _, rfl, _⟩ := h; rfl) | (obtain ⟨_, _, _, _, _, _, _, _, rfl, _⟩ := h; rfl) | (obtain ⟨_, _, _, _, _, _, _, _, _, rfl, _⟩ := h; rfl) | (obtain ⟨_, _, _, _, _, _, _, _, _, _, rfl, _⟩ := h; rfl) | (obtain ⟨_, _, _, _, _, _, _, _, _, _, _, rfl, _⟩ := h; rfl) | (obtain ⟨_, _, _, _, _, _, _, _, _, _, _, _, rfl, _⟩ := h; rfl) | (obtain ⟨_, _, _, _, _, _, _, _, _, _, _, _, _, rfl, _⟩ := h; rfl) | (obtain ⟨_, _, _, _, _, _, _, _, _, _, _, _, _, _, rfl, _⟩ := h; rfl) | (obtain ⟨_, _, _, _, _, _, _, _, _, _, _, _, _, _, _, rfl, _⟩ := h; rfl)) (fun X F0 ds L q e h1 h2 h3 h4 h5 cf hr hS => by subst h1 h2 h3 h4 h5; exact b_quiet_of cf T hr C_measure hS)
  have C_breach : Cal P w K mg base 3 "breach" (["fates", "measure"] : List Str) (S_breach K) := cal_of (N := (["fates", "measure", "run", "place", "fate"] : List Str)) (Nc := ([] : List Str)) D19 (g 19 _ rfl) ⟨rfl, rfl, rfl, by decide +kernel, rfl, by decide +kernel, by decide +kernel⟩ (by decide +kernel)
    (D19.bindsN fun _ _ _ _ _ _ us hl => match us, hl with | [_, _], _ => rfl) (fun ds L q e h => by first | (obtain ⟨rfl, _⟩ := h; rfl) | (obtain ⟨_, rfl, _⟩ := h; rfl) | (obtain ⟨_, _, rfl, _⟩ := h; rfl) | (obtain ⟨_, _, _, rfl, _⟩ := h; rfl) | (obtain ⟨_, _, _, _, rfl, _⟩ := h; rfl) | (obtain ⟨_, _, _, _, _, rfl, _⟩ := h; rfl) | (obtain ⟨_, _, _, _, _, _, rfl, _⟩ := h; rfl) | (obtain ⟨_, _, _, _, _, _, _, rfl, _⟩ := h; rfl) | (obtain ⟨_, _, _, _, _, _, _, _, rfl, _⟩ := h; rfl) | (obtain ⟨_, _, _, _, _, _, _, _, _, rfl, _⟩ := h; rfl) | (obtain ⟨_, _, _, _, _, _, _, _, _, _, rfl, _⟩ := h; rfl) | (obtain ⟨_, _, _, _, _, _, _, _, _, _, _, rfl, _⟩ := h; rfl) | (obtain ⟨_, _, _, _, _, _, _, _, _, _, _, _, rfl, _⟩ := h; rfl) | (obtain ⟨_, _, _, _, _, _, _, _, _, _, _, _, _, rfl, _⟩ := h; rfl) | (obtain ⟨_, _, _, _, _, _, _, _, _, _, _, _, _, _, rfl, _⟩ := h; rfl) | (obtain ⟨_, _, _, _, _, _, _, _, _, _, _, _, _, _, _, rfl, _⟩ := h; rfl)) (fun X F0 ds L q e h1 h2 h3 h4 h5 cf hr hS => by subst h1 h2 h3 h4 h5; exact b_breach cf T hr C_measure C_fit hS)
  have C_lcell : Cal P w K mg base 1 "look_cell" (["cell"] : List Str) S_look_cell := cal_of (N := (["cell"] : List Str)) (Nc := ([] : List Str)) D20 (g 20 _ rfl) ⟨rfl, rfl, rfl, by decide +kernel, rfl, by decide +kernel, by decide +kernel⟩ (by decide +kernel)
    (D20.bindsN fun _ _ _ _ _ _ us hl => match us, hl with | [_], _ => rfl) (fun ds L q e h => by first | (obtain ⟨rfl, _⟩ := h; rfl) | (obtain ⟨_, rfl, _⟩ := h; rfl) | (obtain ⟨_, _, rfl, _⟩ := h; rfl) | (obtain ⟨_, _, _, rfl, _⟩ := h; rfl) | (obtain ⟨_, _, _, _, rfl, _⟩ := h; rfl) | (obtain ⟨_, _, _, _, _, rfl, _⟩ := h; rfl) | (obtain ⟨_, _, _, _, _, _, rfl, _⟩ := h; rfl) | (obtain ⟨_, _, _, _, _, _, _, rfl, _⟩ := h; rfl) | (obtain ⟨_, _, _, _, _, _, _, _, rfl, _⟩ := h; rfl) | (obtain ⟨_, _, _, _, _, _, _, _, _, rfl, _⟩ := h; rfl) | (obtain ⟨_, _, _, _, _, _, _, _, _, _, rfl, _⟩ := h; rfl) | (obtain ⟨_, _, _, _, _, _, _, _, _, _, _, rfl, _⟩ := h; rfl) | (obtain ⟨_, _, _, _, _, _, _, _, _, _, _, _, rfl, _⟩ := h; rfl) | (obtain ⟨_, _, _, _, _, _, _, _, _, _, _, _, _, rfl, _⟩ := h; rfl) | (obtain ⟨_, _, _, _, _, _, _, _, _, _, _, _, _, _, rfl, _⟩ := h; rfl) | (obtain ⟨_, _, _, _, _, _, _, _, _, _, _, _, _, _, _, rfl, _⟩ := h; rfl)) (fun X F0 ds L q e h1 h2 h3 h4 h5 cf hr hS => by subst h1 h2 h3 h4 h5; exact b_look_cell cf T hS)
  have C_turned : Cal P w K mg base 1 "turned_cell" (["cell", "turns"] : List Str) S_turned_cell := cal_of (N := (["cell", "turns", "told", "place", "add"] : List Str)) (Nc := ([] : List Str)) D21 (g 21 _ rfl) ⟨rfl, rfl, rfl, by decide +kernel, rfl, by decide +kernel, by decide +kernel⟩ (by decide +kernel)
    (D21.bindsN fun _ _ _ _ _ _ us hl => match us, hl with | [_, _], _ => rfl) (fun ds L q e h => by first | (obtain ⟨rfl, _⟩ := h; rfl) | (obtain ⟨_, rfl, _⟩ := h; rfl) | (obtain ⟨_, _, rfl, _⟩ := h; rfl) | (obtain ⟨_, _, _, rfl, _⟩ := h; rfl) | (obtain ⟨_, _, _, _, rfl, _⟩ := h; rfl) | (obtain ⟨_, _, _, _, _, rfl, _⟩ := h; rfl) | (obtain ⟨_, _, _, _, _, _, rfl, _⟩ := h; rfl) | (obtain ⟨_, _, _, _, _, _, _, rfl, _⟩ := h; rfl) | (obtain ⟨_, _, _, _, _, _, _, _, rfl, _⟩ := h; rfl) | (obtain ⟨_, _, _, _, _, _, _, _, _, rfl, _⟩ := h; rfl) | (obtain ⟨_, _, _, _, _, _, _, _, _, _, rfl, _⟩ := h; rfl) | (obtain ⟨_, _, _, _, _, _, _, _, _, _, _, rfl, _⟩ := h; rfl) | (obtain ⟨_, _, _, _, _, _, _, _, _, _, _, _, rfl, _⟩ := h; rfl) | (obtain ⟨_, _, _, _, _, _, _, _, _, _, _, _, _, rfl, _⟩ := h; rfl) | (obtain ⟨_, _, _, _, _, _, _, _, _, _, _, _, _, _, rfl, _⟩ := h; rfl) | (obtain ⟨_, _, _, _, _, _, _, _, _, _, _, _, _, _, _, rfl, _⟩ := h; rfl)) (fun X F0 ds L q e h1 h2 h3 h4 h5 cf hr hS => by subst h1 h2 h3 h4 h5; exact b_turned_cell cf T hS)
  have C_air : Mkr P w K mg base 2 "Air" (He.ga K "Air") (["self", "late"] : List Str) (S_init K) := mkr_of (N := (["self", "late"] : List Str)) (Nc := ([] : List Str)) D22 T.mg_Air T.mk_Air ⟨rfl, rfl, rfl, by decide +kernel, rfl, by decide +kernel, by decide +kernel⟩ (by decide +kernel)
    (D22.bindsN fun _ _ _ _ _ _ us hl => match us, hl with | [_, _], _ => rfl) (fun ds L q e h => by first | (obtain ⟨rfl, _⟩ := h; rfl) | (obtain ⟨_, rfl, _⟩ := h; rfl) | (obtain ⟨_, _, rfl, _⟩ := h; rfl) | (obtain ⟨_, _, _, rfl, _⟩ := h; rfl) | (obtain ⟨_, _, _, _, rfl, _⟩ := h; rfl) | (obtain ⟨_, _, _, _, _, rfl, _⟩ := h; rfl) | (obtain ⟨_, _, _, _, _, _, rfl, _⟩ := h; rfl) | (obtain ⟨_, _, _, _, _, _, _, rfl, _⟩ := h; rfl) | (obtain ⟨_, _, _, _, _, _, _, _, rfl, _⟩ := h; rfl) | (obtain ⟨_, _, _, _, _, _, _, _, _, rfl, _⟩ := h; rfl) | (obtain ⟨_, _, _, _, _, _, _, _, _, _, rfl, _⟩ := h; rfl) | (obtain ⟨_, _, _, _, _, _, _, _, _, _, _, rfl, _⟩ := h; rfl) | (obtain ⟨_, _, _, _, _, _, _, _, _, _, _, _, rfl, _⟩ := h; rfl) | (obtain ⟨_, _, _, _, _, _, _, _, _, _, _, _, _, rfl, _⟩ := h; rfl) | (obtain ⟨_, _, _, _, _, _, _, _, _, _, _, _, _, _, rfl, _⟩ := h; rfl) | (obtain ⟨_, _, _, _, _, _, _, _, _, _, _, _, _, _, _, rfl, _⟩ := h; rfl)) (fun X F0 ds L q e h1 h2 h3 h4 h5 cf hr hS => by subst h1 h2 h3 h4 h5; exact b_init cf T hr C_late hS)
  have C_come : Met P w K mg base 1 (He.ga K "Air") "come" (["self", "tick"] : List Str) (S_come K) := met_of (N := (["self", "tick"] : List Str)) (Nc := ([] : List Str)) D23 T.cl_Air T.me_Air_come ⟨rfl, rfl, rfl, by decide +kernel, rfl, by decide +kernel, by decide +kernel⟩ (by decide +kernel)
    (D23.bindsN fun _ _ _ _ _ _ us hl => match us, hl with | [_, _], _ => rfl) (fun ds L q e h => by first | (obtain ⟨rfl, _⟩ := h; rfl) | (obtain ⟨_, rfl, _⟩ := h; rfl) | (obtain ⟨_, _, rfl, _⟩ := h; rfl) | (obtain ⟨_, _, _, rfl, _⟩ := h; rfl) | (obtain ⟨_, _, _, _, rfl, _⟩ := h; rfl) | (obtain ⟨_, _, _, _, _, rfl, _⟩ := h; rfl) | (obtain ⟨_, _, _, _, _, _, rfl, _⟩ := h; rfl) | (obtain ⟨_, _, _, _, _, _, _, rfl, _⟩ := h; rfl) | (obtain ⟨_, _, _, _, _, _, _, _, rfl, _⟩ := h; rfl) | (obtain ⟨_, _, _, _, _, _, _, _, _, rfl, _⟩ := h; rfl) | (obtain ⟨_, _, _, _, _, _, _, _, _, _, rfl, _⟩ := h; rfl) | (obtain ⟨_, _, _, _, _, _, _, _, _, _, _, rfl, _⟩ := h; rfl) | (obtain ⟨_, _, _, _, _, _, _, _, _, _, _, _, rfl, _⟩ := h; rfl) | (obtain ⟨_, _, _, _, _, _, _, _, _, _, _, _, _, rfl, _⟩ := h; rfl) | (obtain ⟨_, _, _, _, _, _, _, _, _, _, _, _, _, _, rfl, _⟩ := h; rfl) | (obtain ⟨_, _, _, _, _, _, _, _, _, _, _, _, _, _, _, rfl, _⟩ := h; rfl)) (fun X F0 ds L q e h1 h2 h3 h4 h5 cf hr hS => by subst h1 h2 h3 h4 h5; exact b_come cf T hS)
  have C_give : Met P w K mg base 3 (He.ga K "Air") "give" (["self", "cell", "fate", "tick"] : List Str) (S_give K) := met_of (N := (["self", "cell", "fate", "tick", "delay", "turns", "at"] : List Str)) (Nc := ([] : List Str)) D24 T.cl_Air T.me_Air_give ⟨rfl, rfl, rfl, by decide +kernel, rfl, by decide +kernel, by decide +kernel⟩ (by decide +kernel)
    (D24.bindsN fun _ _ _ _ _ _ us hl => match us, hl with | [_, _, _, _], _ => rfl) (fun ds L q e h => by first | (obtain ⟨rfl, _⟩ := h; rfl) | (obtain ⟨_, rfl, _⟩ := h; rfl) | (obtain ⟨_, _, rfl, _⟩ := h; rfl) | (obtain ⟨_, _, _, rfl, _⟩ := h; rfl) | (obtain ⟨_, _, _, _, rfl, _⟩ := h; rfl) | (obtain ⟨_, _, _, _, _, rfl, _⟩ := h; rfl) | (obtain ⟨_, _, _, _, _, _, rfl, _⟩ := h; rfl) | (obtain ⟨_, _, _, _, _, _, _, rfl, _⟩ := h; rfl) | (obtain ⟨_, _, _, _, _, _, _, _, rfl, _⟩ := h; rfl) | (obtain ⟨_, _, _, _, _, _, _, _, _, rfl, _⟩ := h; rfl) | (obtain ⟨_, _, _, _, _, _, _, _, _, _, rfl, _⟩ := h; rfl) | (obtain ⟨_, _, _, _, _, _, _, _, _, _, _, rfl, _⟩ := h; rfl) | (obtain ⟨_, _, _, _, _, _, _, _, _, _, _, _, rfl, _⟩ := h; rfl) | (obtain ⟨_, _, _, _, _, _, _, _, _, _, _, _, _, rfl, _⟩ := h; rfl) | (obtain ⟨_, _, _, _, _, _, _, _, _, _, _, _, _, _, rfl, _⟩ := h; rfl) | (obtain ⟨_, _, _, _, _, _, _, _, _, _, _, _, _, _, _, rfl, _⟩ := h; rfl)) (fun X F0 ds L q e h1 h2 h3 h4 h5 cf hr hS => by subst h1 h2 h3 h4 h5; exact b_give cf T hr C_lcell C_lfate C_turned hS)
  have C_cell : Cal P w K mg base 1 "_law_cell" (["script", "k"] : List Str) S_law_cell := cal_of (N := (["script", "k"] : List Str)) (Nc := ([] : List Str)) D25 (g 22 _ rfl) ⟨rfl, rfl, rfl, by decide +kernel, rfl, by decide +kernel, by decide +kernel⟩ (by decide +kernel)
    (D25.bindsN fun _ _ _ _ _ _ us hl => match us, hl with | [_, _], _ => rfl) (fun ds L q e h => by first | (obtain ⟨rfl, _⟩ := h; rfl) | (obtain ⟨_, rfl, _⟩ := h; rfl) | (obtain ⟨_, _, rfl, _⟩ := h; rfl) | (obtain ⟨_, _, _, rfl, _⟩ := h; rfl) | (obtain ⟨_, _, _, _, rfl, _⟩ := h; rfl) | (obtain ⟨_, _, _, _, _, rfl, _⟩ := h; rfl) | (obtain ⟨_, _, _, _, _, _, rfl, _⟩ := h; rfl) | (obtain ⟨_, _, _, _, _, _, _, rfl, _⟩ := h; rfl) | (obtain ⟨_, _, _, _, _, _, _, _, rfl, _⟩ := h; rfl) | (obtain ⟨_, _, _, _, _, _, _, _, _, rfl, _⟩ := h; rfl) | (obtain ⟨_, _, _, _, _, _, _, _, _, _, rfl, _⟩ := h; rfl) | (obtain ⟨_, _, _, _, _, _, _, _, _, _, _, rfl, _⟩ := h; rfl) | (obtain ⟨_, _, _, _, _, _, _, _, _, _, _, _, rfl, _⟩ := h; rfl) | (obtain ⟨_, _, _, _, _, _, _, _, _, _, _, _, _, rfl, _⟩ := h; rfl) | (obtain ⟨_, _, _, _, _, _, _, _, _, _, _, _, _, _, rfl, _⟩ := h; rfl) | (obtain ⟨_, _, _, _, _, _, _, _, _, _, _, _, _, _, _, rfl, _⟩ := h; rfl)) (fun X F0 ds L q e h1 h2 h3 h4 h5 cf hr hS => by subst h1 h2 h3 h4 h5; exact b_law_cell cf T hS)
  have C_pot : Cal P w K mg base 1 "_law_pot" (["cell"] : List Str) S_law_pot := cal_of (N := (["cell", "rest"] : List Str)) (Nc := ([] : List Str)) D26 (g 23 _ rfl) ⟨rfl, rfl, rfl, by decide +kernel, rfl, by decide +kernel, by decide +kernel⟩ (by decide +kernel)
    (D26.bindsN fun _ _ _ _ _ _ us hl => match us, hl with | [_], _ => rfl) (fun ds L q e h => by first | (obtain ⟨rfl, _⟩ := h; rfl) | (obtain ⟨_, rfl, _⟩ := h; rfl) | (obtain ⟨_, _, rfl, _⟩ := h; rfl) | (obtain ⟨_, _, _, rfl, _⟩ := h; rfl) | (obtain ⟨_, _, _, _, rfl, _⟩ := h; rfl) | (obtain ⟨_, _, _, _, _, rfl, _⟩ := h; rfl) | (obtain ⟨_, _, _, _, _, _, rfl, _⟩ := h; rfl) | (obtain ⟨_, _, _, _, _, _, _, rfl, _⟩ := h; rfl) | (obtain ⟨_, _, _, _, _, _, _, _, rfl, _⟩ := h; rfl) | (obtain ⟨_, _, _, _, _, _, _, _, _, rfl, _⟩ := h; rfl) | (obtain ⟨_, _, _, _, _, _, _, _, _, _, rfl, _⟩ := h; rfl) | (obtain ⟨_, _, _, _, _, _, _, _, _, _, _, rfl, _⟩ := h; rfl) | (obtain ⟨_, _, _, _, _, _, _, _, _, _, _, _, rfl, _⟩ := h; rfl) | (obtain ⟨_, _, _, _, _, _, _, _, _, _, _, _, _, rfl, _⟩ := h; rfl) | (obtain ⟨_, _, _, _, _, _, _, _, _, _, _, _, _, _, rfl, _⟩ := h; rfl) | (obtain ⟨_, _, _, _, _, _, _, _, _, _, _, _, _, _, _, rfl, _⟩ := h; rfl)) (fun X F0 ds L q e h1 h2 h3 h4 h5 cf hr hS => by subst h1 h2 h3 h4 h5; exact b_law_pot cf T hS)
  have C_take0 : Cal P w K mg base 1 "_law_take" (["pot", "size"] : List Str) S_law_take := cal_of (N := (["pot", "size", "digit", "k", "mark"] : List Str)) (Nc := ([] : List Str)) D27 (g 24 _ rfl) ⟨rfl, rfl, rfl, by decide +kernel, rfl, by decide +kernel, by decide +kernel⟩ (by decide +kernel)
    (D27.bindsN fun _ _ _ _ _ _ us hl => match us, hl with | [_, _], _ => rfl) (fun ds L q e h => by first | (obtain ⟨rfl, _⟩ := h; rfl) | (obtain ⟨_, rfl, _⟩ := h; rfl) | (obtain ⟨_, _, rfl, _⟩ := h; rfl) | (obtain ⟨_, _, _, rfl, _⟩ := h; rfl) | (obtain ⟨_, _, _, _, rfl, _⟩ := h; rfl) | (obtain ⟨_, _, _, _, _, rfl, _⟩ := h; rfl) | (obtain ⟨_, _, _, _, _, _, rfl, _⟩ := h; rfl) | (obtain ⟨_, _, _, _, _, _, _, rfl, _⟩ := h; rfl) | (obtain ⟨_, _, _, _, _, _, _, _, rfl, _⟩ := h; rfl) | (obtain ⟨_, _, _, _, _, _, _, _, _, rfl, _⟩ := h; rfl) | (obtain ⟨_, _, _, _, _, _, _, _, _, _, rfl, _⟩ := h; rfl) | (obtain ⟨_, _, _, _, _, _, _, _, _, _, _, rfl, _⟩ := h; rfl) | (obtain ⟨_, _, _, _, _, _, _, _, _, _, _, _, rfl, _⟩ := h; rfl) | (obtain ⟨_, _, _, _, _, _, _, _, _, _, _, _, _, rfl, _⟩ := h; rfl) | (obtain ⟨_, _, _, _, _, _, _, _, _, _, _, _, _, _, rfl, _⟩ := h; rfl) | (obtain ⟨_, _, _, _, _, _, _, _, _, _, _, _, _, _, _, rfl, _⟩ := h; rfl)) (fun X F0 ds L q e h1 h2 h3 h4 h5 cf hr hS => by subst h1 h2 h3 h4 h5; exact b_law_take cf T hS)
  have C_take : Cal P w K mg base 1 "_law_take" (["pot", "size"] : List Str) S_take := C_take0.imp fun _ _ _ _ h => take_imp h
  have C_turns : Cal P w K mg base 2 "_law_turns" (["pot", "most"] : List Str) S_law_turns := cal_of (N := (["pot", "most", "many", "turns", "at", "k"] : List Str)) (Nc := ([] : List Str)) D28 (g 25 _ rfl) ⟨rfl, rfl, rfl, by decide +kernel, rfl, by decide +kernel, by decide +kernel⟩ (by decide +kernel)
    (D28.bindsN fun _ _ _ _ _ _ us hl => match us, hl with | [_, _], _ => rfl) (fun ds L q e h => by first | (obtain ⟨rfl, _⟩ := h; rfl) | (obtain ⟨_, rfl, _⟩ := h; rfl) | (obtain ⟨_, _, rfl, _⟩ := h; rfl) | (obtain ⟨_, _, _, rfl, _⟩ := h; rfl) | (obtain ⟨_, _, _, _, rfl, _⟩ := h; rfl) | (obtain ⟨_, _, _, _, _, rfl, _⟩ := h; rfl) | (obtain ⟨_, _, _, _, _, _, rfl, _⟩ := h; rfl) | (obtain ⟨_, _, _, _, _, _, _, rfl, _⟩ := h; rfl) | (obtain ⟨_, _, _, _, _, _, _, _, rfl, _⟩ := h; rfl) | (obtain ⟨_, _, _, _, _, _, _, _, _, rfl, _⟩ := h; rfl) | (obtain ⟨_, _, _, _, _, _, _, _, _, _, rfl, _⟩ := h; rfl) | (obtain ⟨_, _, _, _, _, _, _, _, _, _, _, rfl, _⟩ := h; rfl) | (obtain ⟨_, _, _, _, _, _, _, _, _, _, _, _, rfl, _⟩ := h; rfl) | (obtain ⟨_, _, _, _, _, _, _, _, _, _, _, _, _, rfl, _⟩ := h; rfl) | (obtain ⟨_, _, _, _, _, _, _, _, _, _, _, _, _, _, rfl, _⟩ := h; rfl) | (obtain ⟨_, _, _, _, _, _, _, _, _, _, _, _, _, _, _, rfl, _⟩ := h; rfl)) (fun X F0 ds L q e h1 h2 h3 h4 h5 cf hr hS => by subst h1 h2 h3 h4 h5; exact b_law_turns cf T hr C_take hS)
  have C_fate : Cal P w K mg base 3 "_law_fate" (["pot", "late"] : List Str) S_law_fate := cal_of (N := (["pot", "late", "fate", "k", "delay"] : List Str)) (Nc := ([] : List Str)) D29 (g 26 _ rfl) ⟨rfl, rfl, rfl, by decide +kernel, rfl, by decide +kernel, by decide +kernel⟩ (by decide +kernel)
    (D29.bindsN fun _ _ _ _ _ _ us hl => match us, hl with | [_, _], _ => rfl) (fun ds L q e h => by first | (obtain ⟨rfl, _⟩ := h; rfl) | (obtain ⟨_, rfl, _⟩ := h; rfl) | (obtain ⟨_, _, rfl, _⟩ := h; rfl) | (obtain ⟨_, _, _, rfl, _⟩ := h; rfl) | (obtain ⟨_, _, _, _, rfl, _⟩ := h; rfl) | (obtain ⟨_, _, _, _, _, rfl, _⟩ := h; rfl) | (obtain ⟨_, _, _, _, _, _, rfl, _⟩ := h; rfl) | (obtain ⟨_, _, _, _, _, _, _, rfl, _⟩ := h; rfl) | (obtain ⟨_, _, _, _, _, _, _, _, rfl, _⟩ := h; rfl) | (obtain ⟨_, _, _, _, _, _, _, _, _, rfl, _⟩ := h; rfl) | (obtain ⟨_, _, _, _, _, _, _, _, _, _, rfl, _⟩ := h; rfl) | (obtain ⟨_, _, _, _, _, _, _, _, _, _, _, rfl, _⟩ := h; rfl) | (obtain ⟨_, _, _, _, _, _, _, _, _, _, _, _, rfl, _⟩ := h; rfl) | (obtain ⟨_, _, _, _, _, _, _, _, _, _, _, _, _, rfl, _⟩ := h; rfl) | (obtain ⟨_, _, _, _, _, _, _, _, _, _, _, _, _, _, rfl, _⟩ := h; rfl) | (obtain ⟨_, _, _, _, _, _, _, _, _, _, _, _, _, _, _, rfl, _⟩ := h; rfl)) (fun X F0 ds L q e h1 h2 h3 h4 h5 cf hr hS => by subst h1 h2 h3 h4 h5; exact b_law_fate cf T hr C_take C_turns hS)
  have C_fits : Cal P w K mg base 1 "_law_fits" (["fate"] : List Str) S_law_fits := cal_of (N := (["fate"] : List Str)) (Nc := (["delay", "turns"] : List Str)) D30 (g 27 _ rfl) ⟨rfl, rfl, rfl, by decide +kernel, rfl, by decide +kernel, by decide +kernel⟩ (by decide +kernel)
    (D30.bindsN fun _ _ _ _ _ _ us hl => match us, hl with | [_], _ => rfl) (fun ds L q e h => by first | (obtain ⟨rfl, _⟩ := h; rfl) | (obtain ⟨_, rfl, _⟩ := h; rfl) | (obtain ⟨_, _, rfl, _⟩ := h; rfl) | (obtain ⟨_, _, _, rfl, _⟩ := h; rfl) | (obtain ⟨_, _, _, _, rfl, _⟩ := h; rfl) | (obtain ⟨_, _, _, _, _, rfl, _⟩ := h; rfl) | (obtain ⟨_, _, _, _, _, _, rfl, _⟩ := h; rfl) | (obtain ⟨_, _, _, _, _, _, _, rfl, _⟩ := h; rfl) | (obtain ⟨_, _, _, _, _, _, _, _, rfl, _⟩ := h; rfl) | (obtain ⟨_, _, _, _, _, _, _, _, _, rfl, _⟩ := h; rfl) | (obtain ⟨_, _, _, _, _, _, _, _, _, _, rfl, _⟩ := h; rfl) | (obtain ⟨_, _, _, _, _, _, _, _, _, _, _, rfl, _⟩ := h; rfl) | (obtain ⟨_, _, _, _, _, _, _, _, _, _, _, _, rfl, _⟩ := h; rfl) | (obtain ⟨_, _, _, _, _, _, _, _, _, _, _, _, _, rfl, _⟩ := h; rfl) | (obtain ⟨_, _, _, _, _, _, _, _, _, _, _, _, _, _, rfl, _⟩ := h; rfl) | (obtain ⟨_, _, _, _, _, _, _, _, _, _, _, _, _, _, _, rfl, _⟩ := h; rfl)) (fun X F0 ds L q e h1 h2 h3 h4 h5 cf hr hS => by subst h1 h2 h3 h4 h5; exact b_law_fits cf T hS)
  have C_fates : Cal P w K mg base 4 "_law_fates" (["script", "late", "lost", "kept"] : List Str) S_law_fates := cal_of (N := (["script", "late", "lost", "kept", "fates", "run", "cell", "fate"] : List Str)) (Nc := ([] : List Str)) D31 (g 28 _ rfl) ⟨rfl, rfl, rfl, by decide +kernel, rfl, by decide +kernel, by decide +kernel⟩ (by decide +kernel)
    (D31.bindsN fun _ _ _ _ _ _ us hl => match us, hl with | [_, _, _, _], _ => rfl) (fun ds L q e h => by first | (obtain ⟨rfl, _⟩ := h; rfl) | (obtain ⟨_, rfl, _⟩ := h; rfl) | (obtain ⟨_, _, rfl, _⟩ := h; rfl) | (obtain ⟨_, _, _, rfl, _⟩ := h; rfl) | (obtain ⟨_, _, _, _, rfl, _⟩ := h; rfl) | (obtain ⟨_, _, _, _, _, rfl, _⟩ := h; rfl) | (obtain ⟨_, _, _, _, _, _, rfl, _⟩ := h; rfl) | (obtain ⟨_, _, _, _, _, _, _, rfl, _⟩ := h; rfl) | (obtain ⟨_, _, _, _, _, _, _, _, rfl, _⟩ := h; rfl) | (obtain ⟨_, _, _, _, _, _, _, _, _, rfl, _⟩ := h; rfl) | (obtain ⟨_, _, _, _, _, _, _, _, _, _, rfl, _⟩ := h; rfl) | (obtain ⟨_, _, _, _, _, _, _, _, _, _, _, rfl, _⟩ := h; rfl) | (obtain ⟨_, _, _, _, _, _, _, _, _, _, _, _, rfl, _⟩ := h; rfl) | (obtain ⟨_, _, _, _, _, _, _, _, _, _, _, _, _, rfl, _⟩ := h; rfl) | (obtain ⟨_, _, _, _, _, _, _, _, _, _, _, _, _, _, rfl, _⟩ := h; rfl) | (obtain ⟨_, _, _, _, _, _, _, _, _, _, _, _, _, _, _, rfl, _⟩ := h; rfl)) (fun X F0 ds L q e h1 h2 h3 h4 h5 cf hr hS => by subst h1 h2 h3 h4 h5; exact b_law_fates cf T hr C_pot C_fate C_fits hS)
  have C_heard : Cal P w K mg base 7 "_law_heard" (["script", "fates", "late"] : List Str) (S_law_heard K) := cal_of (N := (["script", "fates", "late", "air", "heard_at", "tick", "came", "due", "start", "pot"] : List Str)) (Nc := (["told", "delay", "turns", "k"] : List Str)) D32 (g 29 _ rfl) ⟨rfl, rfl, rfl, by decide +kernel, rfl, by decide +kernel, by decide +kernel⟩ (by decide +kernel)
    (D32.bindsN fun _ _ _ _ _ _ us hl => match us, hl with | [_, _, _], _ => rfl) (fun ds L q e h => by first | (obtain ⟨rfl, _⟩ := h; rfl) | (obtain ⟨_, rfl, _⟩ := h; rfl) | (obtain ⟨_, _, rfl, _⟩ := h; rfl) | (obtain ⟨_, _, _, rfl, _⟩ := h; rfl) | (obtain ⟨_, _, _, _, rfl, _⟩ := h; rfl) | (obtain ⟨_, _, _, _, _, rfl, _⟩ := h; rfl) | (obtain ⟨_, _, _, _, _, _, rfl, _⟩ := h; rfl) | (obtain ⟨_, _, _, _, _, _, _, rfl, _⟩ := h; rfl) | (obtain ⟨_, _, _, _, _, _, _, _, rfl, _⟩ := h; rfl) | (obtain ⟨_, _, _, _, _, _, _, _, _, rfl, _⟩ := h; rfl) | (obtain ⟨_, _, _, _, _, _, _, _, _, _, rfl, _⟩ := h; rfl) | (obtain ⟨_, _, _, _, _, _, _, _, _, _, _, rfl, _⟩ := h; rfl) | (obtain ⟨_, _, _, _, _, _, _, _, _, _, _, _, rfl, _⟩ := h; rfl) | (obtain ⟨_, _, _, _, _, _, _, _, _, _, _, _, _, rfl, _⟩ := h; rfl) | (obtain ⟨_, _, _, _, _, _, _, _, _, _, _, _, _, _, rfl, _⟩ := h; rfl) | (obtain ⟨_, _, _, _, _, _, _, _, _, _, _, _, _, _, _, rfl, _⟩ := h; rfl)) (fun X F0 ds L q e h1 h2 h3 h4 h5 cf hr hS => by subst h1 h2 h3 h4 h5; exact b_law_heard cf T hr C_air C_come C_give C_readable C_sealed C_take C_pot C_cell hS)
  exact fn_ok (N := (["script", "pot", "late", "lost", "fates", "heard_at", "quiet", "place", "first", "silent"] : List Str)) (Nc := ([] : List Str)) D33 ⟨rfl, rfl, rfl, by decide +kernel, rfl, by decide +kernel, by decide +kernel⟩ (by decide +kernel) (fun ds L q e h => by obtain ⟨_, rfl, _⟩ := h; rfl) (fun X F0 ds L q e h1 h2 h3 h4 h5 cf hr hS => by subst h1 h2 h3 h4 h5; exact b_law cf T hr C_pot C_cell C_take C_fates C_heard C_quiet C_breach hS)
end K21
open PySem PySem.W PySem.Calls PyProof.Rows
theorem PySem.Challenge.cw_stormpost_k21_whole_quiet_ticks_holds : PySem.Challenge.rw_stormpost_k21_whole_quiet_ticks.Holds := by
  w_on; o_law
  refine HandSHeadRun.head_any (r := OpenLaw.row PySem.Challenge.rw_stormpost_k21_whole_quiet_ticks) (q := view (OpenLaw.row PySem.Challenge.rw_stormpost_k21_whole_quiet_ticks).prog [57]) (H := K21.hk) (ob := K21.ob) (M := 3000) (loose := K21.loose) (d := HandSHeadRun.topDef (OpenLaw.row PySem.Challenge.rw_stormpost_k21_whole_quiet_ticks).prog 57) (kwd := []) K21.ob_eq
    (by kernel_rfl) (fun s => by kernel_rfl) K21.run (by kernel_rfl) (by kernel_rfl) (by kernel_rfl) (by rfl) (by first | assumption | decide +kernel) (by decide +kernel) ⟨rfl, rfl, rfl, rfl, rfl, by decide +kernel⟩ ?hw ?hc
  case hw => w_witness2
  case hc =>
    refine Vs.walk_ofV (l := PySem.Challenge.rw_stormpost_k21_whole_quiet_ticks) (n := 63) (k := 8) (x := "script") (CX := fun w => L2.CX PySem.Challenge.rw_stormpost_k21_whole_quiet_ticks.prog w) rfl (by decide) (by kernel_rfl) ⟨rfl, by decide, by decide⟩ ?F (fun w H s e s' h => Vs.noCX H s e s' h)
    intro w mg fa h Y G hmg0
    obtain ⟨K, KX, c⟩ := Y
    have hmg : mg ("law" : PySem.Str) = some (.ref fa) := by
      have e : (HandSHeadRun.topDef (OpenLaw.row PySem.Challenge.rw_stormpost_k21_whole_quiet_ticks).prog 57).name = ("law" : PySem.Str) := by kernel_rfl
      rw [← e]
      exact hmg0
    obtain ⟨fd, hb, hF⟩ := K21.facts (P := PySem.Challenge.rw_stormpost_k21_whole_quiet_ticks.prog) (w := w) KX G hmg c
    exact ⟨K, fd, Vs.spOf K K21.S_law, KX, hb, fun H a ns hl hO hS => Vs.law_sp (S := K21.S_law) (fun ns hn q e hq => ⟨ns, rfl, hn, hq⟩) H a ns hl hO hS, hF⟩


