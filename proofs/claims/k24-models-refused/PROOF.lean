import PyProof.Rows.All
import Wide.All
import OpenK.AllK
import Wide.FinOn
import HandS.ForMost
import HandS.ForExc
import HandS.Wide
import HandS.IsInst
import HandS.ExcIs
import HandS.Conv
import HandS.HeadHook1
import HandS.Defaults
import KE.KeyNested
import HandS.SuiteRaise
import HandS.Zip
import HandS.Rev
import HandS.TupLe
import HandS.TupAny
import HandS.TupMul
import HandS.Deep
import HandS.Sort
import HandS.Dict
import HandS.Iter
import HandS.WordsDict
import HandS.Style
import KE.GoesEnum
import HandS.TryOnly
import HandS.Strs
import PyProof.Rows.SetFrom
import HandS.SetFor
import HandS.More
import HandS.Text
import HandS.Replace
import HandS.SortInts
import KE.SortData
import KE.LtData
import HandS.SetKeys
import HandS.DictComp
import HandS.TupLen
import PyProof.Rows.TupDisplay
import HandS.Head0
import HandS.Head1
import HandS.Head2
import HandS.HeadEnd
import HandS.HeadHook2
import HandS.HotCalls
import PySem.Challenge.RW_stormpost_k24_models_refused
set_option Elab.async false
set_option linter.all false
set_option maxRecDepth 100000
set_option maxHeartbeats 4000000
/-! A layer of my own over the hand layer: expressions and statements read on plain data (D), with a ledger of the objects that change. -/
namespace Vs
open PySem PySem.Spec PyProof.Rows L2

/-- plain data: lists and tuples that nobody changes any more by what they hold; ref: an object by its address -/
inductive D where
  | non | bl (b : Bool) | int (i : Int) | str (x : Str) | lst (ds : List D) | tup (ds : List D) | ref (a : Addr) | ty (n : String) | rng (lo hi : Int) | exc (cls : Value) | exf (C : Addr) (ns : List Str) (ds : List D)
/-- what stands in the ledger: an object that may be changed -/
inductive C where
  | lst (ds : List D) | obj (c : Addr) (fs : List (Str × D)) | dic (kvs : List (Key × D)) | dit (w : World) (kvs : List (NestedKey × D))
abbrev Gm := List (Option D)
abbrev Lg := List (Addr × C)
abbrev dI (xs : List Int) : List D := xs.map D.int

/-- an exception without fields that is held as a value, at a -/
def XvO (cls : Value) (a : Addr) (o : HO) : Prop := ∃ φ : Heap → Prop, o = .ext φ ∧ ∀ h, φ h → ∃ (oe : Obj) (vs : Array Value), h.get? a = some oe ∧ Zc cls none oe ∧ oe.data = .fields vs
/-- one with fields, its dict at d -/
def XvF (C d a : Addr) (o : HO) : Prop := ∃ φ : Heap → Prop, o = .ext φ ∧ ∀ h, φ h → ∃ (oe : Obj) (vs : Array Value), h.get? a = some oe ∧ Zc (.ref C) (some d) oe ∧ oe.data = .fields vs
mutual
inductive Rep (K : PySem.W.Frag) (F : Hp) : D → V → Prop
  | non : Rep K F .non .non
  | exc {cls : Value} {a : Addr} {o : HO} : F a = some o → XvO cls a o → Rep K F (.exc cls) (.ref a)
  | exf {C a d : Addr} {o : HO} {ns : List Str} {ds : List D} {vs : List V} : F a = some o → XvF C d a o → F d = some (.xd (ns.zip vs)) → Reps K F ds vs → Rep K F (.exf C ns ds) (.ref a)
  | bl {b : Bool} : Rep K F (.bl b) (.bl b)
  | int {i : Int} : Rep K F (.int i) (.int i)
  | str {x : Str} : Rep K F (.str x) (.str x)
  | lst {ds : List D} {a : Addr} {xs : List V} : SqL K F a xs → Reps K F ds xs → Rep K F (.lst ds) (.ref a)
  | tup {ds : List D} {a : Addr} {xs : List V} : SqT K F a xs → Reps K F ds xs → Rep K F (.tup ds) (.ref a)
  | ref {a : Addr} : Rep K F (.ref a) (.ref a)
  | ty {n : String} : Rep K F (.ty n) (.ty n)
  | rng {lo hi : Int} {a : Addr} : F a = some (.rng lo hi) → Rep K F (.rng lo hi) (.ref a)
inductive Reps (K : PySem.W.Frag) (F : Hp) : List D → List V → Prop
  | nil : Reps K F [] []
  | cons {d : D} {v : V} {ds : List D} {vs : List V} : Rep K F d v → Reps K F ds vs → Reps K F (d :: ds) (v :: vs)
end
section
variable {K : PySem.W.Frag} {F F' : Hp}
theorem seqT (e : Same F F') {a : Addr} {xs : List V} (h : SqT K F a xs) : SqT K F' a xs := by
  rcases h with (h | ⟨o, h⟩) | h
  · exact .inl (.inl (e _ _ h))
  · exact .inl (.inr ⟨o, e _ _ h⟩)
  · exact .inr h
mutual
theorem Rep.mono (s : Same F F') : ∀ {d : D} {v : V}, Rep K F d v → Rep K F' d v
  | _, _, .non => .non
  | _, _, .bl => .bl
  | _, _, .int => .int
  | _, _, .str => .str
  | _, _, .lst h r => .lst (s.seq h) (Reps.mono s r)
  | _, _, .tup h r => .tup (seqT s h) (Reps.mono s r)
  | _, _, .ref => .ref
  | _, _, .ty => .ty
  | _, _, .rng h => .rng (s _ _ h)
  | _, _, .exc h x => .exc (s _ _ h) x
  | _, _, .exf h x hd r => .exf (s _ _ h) x (s _ _ hd) (Reps.mono s r)
theorem Reps.mono (s : Same F F') : ∀ {ds : List D} {vs : List V}, Reps K F ds vs → Reps K F' ds vs
  | _, _, .nil => .nil
  | _, _, .cons r t => .cons (Rep.mono s r) (Reps.mono s t)
end
theorem Reps.length : ∀ {ds : List D} {vs : List V}, Reps K F ds vs → ds.length = vs.length
  | _, _, .nil => rfl
  | _, _, .cons _ t => by rw [List.length_cons, List.length_cons, Reps.length t]
theorem Reps.append : ∀ {ds es : List D} {vs us : List V}, Reps K F ds vs → Reps K F es us → Reps K F (ds ++ es) (vs ++ us)
  | _, _, _, _, .nil, s => s
  | _, _, _, _, .cons r t, s => .cons r (Reps.append t s)
theorem Reps.get : ∀ {ds : List D} {vs : List V} {i : Nat} {d : D}, Reps K F ds vs → ds[i]? = some d → ∃ v, vs[i]? = some v ∧ Rep K F d v
  | _, _, _, _, .nil, e => by simp at e
  | _, _, 0, _, .cons r _, e => by simp at e; subst e; exact ⟨_, rfl, r⟩
  | _, _, i + 1, d, .cons _ t, e => by
    obtain ⟨u, h1, h2⟩ := Reps.get (i := i) (d := d) t (by simpa using e)
    exact ⟨u, by simpa using h1, h2⟩
theorem Reps.got : ∀ {ds : List D} {vs : List V} {i : Nat} {v : V}, Reps K F ds vs → vs[i]? = some v → ∃ d, ds[i]? = some d ∧ Rep K F d v
  | _, _, _, _, .nil, e => by simp at e
  | _, _, 0, _, .cons r _, e => by simp at e; subst e; exact ⟨_, rfl, r⟩
  | _, _, i + 1, v, .cons _ t, e => by
    obtain ⟨u, h1, h2⟩ := Reps.got (i := i) (v := v) t (by simpa using e)
    exact ⟨u, by simpa using h1, h2⟩
theorem Reps.set {x : D} {u : V} (r : Rep K F x u) : ∀ {ds : List D} {vs : List V} (i : Nat), Reps K F ds vs → Reps K F (ds.set i x) (vs.set i u)
  | _, _, _, .nil => .nil
  | _, _, 0, .cons _ t => .cons r t
  | _, _, i + 1, .cons q t => .cons q (Reps.set r i t)
theorem Reps.take : ∀ {ds : List D} {vs : List V} (n : Nat), Reps K F ds vs → Reps K F (ds.take n) (vs.take n)
  | _, _, 0, _ => .nil
  | _, _, _ + 1, .nil => .nil
  | _, _, n + 1, .cons r t => .cons r (Reps.take n t)
theorem Reps.drop : ∀ {ds : List D} {vs : List V} (n : Nat), Reps K F ds vs → Reps K F (ds.drop n) (vs.drop n)
  | _, _, 0, r => r
  | _, _, _ + 1, .nil => .nil
  | _, _, n + 1, .cons r t => Reps.drop n t
theorem Reps.rev : ∀ {ds : List D} {vs : List V}, Reps K F ds vs → Reps K F ds.reverse vs.reverse
  | _, _, .nil => .nil
  | _, _, .cons r t => by
    rw [List.reverse_cons, List.reverse_cons]
    exact Reps.append (Reps.rev t) (.cons r .nil)
theorem reps_il : ∀ {xs : List Int}, Reps K F (dI xs) (xs.map V.int)
  | [] => .nil
  | _ :: _ => .cons .int reps_il
theorem il_reps : ∀ {xs : List Int} {vs : List V}, Reps K F (dI xs) vs → vs = xs.map V.int
  | [], _, .nil => rfl
  | x :: xs, _, .cons r t => by
    cases r
    rw [il_reps t]
    rfl
theorem bls_reps : ∀ {xs : List Bool} {vs : List V}, Reps K F (xs.map D.bl) vs → vs = xs.map V.bl
  | [], _, .nil => rfl
  | x :: xs, _, .cons r t => by
    cases r
    rw [bls_reps t]
    rfl
theorem strs_reps : ∀ {xs : List Str} {vs : List V}, Reps K F (xs.map D.str) vs → vs = xs.map V.str
  | [], _, .nil => rfl
  | x :: xs, _, .cons r t => by
    cases r
    rw [strs_reps t]
    rfl
end

/-- pairs of a key and a datum -/
inductive RepP (K : PySem.W.Frag) (F : Hp) {κ : Type} : List (κ × D) → List (κ × V) → Prop
  | nil : RepP K F [] []
  | cons {k : κ} {d : D} {v : V} {ds : List (κ × D)} {vs : List (κ × V)} : Rep K F d v → RepP K F ds vs → RepP K F ((k, d) :: ds) ((k, v) :: vs)
theorem RepP.mono {K : PySem.W.Frag} {F F' : Hp} {κ : Type} (s : Same F F') : ∀ {ds : List (κ × D)} {vs : List (κ × V)}, RepP K F ds vs → RepP K F' ds vs
  | _, _, .nil => .nil
  | _, _, .cons r t => .cons (r.mono s) (RepP.mono s t)
/-! keys of any depth, as data -/
mutual
def nkD : NestedKey → D
  | .none => .non
  | .num i => .int i
  | .text x => .str x
  | .tup ks => .tup (nkDs ks)
def nkDs : List NestedKey → List D
  | [] => []
  | k :: ks => nkD k :: nkDs ks
end
def nkE (w : World) (x : NestedKey × Addr × Value) : DictEntry := ⟨x.1.hash w, .ref x.2.1, x.2.2⟩
/-- a dict whose keys are tuples of any depth, by its entries -/
def nkO (w : World) (a : Addr) (xs : List (NestedKey × Addr × Value)) : Heap → Prop := fun h => ∃ o es ep, h.get? a = some o ∧ o.ExactDict ∧ o.data = .dict es ep ∧ es.toList = xs.map (nkE w)
inductive RepN (K : PySem.W.Frag) (F : Hp) : List (NestedKey × D) → List (NestedKey × Addr × Value) → Prop
  | nil : RepN K F [] []
  | cons {k : NestedKey} {b : Addr} {u : Value} {d : D} {v : V} {ds : List (NestedKey × D)} {xs : List (NestedKey × Addr × Value)} : Rep K F (nkD k) (.ref b) → k.depth ≤ 8 → RelV v u → Rep K F d v → RepN K F ds xs → RepN K F ((k, d) :: ds) ((k, b, u) :: xs)
theorem RepN.mono {K : PySem.W.Frag} {F F' : Hp} (s : Same F F') {ds : List (NestedKey × D)} {xs : List (NestedKey × Addr × Value)} (r : RepN K F ds xs) : RepN K F' ds xs := by
  induction r with
  | nil => exact .nil
  | cons r1 h1 r2 r3 _ ih => exact .cons (r1.mono s) h1 r2 (r3.mono s) ih
/-- an object of the ledger, as H tracks it -/
def CRep (K : PySem.W.Frag) (F H : Hp) (a : Addr) : C → Prop
  | .lst ds => ∃ xs, H a = some (.lst xs) ∧ Reps K F ds xs
  | .obj c fs => ∃ dx ps, H a = some (.ins c dx ps) ∧ RepP K F fs ps
  | .dic kvs => ∃ ps, H a = some (.dK ps) ∧ RepP K F kvs ps
  | .dit w kvs => ∃ xs, H a = some (.ext (nkO w a xs)) ∧ kvs.length ≤ sizeLine ∧ (a == sysModules) = false ∧ (kvs.map (·.1)).Nodup ∧ RepN K F kvs xs
theorem CRep.mono {K : PySem.W.Frag} {F F' H H' : Hp} {a : Addr} {c : C} (s : Same F F') (e : H' a = H a) (h : CRep K F H a c) : CRep K F' H' a c := by
  cases c with
  | lst ds => obtain ⟨xs, h1, h2⟩ := h; exact ⟨xs, e.trans h1, h2.mono s⟩
  | obj c fs => obtain ⟨dx, ps, h1, h2⟩ := h; exact ⟨dx, ps, e.trans h1, h2.mono s⟩
  | dic kvs => obtain ⟨ps, h1, h2⟩ := h; exact ⟨ps, e.trans h1, h2.mono s⟩
  | dit w kvs => obtain ⟨xs, h1, h2, h3, h4, h5⟩ := h; exact ⟨xs, e.trans h1, h2, h3, h4, h5.mono s⟩
theorem CRep.there {K : PySem.W.Frag} {F H : Hp} {a : Addr} {c : C} (h : CRep K F H a c) : ∃ o, H a = some o := by
  cases c with
  | lst ds => obtain ⟨xs, h1, _⟩ := h; exact ⟨_, h1⟩
  | obj c fs => obtain ⟨dx, vs, h1, _⟩ := h; exact ⟨_, h1⟩
  | dic kvs => obtain ⟨vs, h1, _⟩ := h; exact ⟨_, h1⟩
  | dit w kvs => obtain ⟨vs, h1, _⟩ := h; exact ⟨_, h1⟩

/-- F: what stands still; L: what may be changed; both in H -/
structure Led (K : PySem.W.Frag) (F : Hp) (L : Lg) (H : Hp) : Prop where
  sub : Same F H
  nod : (L.map (·.1)).Nodup
  ent : ∀ p ∈ L, F p.1 = none ∧ CRep K F H p.1 p.2
theorem same_new {H : Hp} {q : Addr} {o : HO} (h : H q = none) : Same H (upd H q o) := fun b u e => by
  rw [upd_ne (ne_of_none e h)]
  exact e
section
variable {K : PySem.W.Frag} {F F' : Hp} {L : Lg} {H : Hp} {q : Addr}
theorem Led.free (e : Led K F L H) (h : H q = none) : F q = none := e.sub.free h
theorem Led.nofr (e : Led K F L H) (h : H q = none) : ∀ p ∈ L, p.1 ≠ q := fun p hp z => by
  obtain ⟨o, ho⟩ := (e.ent p hp).2.there
  rw [z, h] at ho
  cases ho
/-- a new object that stands still -/
theorem Led.new {o : HO} (e : Led K F L H) (h : H q = none) : Led K (upd F q o) L (upd H q o) where
  sub := fun b u x => by
    by_cases hb : b = q
    · subst hb; rw [upd_same] at x ⊢; exact x
    · rw [upd_ne hb] at x ⊢; exact e.sub b u x
  nod := e.nod
  ent := fun p hp => by
    have ne := e.nofr h p hp
    obtain ⟨h1, h2⟩ := e.ent p hp
    exact ⟨(upd_ne ne).trans h1, h2.mono (same_new (e.free h)) (upd_ne ne)⟩
/-- a new list in the ledger -/
theorem Led.newL {ds : List D} {xs : List V} (e : Led K F L H) (h : H q = none) (r : Reps K F ds xs) : Led K F ((q, .lst ds) :: L) (upd H q (.lst xs)) where
  sub := e.sub.trans (same_new h)
  nod := by
    rw [List.map_cons]
    refine List.nodup_cons.mpr ⟨fun z => ?_, e.nod⟩
    obtain ⟨p, hp, z⟩ := List.mem_map.mp z
    exact e.nofr h p hp z
  ent := fun p hp => by
    rcases List.mem_cons.mp hp with rfl | hp
    · exact ⟨e.free h, xs, upd_same, r⟩
    · have ne := e.nofr h p hp
      obtain ⟨h1, h2⟩ := e.ent p hp
      exact ⟨h1, h2.mono (Same.refl F) (upd_ne ne)⟩
end

inductive Slots (K : PySem.W.Frag) (F : Hp) : Gm → L2.St → Prop
  | nil : Slots K F [] []
  | no {x : Option V} {Γ : Gm} {σ : L2.St} : Slots K F Γ σ → Slots K F (none :: Γ) (x :: σ)
  | so {d : D} {v : V} {Γ : Gm} {σ : L2.St} : Rep K F d v → Slots K F Γ σ → Slots K F (some d :: Γ) (some v :: σ)
/-- place i of the list holds x | .. is put to x -/
inductive Get {α : Type} : List α → Nat → α → Prop
  | z {x : α} {xs : List α} : Get (x :: xs) 0 x
  | s {x y : α} {xs : List α} {i : Nat} : Get xs i y → Get (x :: xs) (i + 1) y
inductive Put {α : Type} : List α → Nat → α → List α → Prop
  | z {x y : α} {xs : List α} : Put (x :: xs) 0 y (y :: xs)
  | s {x y : α} {xs ys : List α} {i : Nat} : Put xs i y ys → Put (x :: xs) (i + 1) y (x :: ys)
section
variable {K : PySem.W.Frag} {F F' : Hp}
theorem Slots.mono (s : Same F F') : ∀ {Γ : Gm} {σ : L2.St}, Slots K F Γ σ → Slots K F' Γ σ
  | _, _, .nil => .nil
  | _, _, .no t => .no (Slots.mono s t)
  | _, _, .so r t => .so (r.mono s) (Slots.mono s t)
theorem Slots.get : ∀ {Γ : Gm} {σ : L2.St} {i : Nat} {d : D}, Slots K F Γ σ → Get Γ i (some d) → ∃ v, σ[i]? = some (some v) ∧ Rep K F d v
  | _, _, _, _, .so r _, .z => ⟨_, rfl, r⟩
  | _, _, _, _, .no t, .s g => by
    obtain ⟨v, h1, h2⟩ := Slots.get t g
    exact ⟨v, h1, h2⟩
  | _, _, _, _, .so _ t, .s g => by
    obtain ⟨v, h1, h2⟩ := Slots.get t g
    exact ⟨v, h1, h2⟩
theorem Slots.put {d : D} {v : V} (r : Rep K F d v) : ∀ {Γ Γ' : Gm} {σ : L2.St} {i : Nat}, Slots K F Γ σ → Put Γ i (some d) Γ' → Slots K F Γ' (σ.set i (some v))
  | _, _, _, _, .so _ t, .z => .so r t
  | _, _, _, _, .no t, .z => .so r t
  | _, _, _, _, .no t, .s g => .no (Slots.put r t g)
  | _, _, _, _, .so q t, .s g => .so q (Slots.put r t g)
theorem Slots.out {x : Option V} : ∀ {Γ Γ' : Gm} {σ : L2.St} {i : Nat}, Slots K F Γ σ → Put Γ i none Γ' → Slots K F Γ' (σ.set i x)
  | _, _, _, _, .so _ t, .z => .no t
  | _, _, _, _, .no t, .z => .no t
  | _, _, _, _, .no t, .s g => .no (Slots.out t g)
  | _, _, _, _, .so q t, .s g => .so q (Slots.out t g)
/-- forget -/
theorem Slots.forget : ∀ {Γ Γ' : Gm} {σ : L2.St} {i : Nat}, Slots K F Γ σ → Put Γ i none Γ' → Slots K F Γ' σ
  | _, _, _, _, .so _ t, .z => .no t
  | _, _, _, _, .no t, .z => .no t
  | _, _, _, _, .no t, .s g => .no (Slots.forget t g)
  | _, _, _, _, .so q t, .s g => .so q (Slots.forget t g)
end
/-- what holds of the place, at F -/
structure At (K : PySem.W.Frag) (F0 F : Hp) (Γ : Gm) (L : Lg) (σ : L2.St) (H : Hp) : Prop where
  ge : Same F0 F
  led : Led K F L H
  sl : Slots K F Γ σ

/-! ### expressions -/
section
variable {X : Cx}
structure wpE (X : Cx) (e : Expr) (σ : L2.St) (H : Hp) (Q : VK) : Prop where
  run : ∀ pins s, Inv X pins σ H s → wpAny (model X.prog X.w) X.A (eval e X.env) (EP X pins σ Q) X.xe s
structure wpA (X : Cx) (es : List Expr) (σ : L2.St) (H : Hp) (Q : List V → Hp → Prop) : Prop where
  run : ∀ pos pins s, Inv X pins σ H s → wpAny (model X.prog X.w) X.A (spliced (backTo pos (starEach es X.env))) (AP X pins σ Q) X.xe s
structure wpT (X : Cx) (e : Expr) (σ : L2.St) (H : Hp) (Q : Bool → Hp → Prop) : Prop where
  run : ∀ pins s, Inv X pins σ H s → wpAny (model X.prog X.w) X.A (isTrue e X.env (eval e X.env)) (TP X pins σ Q) X.xe s
structure wpW (X : Cx) (e : Expr) (σ : L2.St) (H : Hp) (Q : Bool → Hp → Prop) : Prop where
  run : ∀ whole pins s, Inv X pins σ H s → wpAny (model X.prog X.w) X.A (isTrue e X.env whole) (TP X pins σ Q) X.xe s
structure wpS (X : Cx) (st : Stmt) (Dn : Ends) (σ : L2.St) (H : Hp) : Prop where
  run : ∀ pins s, Inv X pins σ H s → wpAny (model X.prog X.w) X.A (exec st X.env) (SP X pins Dn) X.xe s
structure wpB (X : Cx) (ss : List Stmt) (Dn : Ends) (σ : L2.St) (H : Hp) : Prop where
  run : ∀ pins s, Inv X pins σ H s → wpAny (model X.prog X.w) X.A (execs ss X.env) (SP X pins Dn) X.xe s
theorem we {e : Expr} : PE X e (wpE X e) := ⟨fun pins s _ _ _ I h => h.run pins s I⟩
theorem wa {es : List Expr} : PA X es (wpA X es) := ⟨fun pos pins s _ _ _ I h => h.run pos pins s I⟩
theorem wt {e : Expr} : PT X e (wpT X e) := ⟨fun pins s _ _ _ I h => h.run pins s I⟩
theorem ww {e : Expr} : PW X e (wpW X e) := ⟨fun wh pins s _ _ _ I h => h.run wh pins s I⟩
theorem ws {st : Stmt} : PS X st (wpS X st) := ⟨fun pins s _ _ _ I h => h.run pins s I⟩
theorem wb {ss : List Stmt} : PSs X ss (wpB X ss) := ⟨fun pins s _ _ _ I h => h.run pins s I⟩
theorem wpE.of {e : Expr} {t : TE} {σ : L2.St} {H : Hp} {Q : VK} (p : PE X e t) (h : t σ H Q) : wpE X e σ H Q := ⟨fun pins s I => p.run pins s σ H Q I h⟩
theorem wpA.of {es : List Expr} {t : TA} {σ : L2.St} {H : Hp} {Q : List V → Hp → Prop} (p : PA X es t) (h : t σ H Q) : wpA X es σ H Q := ⟨fun pos pins s I => p.run pos pins s σ H Q I h⟩
theorem wpT.of {e : Expr} {t : TT} {σ : L2.St} {H : Hp} {Q : Bool → Hp → Prop} (p : PT X e t) (h : t σ H Q) : wpT X e σ H Q := ⟨fun pins s I => p.run pins s σ H Q I h⟩
theorem wpW.of {e : Expr} {t : TT} {σ : L2.St} {H : Hp} {Q : Bool → Hp → Prop} (p : PW X e t) (h : t σ H Q) : wpW X e σ H Q := ⟨fun wh pins s I => p.run wh pins s σ H Q I h⟩
theorem wpS.of {st : Stmt} {t : TS} {σ : L2.St} {H : Hp} {Dn : Ends} (p : PS X st t) (h : t Dn σ H) : wpS X st Dn σ H := ⟨fun pins s I => p.run pins s σ H Dn I h⟩
theorem wpB.of {ss : List Stmt} {t : TS} {σ : L2.St} {H : Hp} {Dn : Ends} (p : PSs X ss t) (h : t Dn σ H) : wpB X ss Dn σ H := ⟨fun pins s I => p.run pins s σ H Dn I h⟩
end

/-- e, at Γ and L, gives a datum and a ledger of which k holds -/
def EvK (X : Cx) (F0 : Hp) (e : Expr) (Γ : Gm) (L : Lg) (k : D → Lg → Prop) : Prop := ∀ (F : Hp) (σ : L2.St) (H : Hp) (Q : VK), At X.K F0 F Γ L σ H →
  (∀ (d : D) (L' : Lg) (F' : Hp) (v : V) (H' : Hp), k d L' → At X.K F0 F' Γ L' σ H' → Same F F' → Rep X.K F' d v → Q v H') → wpE X e σ H Q
def EaK (X : Cx) (F0 : Hp) (es : List Expr) (Γ : Gm) (L : Lg) (k : List D → Lg → Prop) : Prop := ∀ (F : Hp) (σ : L2.St) (H : Hp) (Q : List V → Hp → Prop), At X.K F0 F Γ L σ H →
  (∀ (ds : List D) (L' : Lg) (F' : Hp) (vs : List V) (H' : Hp), k ds L' → At X.K F0 F' Γ L' σ H' → Same F F' → Reps X.K F' ds vs → Q vs H') → wpA X es σ H Q
def EtK (X : Cx) (F0 : Hp) (e : Expr) (Γ : Gm) (L : Lg) (k : Bool → Lg → Prop) : Prop := ∀ (F : Hp) (σ : L2.St) (H : Hp) (Q : Bool → Hp → Prop), At X.K F0 F Γ L σ H →
  (∀ (b : Bool) (L' : Lg) (F' : Hp) (H' : Hp), k b L' → At X.K F0 F' Γ L' σ H' → Same F F' → Q b H') → wpT X e σ H Q
def EwK (X : Cx) (F0 : Hp) (e : Expr) (Γ : Gm) (L : Lg) (k : Bool → Lg → Prop) : Prop := ∀ (F : Hp) (σ : L2.St) (H : Hp) (Q : Bool → Hp → Prop), At X.K F0 F Γ L σ H →
  (∀ (b : Bool) (L' : Lg) (F' : Hp) (H' : Hp), k b L' → At X.K F0 F' Γ L' σ H' → Same F F' → Q b H') → wpW X e σ H Q
/-- what is wanted behind a block -/
structure Ks where
  nx : Gm → Lg → Prop
  rt : D → Lg → Prop
  bk : Gm → Lg → Prop := fun _ _ => False
  ct : Gm → Lg → Prop := fun _ _ => False
structure Ek (X : Cx) (F0 : Hp) (Dn : Ends) (k : Ks) : Prop where
  nx : ∀ Γ L F σ H, k.nx Γ L → At X.K F0 F Γ L σ H → Dn.nx σ H
  rt : ∀ d L F v H, k.rt d L → Same F0 F → Led X.K F L H → Rep X.K F d v → Dn.rt v H
  bk : ∀ Γ L F σ H, k.bk Γ L → At X.K F0 F Γ L σ H → Dn.bk σ H
  ct : ∀ Γ L F σ H, k.ct Γ L → At X.K F0 F Γ L σ H → Dn.ct σ H
def SK (X : Cx) (F0 : Hp) (st : Stmt) (Γ : Gm) (L : Lg) (k : Ks) : Prop := ∀ (F : Hp) (σ : L2.St) (H : Hp) (Dn : Ends), At X.K F0 F Γ L σ H → Ek X F0 Dn k → wpS X st Dn σ H
def BK (X : Cx) (F0 : Hp) (ss : List Stmt) (Γ : Gm) (L : Lg) (k : Ks) : Prop := ∀ (F : Hp) (σ : L2.St) (H : Hp) (Dn : Ends), At X.K F0 F Γ L σ H → Ek X F0 Dn k → wpB X ss Dn σ H

section
variable {X : Cx} {F0 : Hp} {Γ : Gm} {L : Lg} {k : D → Lg → Prop} {ka : List D → Lg → Prop} {kt : Bool → Lg → Prop} {e a b c : Expr} {es rest : List Expr} {pos : Pos}
/-! constants and names -/
theorem ek_c {d : D} {v : V} (p : PE X e (tC v)) (r : ∀ F, Rep X.K F d v) (h : k d L) : EvK X F0 e Γ L k := fun F σ H Q E q => wpE.of p (q d L F v H h E (Same.refl F) (r F))
theorem ek_int {i : Int} {j : Nat} (h : k (.int i) L) : EvK X F0 (.Constant (.int i) j pos) Γ L k := ek_c pe_int (fun _ => .int) h
theorem ek_bl {i : Bool} {j : Nat} (h : k (.bl i) L) : EvK X F0 (.Constant (.bool i) j pos) Γ L k := ek_c pe_bl (fun _ => .bl) h
theorem ek_non {j : Nat} (h : k .non L) : EvK X F0 (.Constant .none j pos) Γ L k := ek_c pe_non (fun _ => .non) h
theorem ek_str {x : Str} {j : Nat} (h : k (.str x) L) : EvK X F0 (.Constant (.str x) j pos) Γ L k := ek_c pe_str (fun _ => .str) h
theorem ek_v {i : Nat} {d : D} (p : PE X e (tVar i)) (g : Get Γ i (some d)) (h : k d L) : EvK X F0 e Γ L k := fun F σ H Q E q => by
  obtain ⟨v, h1, h2⟩ := E.sl.get g
  exact wpE.of p ⟨v, h1, q d L F v H h E (Same.refl F) h2⟩
/-- a list, a tuple, a number of the module's top -/
theorem ek_glob {x : Str} {d : D} {v : V} {u : Value} (hm : X.mg x = some u) (r : RelV v u) (hr : ∀ F, Rep X.K F d v) (h : k d L) (hg : Gl X x := by rfl) (hd : (x == ("__debug__" : Str)) = false := by decide) : EvK X F0 (.Name x pos) Γ L k :=
  ek_c (pe_glob hg hm r hd) hr h
/-! operators -/
def CMulX (i j : Int) : Prop := CMul i j ∨ CMulW i j
theorem op_mulX : OpR X (binaryOp .Mult) (rI CMulX fun i j => .int (i * j)) := fun pins s σ H x y v u Q I rx ry ⟨i, j, e1, e2, hc, q⟩ => by
  rcases hc with hc | hc
  · exact op_mul pins s σ H x y v u Q I rx ry ⟨i, j, e1, e2, hc, q⟩
  · exact op_mulW pins s σ H x y v u Q I rx ry ⟨i, j, e1, e2, hc, q⟩
theorem mulL {i j : Int} (h : -(18446744073709551616) < i ∧ i < 18446744073709551616) : CMulX i j := .inl (.inl h)
theorem mulR {i j : Int} (h : -(18446744073709551616) < j ∧ j < 18446744073709551616) : CMulX i j := .inl (.inr h)
theorem ek_op {op : Operator} {r : R2} (ho : OpR X (binaryOp op) r) {P : D → D → (D → Prop) → Prop}
    (hr : ∀ F L' σ H x y v u (kk : D → Prop) (Q : VK), At X.K F0 F Γ L' σ H → Rep X.K F x v → Rep X.K F y u → P x y kk →
      (∀ d F' v' H', kk d → At X.K F0 F' Γ L' σ H' → Same F F' → Rep X.K F' d v' → Q v' H') → r v u H Q)
    (h : EvK X F0 a Γ L fun x L1 => EvK X F0 b Γ L1 fun y L2 => P x y fun d => k d L2) : EvK X F0 (.BinOp a op b pos) Γ L k := fun F σ H Q E q =>
  wpE.of (pe_op ho we we) (h F σ H _ E fun x L1 F1 v H1 h1 E1 s1 r1 => h1 F1 σ H1 _ E1 fun y L2 F2 u H2 h2 E2 s2 r2 =>
    hr F2 L2 σ H2 x y v u _ Q E2 (r1.mono s2) r2 h2 fun d F3 v3 H3 h3 E3 s3 r3 => q d L2 F3 v3 H3 h3 E3 (s1.trans (s2.trans s3)) r3)
theorem ek_opI {op : Operator} {C : Int → Int → Prop} {g : Int → Int → Int} (ho : OpR X (binaryOp op) (rI C fun i j => .int (g i j)))
    (h : EvK X F0 a Γ L fun x L1 => ∃ i, x = .int i ∧ EvK X F0 b Γ L1 fun y L2 => ∃ j, y = .int j ∧ C i j ∧ k (.int (g i j)) L2) : EvK X F0 (.BinOp a op b pos) Γ L k := fun F σ H Q E q =>
  wpE.of (pe_op ho we we) (h F σ H _ E fun x L1 F1 v H1 ⟨i, e1, h1⟩ E1 s1 r1 => h1 F1 σ H1 _ E1 fun y L2 F2 u H2 ⟨j, e2, hc, h2⟩ E2 s2 r2 => by
    subst e1 e2
    cases r1
    cases r2
    exact ⟨i, j, rfl, rfl, hc, q _ L2 F2 _ H2 h2 E2 (s1.trans s2) .int⟩)
theorem ek_add (h : EvK X F0 a Γ L fun x L1 => ∃ i, x = .int i ∧ EvK X F0 b Γ L1 fun y L2 => ∃ j, y = .int j ∧ k (.int (i + j)) L2) : EvK X F0 (.BinOp a .Add b pos) Γ L k := fun F σ H Q E q =>
  wpE.of (pe_op op_add we we) (h F σ H _ E fun x L1 F1 v H1 ⟨i, e1, h1⟩ E1 s1 r1 => h1 F1 σ H1 _ E1 fun y L2 F2 u H2 ⟨j, e2, h2⟩ E2 s2 r2 => by
    subst e1 e2
    cases r1
    cases r2
    exact ⟨i, j, rfl, rfl, q _ L2 F2 _ H2 h2 E2 (s1.trans s2) .int⟩)
theorem ek_sub (h : EvK X F0 a Γ L fun x L1 => ∃ i, x = .int i ∧ EvK X F0 b Γ L1 fun y L2 => ∃ j, y = .int j ∧ k (.int (i - j)) L2) : EvK X F0 (.BinOp a .Sub b pos) Γ L k := fun F σ H Q E q =>
  wpE.of (pe_op op_sub we we) (h F σ H _ E fun x L1 F1 v H1 ⟨i, e1, h1⟩ E1 s1 r1 => h1 F1 σ H1 _ E1 fun y L2 F2 u H2 ⟨j, e2, h2⟩ E2 s2 r2 => by
    subst e1 e2
    cases r1
    cases r2
    exact ⟨i, j, rfl, rfl, q _ L2 F2 _ H2 h2 E2 (s1.trans s2) .int⟩)
theorem ek_mul (h : EvK X F0 a Γ L fun x L1 => ∃ i, x = .int i ∧ EvK X F0 b Γ L1 fun y L2 => ∃ j, y = .int j ∧ CMulX i j ∧ k (.int (i * j)) L2) : EvK X F0 (.BinOp a .Mult b pos) Γ L k := ek_opI op_mulX h
theorem ek_mod (h : EvK X F0 a Γ L fun x L1 => ∃ i, x = .int i ∧ EvK X F0 b Γ L1 fun y L2 => ∃ j, y = .int j ∧ 0 < j ∧ k (.int (i % j)) L2) : EvK X F0 (.BinOp a .Mod b pos) Γ L k := ek_opI op_mod h
theorem ek_fdiv (h : EvK X F0 a Γ L fun x L1 => ∃ i, x = .int i ∧ EvK X F0 b Γ L1 fun y L2 => ∃ j, y = .int j ∧ CDiv i j ∧ k (.int (i / j)) L2) : EvK X F0 (.BinOp a .FloorDiv b pos) Γ L k := ek_opI op_fdiv h
theorem ek_pow (h : EvK X F0 a Γ L fun x L1 => ∃ i, x = .int i ∧ EvK X F0 b Γ L1 fun y L2 => ∃ j, y = .int j ∧ CPow i j ∧ k (.int (i ^ j.toNat)) L2) : EvK X F0 (.BinOp a .Pow b pos) Γ L k := ek_opI op_pow h
theorem ek_neg (h : EvK X F0 a Γ L fun x L1 => ∃ i, x = .int i ∧ k (.int (-i)) L1) : EvK X F0 (.UnaryOp .USub a pos) Γ L k := fun F σ H Q E q =>
  wpE.of (pe_un un_neg we) (h F σ H _ E fun x L1 F1 v H1 ⟨i, e1, h1⟩ E1 s1 r1 => by
    subst e1
    cases r1
    exact ⟨i, rfl, q _ L1 F1 _ H1 h1 E1 s1 .int⟩)
end
end Vs

set_option Elab.async false
set_option linter.all false
set_option maxRecDepth 100000
set_option maxHeartbeats 4000000
namespace Vs
open PySem PySem.Spec PyProof.Rows L2
/-! ### promises -/
structure Xc where
  c : Value
  fs : Option (List (Str × D)) := none
abbrev SpD := List D → Lg → (D → Lg → Prop) → (Xc → Lg → Prop) → Prop
def XRep (K : PySem.W.Frag) (F H : Hp) (x : Xc) (od : Option Addr) : Prop := match x.fs with
  | none => od = none
  | some fs => ∃ d vs, od = some d ∧ H d = some (.xd ((fs.map (·.1)).zip vs)) ∧ Reps K F (fs.map (·.2)) vs
def spOf (K : PySem.W.Frag) (S : SpD) : Sp := fun vs H Q E => ∃ (F : Hp) (ds : List D) (L : Lg) (q : D → Lg → Prop) (e : Xc → Lg → Prop), Led K F L H ∧ Reps K F ds vs ∧ S ds L q e ∧
  (∀ r L' F' v H', q r L' → Same F F' → Led K F' L' H' → Rep K F' r v → Q v H') ∧ (∀ x L' F' od H', e x L' → Same F F' → Led K F' L' H' → XRep K F' H' x od → E x.c od H')
def ZW (K : PySem.W.Frag) (F0 : Hp) (Z : Xc → Gm → Lg → Prop) : WX := fun cls od σ H => ∃ x Γ L F, x.c = cls ∧ Z x Γ L ∧ At K F0 F Γ L σ H ∧ XRep K F H x od
theorem takes0N {X : Cx} : L2N.Takes X (fun _ _ _ _ => False) := fun _ _ x => by
  obtain ⟨_, _, _, _, _, _, _, _, _, _, _, _, _, _, _, _, z⟩ := x
  exact z.elim
theorem passLN {X : Cx} : Passes (L2N.CX X.prog X.w) X E0 := fun _ _ _ _ _ _ _ h => by
  obtain ⟨_, _, _, _, _, _, _, _, _, _, _, _, z⟩ := h
  exact z.elim
abbrev Z0 : Xc → Gm → Lg → Prop := fun _ _ _ => False
theorem takesZ0 {X : Cx} {F0 : Hp} : L2N.Takes X (ZW X.K F0 Z0) := takes0N.imp fun _ _ _ _ ⟨_, _, _, _, _, z, _⟩ => z
/-- a def of the module, by its name -/
structure Cal (P : Program) (w : World) (K : PySem.W.Frag) (mg : Str → Option Value) (base : Heap) (n : Nat) (x : Str) (ps : List Str) (S : SpD) : Prop where
  ex : ∃ f fd, mg x = some (.ref f) ∧ PySem.W.keepIn K (.ref f) = true ∧ Binds K fd ps [] ∧ FnOk P w K mg base (L2N.CX P w) n f fd ps (spOf K S)
abbrev CalX (X : Cx) (n : Nat) (x : Str) (ps : List Str) (S : SpD) : Prop := Cal X.prog X.w X.K X.mg X.base n x ps S

/-- the names of a def's frame -/
structure Cn (X : Cx) (N Nc : List Str) (sc : Scope) : Prop where
  n : X.N = N ++ Nc
  nd : (N ++ Nc).Nodup
  scp : X.env.scope = sc
  loc : ∀ x ∈ N, L2.Loc sc x
  fn : ∀ x, X.fn x = true
/-- a def's frame, not within an except suite; what an exception is to meet: Z -/
structure Cf (X : Cx) (N Nc : List Str) (sc : Scope) (F0 : Hp) (Z : Xc → Gm → Lg → Prop) : Prop extends Cn X N Nc sc where
  calm : X.calm = true
  own : PassesOwn (model X.prog X.w) X.A X.env X.xe
  tk : L2N.Takes X (ZW X.K F0 Z)
  stk : X.stack = X.env :: X.outer
  fr : X.env.frame = some X.env.locals
section
variable {X : Cx} {F0 : Hp} {Γ : Gm} {L : Lg} {k : D → Lg → Prop} {ka : List D → Lg → Prop} {kt : Bool → Lg → Prop} {e a b c : Expr} {es rest : List Expr} {pos : Pos} {N Nc : List Str} {sc : Scope} {Z : Xc → Gm → Lg → Prop}
theorem get_app {α : Type} {N Nc : List α} {i : Nat} {x : α} (h : N[i]? = some x) : (N ++ Nc)[i]? = some x := by
  obtain ⟨hl, _⟩ := List.getElem?_eq_some_iff.mp h
  rw [List.getElem?_append_left hl]
  exact h
theorem Cn.ne (c : Cn X N Nc sc) {i : Nat} {x : Str} (hi : N[i]? = some x) (hd : (x == ("__debug__" : Str)) = false) (hcd : (x == ("__classdict__" : Str)) = false) : PE X (.Name x pos) (tVar i) := by
  refine pe_var (by rw [c.n]; exact get_app hi) ?_ hd hcd
  rw [c.scp]
  rcases c.loc x (List.mem_of_getElem? hi) with h | h
  · exact .inl h
  · exact .inr (.inl h)
/-- a name of the def -/
theorem ek_n (c : Cn X N Nc sc) {i : Nat} {x : Str} {d : D} (g : Get Γ i (some d)) (h : k d L) (hi : N[i]? = some x := by rfl) (hd : (x == ("__debug__" : Str)) = false := by decide) (hcd : (x == ("__classdict__" : Str)) = false := by decide) : EvK X F0 (.Name x pos) Γ L k :=
  ek_v (c.ne hi hd hcd) g h
/-! arguments -/
theorem ea_nil (h : ka [] L) : EaK X F0 [] Γ L ka := fun F σ H Q E q => wpA.of pa_nil (q [] L F [] H h E (Same.refl F) .nil)
theorem ea_cons (h : EvK X F0 e Γ L fun d L1 => EaK X F0 es Γ L1 fun ds L2 => ka (d :: ds) L2) (hs : starEach (e :: es) X.env = (false, eval e X.env) :: starEach es X.env := by rfl) : EaK X F0 (e :: es) Γ L ka := fun F σ H Q E q =>
  wpA.of (pa_cons we wa hs) (h F σ H _ E fun d L1 F1 v H1 h1 E1 s1 r1 => h1 F1 σ H1 _ E1 fun ds L2 F2 vs H2 h2 E2 s2 r2 => q (d :: ds) L2 F2 (v :: vs) H2 h2 E2 (s1.trans s2) (.cons (r1.mono s2) r2))
/-! displays -/
theorem ek_tup {x1} (h : EaK X F0 es Γ L fun ds L' => ds.length ≤ sizeLine ∧ k (.tup ds) L') : EvK X F0 (.Tuple es x1 pos) Γ L k := fun F σ H Q E q =>
  wpE.of (pe_tup wa) (h F σ H _ E fun ds L1 F1 vs H1 ⟨hz, h1⟩ E1 s1 r1 => ⟨by rw [← r1.length]; exact hz, fun p hp =>
    have s2 : Same F1 (upd F1 p (.tup vs)) := same_new (E1.led.free hp)
    q _ L1 _ _ _ h1 ⟨E1.ge.trans s2, E1.led.new hp, E1.sl.mono s2⟩ (s1.trans s2) (.tup (.inl (.inl upd_same)) (r1.mono s2))⟩)
theorem ek_lst (h : EaK X F0 es Γ L fun ds L' => ds.length ≤ sizeLine ∧ k (.lst ds) L') : EvK X F0 (.List es pos) Γ L k := fun F σ H Q E q =>
  wpE.of (pe_lst wa) (h F σ H _ E fun ds L1 F1 vs H1 ⟨hz, h1⟩ E1 s1 r1 => ⟨by rw [← r1.length]; exact hz, fun p hp =>
    have s2 : Same F1 (upd F1 p (.lst vs)) := same_new (E1.led.free hp)
    q _ L1 _ _ _ h1 ⟨E1.ge.trans s2, E1.led.new hp, E1.sl.mono s2⟩ (s1.trans s2) (.lst (.inl (.inl upd_same)) (r1.mono s2))⟩)
/-- a list that will be changed -/
theorem ek_lstO (h : EaK X F0 es Γ L fun ds L' => ds.length ≤ sizeLine ∧ ∀ p, k (.ref p) ((p, .lst ds) :: L')) : EvK X F0 (.List es pos) Γ L k := fun F σ H Q E q =>
  wpE.of (pe_lst wa) (h F σ H _ E fun ds L1 F1 vs H1 ⟨hz, h1⟩ E1 s1 r1 => ⟨by rw [← r1.length]; exact hz, fun p hp =>
    q _ _ F1 _ _ (h1 p) ⟨E1.ge, E1.led.newL hp r1, E1.sl⟩ s1 .ref⟩)
/-! a def of the module -/
theorem ek_call {x : Str} {n : Nat} {ps : List Str} {S : SpD} {p : Pos} (tk : L2N.Takes X (ZW X.K F0 Z)) (G : CalX X n x ps S) (hr : Room n X.A) (h : EaK X F0 (e :: es) Γ L fun ds L1 => S ds L1 k fun x L2 => Z x Γ L2) (hg : Gl X x)
    (hdb : (x == ("__debug__" : Str)) = false := by decide) (he : starEach (e :: es) X.env = (false, eval e X.env) :: starEach es X.env := by rfl) (hpl : (backTo pos (starEach es X.env)).any (·.1) = false := by rfl) :
    EvK X F0 (.Call (.Name x p) (e :: es) [] pos) Γ L k := fun F σ H Q E q => by
  obtain ⟨f, fd, hm, hk, hb, G⟩ := G.ex
  refine wpE.of (pe_callS (E := L2.WE (ZW X.K F0 Z)) G hr hg hm hk hb (fun σ => L2N.passAt tk σ) wa hdb he hpl) ?_
  refine h F σ H _ E fun ds L1 F1 vs H1 h1 E1 s1 r1 => ?_
  exact ⟨F1, ds, L1, k, fun x L2 => Z x Γ L2, E1.led, r1, h1, fun r L' F' v H' hq s2 l2 r2 => q r L' F' v H' hq ⟨E1.ge.trans s2, l2, E1.sl.mono s2⟩ (s1.trans s2) r2,
    fun x L' F' od H' he s2 l2 x2 => ⟨x, Γ, L', F', rfl, he, ⟨E1.ge.trans s2, l2, E1.sl.mono s2⟩, x2⟩⟩
theorem ek_call0 {x : Str} {n : Nat} {ps : List Str} {S : SpD} {p : Pos} (G : CalX X n x ps S) (hr : Room n X.A) (h : S [] L k fun _ _ => False) (hg : Gl X x)
    (hdb : (x == ("__debug__" : Str)) = false := by decide) : EvK X F0 (.Call (.Name x p) [] [] pos) Γ L k := fun F σ H Q E q => by
  obtain ⟨f, fd, hm, hk, hb, G⟩ := G.ex
  refine wpE.of (pe_call0 G hr hg hm hk hb .nil passLN hdb) ?_
  exact ⟨F, [], L, k, fun _ _ => False, E.led, .nil, h, fun r L' F' v H' hq s2 l2 r2 => q r L' F' v H' hq ⟨E.ge.trans s2, l2, E.sl.mono s2⟩ s2 r2, fun _ _ _ _ _ he => he.elim⟩
/-! a built-in's call -/
theorem ek_cb {x : Str} {id : String} {r : List V → Hp → VK → Prop} {p : Pos} (hc : CallR X (.builtin id) r) (hm : X.mg x = none) (hv : bootBuiltins x = some (.builtin id))
    {P : List D → Lg → (D → Prop) → Prop}
    (hr : ∀ F L' σ H ds vs (kk : D → Prop) (Q : VK), At X.K F0 F Γ L' σ H → Reps X.K F ds vs → P ds L' kk →
      (∀ d F' v' H', kk d → At X.K F0 F' Γ L' σ H' → Same F F' → Rep X.K F' d v' → Q v' H') → r vs H Q)
    (h : EaK X F0 (e :: es) Γ L fun ds L1 => P ds L1 fun d => k d L1) (hg : Gl X x) (hn : x ≠ "__name__" := by decide) (hdb : (x == ("__debug__" : Str)) = false := by decide)
    (he : starEach (e :: es) X.env = (false, eval e X.env) :: starEach es X.env := by rfl) (hpl : (backTo pos (starEach es X.env)).any (·.1) = false := by rfl) : EvK X F0 (.Call (.Name x p) (e :: es) [] pos) Γ L k := fun F σ H Q E q =>
  wpE.of (pe_callB hc hg hm hv wa hn hdb he hpl) (h F σ H _ E fun ds L1 F1 vs H1 h1 E1 s1 r1 => hr F1 L1 σ H1 ds vs _ Q E1 r1 h1 fun d F2 v H2 h2 E2 s2 r2 => q d L1 F2 v H2 h2 E2 (s1.trans s2) r2)
theorem ek_ct {x : Str} {T : String} {r : List V → Hp → VK → Prop} {p : Pos} (hc : CallR X (.type T) r) (hm : X.mg x = none) (hv : bootBuiltins x = some (.type T))
    {P : List D → Lg → (D → Prop) → Prop}
    (hr : ∀ F L' σ H ds vs (kk : D → Prop) (Q : VK), At X.K F0 F Γ L' σ H → Reps X.K F ds vs → P ds L' kk →
      (∀ d F' v' H', kk d → At X.K F0 F' Γ L' σ H' → Same F F' → Rep X.K F' d v' → Q v' H') → r vs H Q)
    (h : EaK X F0 (e :: es) Γ L fun ds L1 => P ds L1 fun d => k d L1) (hg : Gl X x) (hn : x ≠ "__name__" := by decide) (hdb : (x == ("__debug__" : Str)) = false := by decide)
    (he : starEach (e :: es) X.env = (false, eval e X.env) :: starEach es X.env := by rfl) (hpl : (backTo pos (starEach es X.env)).any (·.1) = false := by rfl) : EvK X F0 (.Call (.Name x p) (e :: es) [] pos) Γ L k := fun F σ H Q E q =>
  wpE.of (pe_callTy hc hg hm hv wa hn hdb he hpl) (h F σ H _ E fun ds L1 F1 vs H1 h1 E1 s1 r1 => hr F1 L1 σ H1 ds vs _ Q E1 r1 h1 fun d F2 v H2 h2 E2 s2 r2 => q d L1 F2 v H2 h2 E2 (s1.trans s2) r2)
/-! tests and truth values -/
theorem et_v (h : EvK X F0 e Γ L fun d L' => ∃ b, d = .bl b ∧ kt b L') (he : ∀ whole, isTrue e X.env whole = (do let v ← whole; standAt e.pos; holding [v] (truthy v)) := by intro _; rfl) : EtK X F0 e Γ L kt := fun F σ H Q E q =>
  wpT.of (pt_val we he) (h F σ H _ E fun d L1 F1 v H1 ⟨b, e1, h1⟩ E1 s1 r1 => by
    subst e1
    cases r1
    exact ⟨b, rfl, q b L1 F1 H1 h1 E1 s1⟩)
theorem et_and1 (h : EtK X F0 a Γ L kt) : EwK X F0 (.BoolOp .And [a] pos) Γ L kt := fun F σ H Q E q => wpW.of (pw_and1 wt) (h F σ H Q E q)
theorem et_or1 (h : EtK X F0 a Γ L kt) : EwK X F0 (.BoolOp .Or [a] pos) Γ L kt := fun F σ H Q E q => wpW.of (pw_or1 wt) (h F σ H Q E q)
theorem et_andw (h : EtK X F0 a Γ L fun x L1 => (x = true → EwK X F0 (.BoolOp .And (b :: rest) pos) Γ L1 kt) ∧ (x = false → kt false L1)) : EwK X F0 (.BoolOp .And (a :: b :: rest) pos) Γ L kt := fun F σ H Q E q =>
  wpW.of (pw_and wt ww) (h F σ H _ E fun x L1 F1 H1 ⟨h1, h2⟩ E1 s1 => by
    cases x with
    | true => exact h1 rfl F1 σ H1 Q E1 fun b L2 F2 H2 h3 E2 s2 => q b L2 F2 H2 h3 E2 (s1.trans s2)
    | false => exact q false L1 F1 H1 (h2 rfl) E1 s1)
theorem et_orw (h : EtK X F0 a Γ L fun x L1 => (x = true → kt true L1) ∧ (x = false → EwK X F0 (.BoolOp .Or (b :: rest) pos) Γ L1 kt)) : EwK X F0 (.BoolOp .Or (a :: b :: rest) pos) Γ L kt := fun F σ H Q E q =>
  wpW.of (pw_or wt ww) (h F σ H _ E fun x L1 F1 H1 ⟨h1, h2⟩ E1 s1 => by
    cases x with
    | true => exact q true L1 F1 H1 (h1 rfl) E1 s1
    | false => exact h2 rfl F1 σ H1 Q E1 fun b L2 F2 H2 h3 E2 s2 => q b L2 F2 H2 h3 E2 (s1.trans s2))
theorem et_w (h : EwK X F0 e Γ L kt) : EtK X F0 e Γ L kt := fun F σ H Q E q => wpT.of (PW.pt ww) (h F σ H Q E q)
theorem et_not (h : EtK X F0 a Γ L fun b L' => kt (!b) L') : EtK X F0 (.UnaryOp .Not a pos) Γ L kt := fun F σ H Q E q =>
  wpT.of (pt_not wt) (h F σ H _ E fun b L1 F1 H1 h1 E1 s1 => q _ L1 F1 H1 h1 E1 s1)
theorem ek_and {op} (h : EvK X F0 a Γ L k) : EvK X F0 (.BoolOp op [a] pos) Γ L k := fun F σ H Q E q => wpE.of (pe_one we) (h F σ H Q E q)
theorem ek_andv (h : EvK X F0 a Γ L fun x L1 => ∃ t, x = .bl t ∧ (t = true → EvK X F0 (.BoolOp .And (b :: rest) pos) Γ L1 k) ∧ (t = false → k (.bl false) L1)) : EvK X F0 (.BoolOp .And (a :: b :: rest) pos) Γ L k := fun F σ H Q E q =>
  wpE.of (pe_and we we) (h F σ H _ E fun x L1 F1 v H1 ⟨t, e1, h1, h2⟩ E1 s1 r1 => by
    subst e1
    cases r1
    refine ⟨t, rfl, ?_⟩
    cases t with
    | true =>
      rw [if_pos rfl]
      exact h1 rfl F1 σ H1 Q E1 fun d L2 F2 v2 H2 h3 E2 s2 r2 => q d L2 F2 v2 H2 h3 E2 (s1.trans s2) r2
    | false =>
      rw [if_neg Bool.false_ne_true]
      exact q _ L1 F1 _ H1 (h2 rfl) E1 s1 .bl)
theorem ek_orv (h : EvK X F0 a Γ L fun x L1 => ∃ t, x = .bl t ∧ (t = true → k (.bl true) L1) ∧ (t = false → EvK X F0 (.BoolOp .Or (b :: rest) pos) Γ L1 k)) : EvK X F0 (.BoolOp .Or (a :: b :: rest) pos) Γ L k := fun F σ H Q E q =>
  wpE.of (pe_or we we) (h F σ H _ E fun x L1 F1 v H1 ⟨t, e1, h1, h2⟩ E1 s1 r1 => by
    subst e1
    cases r1
    refine ⟨t, rfl, ?_⟩
    cases t with
    | true =>
      rw [if_pos rfl]
      exact q _ L1 F1 _ H1 (h1 rfl) E1 s1 .bl
    | false =>
      rw [if_neg Bool.false_ne_true]
      exact h2 rfl F1 σ H1 Q E1 fun d L2 F2 v2 H2 h3 E2 s2 r2 => q d L2 F2 v2 H2 h3 E2 (s1.trans s2) r2)
theorem ek_not (h : EvK X F0 a Γ L fun x L1 => ∃ t, x = .bl t ∧ k (.bl (!t)) L1) : EvK X F0 (.UnaryOp .Not a pos) Γ L k := fun F σ H Q E q =>
  wpE.of (pe_not we) (h F σ H _ E fun x L1 F1 v H1 ⟨t, e1, h1⟩ E1 s1 r1 => by
    subst e1
    cases r1
    exact ⟨t, rfl, q _ L1 F1 _ H1 h1 E1 s1 .bl⟩)
theorem ek_if {c : Expr} (h : EtK X F0 c Γ L fun t L1 => (t = true → EvK X F0 a Γ L1 k) ∧ (t = false → EvK X F0 b Γ L1 k)) : EvK X F0 (.IfExp c a b pos) Γ L k := fun F σ H Q E q =>
  wpE.of (pe_ifExp wt we we) (h F σ H _ E fun t L1 F1 H1 ⟨h1, h2⟩ E1 s1 => by
    cases t with
    | true =>
      rw [if_pos rfl]
      exact h1 rfl F1 σ H1 Q E1 fun d L2 F2 v2 H2 h3 E2 s2 r2 => q d L2 F2 v2 H2 h3 E2 (s1.trans s2) r2
    | false =>
      rw [if_neg Bool.false_ne_true]
      exact h2 rfl F1 σ H1 Q E1 fun d L2 F2 v2 H2 h3 E2 s2 r2 => q d L2 F2 v2 H2 h3 E2 (s1.trans s2) r2)
/-! comparisons -/
theorem ek_cmp {op : CmpOp} {r : R2} (ho : OpR X (compareOp op) r) {P : D → D → Lg → (D → Prop) → Prop}
    (hr : ∀ F L' σ H x y v u (kk : D → Prop) (Q : VK), At X.K F0 F Γ L' σ H → Rep X.K F x v → Rep X.K F y u → P x y L' kk →
      (∀ d F' v' H', kk d → At X.K F0 F' Γ L' σ H' → Same F F' → Rep X.K F' d v' → Q v' H') → r v u H Q)
    (h : EvK X F0 a Γ L fun x L1 => EvK X F0 b Γ L1 fun y L2 => P x y L2 fun d => k d L2) (hm : behindInMarks op b = false) : EvK X F0 (.Compare a [op] [b] pos) Γ L k := fun F σ H Q E q =>
  wpE.of (pe_cmpR ho we we hm) (h F σ H _ E fun x L1 F1 v H1 h1 E1 s1 r1 => h1 F1 σ H1 _ E1 fun y L2 F2 u H2 h2 E2 s2 r2 =>
    hr F2 L2 σ H2 x y v u _ Q E2 (r1.mono s2) r2 h2 fun d F3 v3 H3 h3 E3 s3 r3 => q d L2 F3 v3 H3 h3 E3 (s1.trans (s2.trans s3)) r3)
end

/-! ### statements -/
section
variable {X : Cx} {F0 : Hp} {Γ : Gm} {L : Lg} {k : Ks} {e a b c : Expr} {st : Stmt} {rest body orelse : List Stmt} {pos p' : Pos} {N Nc : List Str} {sc : Scope} {Z : Xc → Gm → Lg → Prop}
theorem bk_nil (h : k.nx Γ L) : BK X F0 [] Γ L k := fun F σ H Dn E q => wpB.of pss_nil (q.nx Γ L F σ H h E)
theorem bk_cons (h : SK X F0 st Γ L { k with nx := fun Γ' L' => BK X F0 rest Γ' L' k }) : BK X F0 (st :: rest) Γ L k := fun F σ H Dn E q =>
  wpB.of (pss_cons ws wb) (h F σ H _ E ⟨fun Γ' L' F' σ' H' h' E' => h' F' σ' H' Dn E' q, q.rt, q.bk, q.ct⟩)
/-- a cut: what holds behind the first statement is told -/
theorem bk_cut (P : Gm → Lg → Prop) (h : SK X F0 st Γ L { k with nx := P }) (h2 : ∀ Γ' L', P Γ' L' → BK X F0 rest Γ' L' k) : BK X F0 (st :: rest) Γ L k := fun F σ H Dn E q =>
  wpB.of (pss_cons ws wb) (h F σ H _ E ⟨fun Γ' L' F' σ' H' h' E' => h2 Γ' L' h' F' σ' H' Dn E' q, q.rt, q.bk, q.ct⟩)
theorem bk_one (h : SK X F0 st Γ L k) : BK X F0 [st] Γ L k := fun F σ H Dn E q => wpB.of (pss_one ws) (h F σ H Dn E q)
theorem sk_pass (h : k.nx Γ L) : SK X F0 (.Pass pos) Γ L k := fun F σ H Dn E q => wpS.of ps_pass (q.nx Γ L F σ H h E)
theorem sk_break (h : k.bk Γ L) : SK X F0 (.Break pos) Γ L k := fun F σ H Dn E q => wpS.of ps_break (q.bk Γ L F σ H h E)
theorem sk_continue (h : k.ct Γ L) : SK X F0 (.Continue pos) Γ L k := fun F σ H Dn E q => wpS.of ps_continue (q.ct Γ L F σ H h E)
theorem sk_ret (h : EvK X F0 e Γ L k.rt) : SK X F0 (.Return (some e) pos) Γ L k := fun F σ H Dn E q =>
  wpS.of (ps_ret we) (h F σ H _ E fun d L1 F1 v H1 h1 E1 s1 r1 => q.rt d L1 F1 v H1 h1 E1.ge E1.led r1)
theorem sk_retN (h : k.rt .non L) : SK X F0 (.Return none pos) Γ L k := fun F σ H Dn E q => wpS.of ps_retN (q.rt .non L F .non H h E.ge E.led .non)
theorem sk_expr (h : EvK X F0 e Γ L fun _ L' => k.nx Γ L') (hs : swapsWith e none pos.line X.env = pure false := by rfl) : SK X F0 (.Expr e pos) Γ L k := fun F σ H Dn E q =>
  wpS.of (ps_expr we hs) (h F σ H _ E fun d L1 F1 v H1 h1 E1 s1 r1 => q.nx Γ L1 F1 σ H1 h1 E1)
theorem sk_if (h : EtK X F0 c Γ L fun t L1 => (t = true → BK X F0 body Γ L1 k) ∧ (t = false → BK X F0 orelse Γ L1 k)) : SK X F0 (.If c body orelse pos) Γ L k := fun F σ H Dn E q =>
  wpS.of (ps_if wt wb wb) (h F σ H _ E fun t L1 F1 H1 ⟨h1, h2⟩ E1 s1 => by
    cases t with
    | true =>
      rw [if_pos rfl]
      exact h1 rfl F1 σ H1 Dn E1 q
    | false =>
      rw [if_neg Bool.false_ne_true]
      exact h2 rfl F1 σ H1 Dn E1 q)
theorem sk_set (c : Cn X N Nc sc) {i : Nat} {x : Str} (h : EvK X F0 e Γ L fun d L' => ∃ Γ', Put Γ i (some d) Γ' ∧ k.nx Γ' L') (hi : N[i]? = some x := by rfl)
    (hs : swapsWith e (some (.Name x p')) pos.line X.env = pure false := by rfl) (hw : swappedStores [.Name x p'] e X.env = pure none := by rfl) : SK X F0 (.Assign [.Name x p'] e pos) Γ L k := fun F σ H Dn E q =>
  wpS.of (ps_set (i := i) (by rw [c.n]; exact c.nd) (by rw [c.n]; exact get_app hi) (by rw [c.scp]; exact c.loc x (List.mem_of_getElem? hi)) we hs (.inl (c.fn x)))
    (h F σ H _ E fun d L1 F1 v H1 ⟨Γ', hp, h1⟩ E1 s1 r1 => q.nx Γ' L1 F1 _ H1 h1 ⟨E1.ge, E1.led, E1.sl.put r1 hp⟩)
theorem sk_while (own : PassesOwn (model X.prog X.w) X.A X.env X.xe) (W : Nat → Gm → Lg → Prop) (m : Nat) (h0 : W m Γ L)
    (h : ∀ m Γ L, W m Γ L → EtK X F0 c Γ L fun t L1 => (t = true → BK X F0 body Γ L1 { k with nx := fun Γ' L' => ∃ m', m' < m ∧ W m' Γ' L', ct := fun Γ' L' => ∃ m', m' < m ∧ W m' Γ' L', bk := k.nx }) ∧ (t = false → k.nx Γ L1)) :
    SK X F0 (.While c body [] pos) Γ L k := fun F σ H Dn E q =>
  wpS.of (ps_while own wt wb) ⟨fun m σ H => ∃ F Γ L, W m Γ L ∧ At X.K F0 F Γ L σ H, ⟨m, F, Γ, L, h0, E⟩, fun m σ H ⟨F, Γ, L, hW, E⟩ => h m Γ L hW F σ H _ E fun t L1 F1 H1 ⟨h1, h2⟩ E1 s1 => by
    cases t with
    | true =>
      rw [if_pos rfl]
      refine ⟨fun σ' H' => ∃ m', m' < m ∧ ∃ F Γ L, W m' Γ L ∧ At X.K F0 F Γ L σ' H', fun σ' H' ⟨m', hm, x⟩ => ⟨m', hm, x⟩, ?_⟩
      exact h1 rfl F1 σ H1 _ E1 ⟨fun Γ L F σ H ⟨m', hm, hW⟩ E => ⟨m', hm, F, Γ, L, hW, E⟩, q.rt, q.nx, fun Γ L F σ H ⟨m', hm, hW⟩ E => ⟨m', hm, F, Γ, L, hW, E⟩⟩
    | false =>
      rw [if_neg Bool.false_ne_true]
      exact q.nx Γ L1 F1 σ H1 (h2 rfl) E1⟩
/-- raise B('..') -/
theorem sk_raise {x m : Str} {j : Nat} {p p2 pos2 : Pos} {C : Addr} (hc : X.calm = true) (tk : L2N.Takes X (ZW X.K F0 Z)) (q : PySem.W.excIn X.K C He.veBase "ValueError.__new__" = true) (gC : X.mg x = some (.ref C)) (kC : PySem.W.keepIn X.K (.ref C) = true) (r : Raises X (.ref C)) (hg : Gl X x)
    (h : Z ⟨.ref C, none⟩ Γ L) (hdb : (x == ("__debug__" : Str)) = false := by decide) : SK X F0 (.Raise (some (.Call (.Name x p) [.Constant (.str m) j p2] [] pos)) none pos2) Γ L k := fun F σ H Dn E _ =>
  wpS.of (L2N.ps_raise hc tk (L2N.pmk_own PySem.F.excBase_ValueError q gC kC r hg hdb)) ⟨⟨.ref C, none⟩, Γ, L, F, rfl, h, E, rfl⟩
/-- try: body except x as n: suite -/
theorem sk_try_as {x n : Str} {cv : Value} {i : Nat} {b₀ : Stmt} {suite : List Stmt} {np pos' : Pos} (cf : Cf X N Nc sc F0 Z) (hi : N[i]? = some n) (hln : sc.names.lookup n = some .local) (hc : Names X x cv)
    (hb : ∀ (pn : List (Addr × Obj)) (xe : Value → Shared → Prop) (Z' : Xc → Gm → Lg → Prop), Cf (X.tr pn xe) N Nc sc F0 Z' →
      (∀ y Γ' L', (∃ b, PySem.W.exmOne X.K y.c cv = some b ∧
        (b = true → ∀ (a : Addr) (oe : Obj) (pn : List (Addr × Obj)), (y.fs = none → Zc y.c none oe) → (∃ vs, oe.data = .fields vs) → Cn (X.suite a ((a, oe) :: pn)) N Nc sc → ∃ Γ1, Put Γ' i (some (.ref a)) Γ1 ∧ BK (X.suite a ((a, oe) :: pn)) F0 (b₀ :: suite) Γ1 L'
          { nx := fun Γ2 L2 => ∃ Γ3, Put Γ2 i none Γ3 ∧ k.nx Γ3 L2, rt := k.rt, bk := fun Γ2 L2 => ∃ Γ3, Put Γ2 i none Γ3 ∧ k.bk Γ3 L2, ct := fun Γ2 L2 => ∃ Γ3, Put Γ2 i none Γ3 ∧ k.ct Γ3 L2 }) ∧
        (b = false → Z y Γ' L')) → Z' y Γ' L') → BK (X.tr pn xe) F0 body Γ L k) :
    SK X F0 (.Try body [.ExceptHandler (some (.Name x np)) (some n) (b₀ :: suite) pos'] [] [] pos) Γ L k := fun F σ H Dn E q => by
  have hi' : X.N[i]? = some n := by rw [cf.n]; exact get_app hi
  refine wpS.of (L2N.ps_try_as (i := i) (Wout := ZW X.K F0 Z)
    (tb := fun W Dn σ H => ∀ (pn : List (Addr × Obj)) (xe : Value → Shared → Prop), L2N.Takes (X.tr pn xe) W → PassesOwn (model X.prog X.w) X.A X.env xe → wpB (X.tr pn xe) body Dn σ H)
    (ts := fun a cls d Dn σ H => ∀ (oe : Obj) (pn : List (Addr × Obj)), L2N.Zn cls d oe → (∃ vs, oe.data = .fields vs) → wpB (X.suite a ((a, oe) :: pn)) (b₀ :: suite) Dn σ H)
    cf.stk cf.fr (by rw [cf.n]; exact cf.nd) hi' (by show X.env.scope.names.lookup n = _; rw [cf.scp]; exact hln) hc cf.tk
    (fun W pn xe tk own => ⟨fun pins s σ H Dn I h => (h pn xe tk own).run pins s I⟩) (fun a oe cls d pn hz hf => ⟨fun pins s σ H Dn I h => (h oe pn hz hf).run pins s I⟩)) ?_
  intro pn xe tk own
  refine hb pn xe (fun y Γ' L' => ∃ b, PySem.W.exmOne X.K y.c cv = some b ∧
        (b = true → ∀ (a : Addr) (oe : Obj) (pn : List (Addr × Obj)), (y.fs = none → Zc y.c none oe) → (∃ vs, oe.data = .fields vs) → Cn (X.suite a ((a, oe) :: pn)) N Nc sc → ∃ Γ1, Put Γ' i (some (.ref a)) Γ1 ∧ BK (X.suite a ((a, oe) :: pn)) F0 (b₀ :: suite) Γ1 L'
          { nx := fun Γ2 L2 => ∃ Γ3, Put Γ2 i none Γ3 ∧ k.nx Γ3 L2, rt := k.rt, bk := fun Γ2 L2 => ∃ Γ3, Put Γ2 i none Γ3 ∧ k.bk Γ3 L2, ct := fun Γ2 L2 => ∃ Γ3, Put Γ2 i none Γ3 ∧ k.ct Γ3 L2 }) ∧
        (b = false → Z y Γ' L')) ⟨⟨cf.n, cf.nd, cf.scp, cf.loc, cf.fn⟩, cf.calm, own, tk.imp ?_, cf.stk, cf.fr⟩ (fun _ _ _ h => h) F σ H Dn E ⟨q.nx, q.rt, q.bk, q.ct⟩
  rintro cls od σ' H' ⟨y, Γ', L', F', rfl, ⟨b, h1, h2, h3⟩, E', x'⟩
  refine ⟨b, h1, fun hb a na => ?_, fun hb => ⟨y, Γ', L', F', rfl, h3 hb, E', x'⟩⟩
  intro oe pn hz hf
  obtain ⟨Γ1, p1, h4⟩ := h2 hb a oe pn (fun hn => by
    have e : od = none := by
      unfold XRep at x'
      rw [hn] at x'
      exact x'
    rw [e] at hz
    exact hz.zc) hf ⟨cf.n, cf.nd, cf.scp, cf.loc, cf.fn⟩
  refine h4 F' _ H' _ ⟨E'.ge, E'.led, E'.sl.put .ref p1⟩ ⟨?_, q.rt, ?_, ?_⟩
  · rintro Γ2 L2 F2 σ2 H2 ⟨Γ3, p3, h5⟩ E2
    exact q.nx Γ3 L2 F2 _ H2 h5 ⟨E2.ge, E2.led, E2.sl.out p3⟩
  · rintro Γ2 L2 F2 σ2 H2 ⟨Γ3, p3, h5⟩ E2
    exact q.bk Γ3 L2 F2 _ H2 h5 ⟨E2.ge, E2.led, E2.sl.out p3⟩
  · rintro Γ2 L2 F2 σ2 H2 ⟨Γ3, p3, h5⟩ E2
    exact q.ct Γ3 L2 F2 _ H2 h5 ⟨E2.ge, E2.led, E2.sl.out p3⟩
end
/-! ### a def -/
theorem reps_slots {K : PySem.W.Frag} {F : Hp} : ∀ {ds : List D} {vs : List V} (n : Nat), Reps K F ds vs → Slots K F (ds.map some ++ List.replicate n none) (vs.map some ++ List.replicate n none)
  | _, _, n, .nil => by
    induction n with
    | zero => exact .nil
    | succ n ih => exact .no ih
  | _, _, n, .cons r t => .so r (reps_slots n t)
def locs (N : List Str) (sc : Scope) : Bool := N.all fun x => decide (sc.names.lookup x = some .local) || decide (sc.names.lookup x = some .cell)
theorem locs_ok {N : List Str} {sc : Scope} (h : locs N sc = true) : ∀ x ∈ N, L2.Loc sc x := fun x hx => by
  have := List.all_eq_true.mp h x hx
  simp only [Bool.or_eq_true, decide_eq_true_eq] at this
  exact this
/-- the def at f keeps the promise S -/
theorem fn_ok {P : Program} {w : World} {K : PySem.W.Frag} {mg : Str → Option Value} {base : Heap} {x qual : Str} {params : Arguments} {body : List Stmt} {scope : Scope} {f : Addr} {fd : FuncData} {N Nc ps : List Str} {n : Nat} {S : SpD}
    (F : FunD K x qual params body scope [] [] f fd) (Sc : FnScope (N ++ Nc) ps scope) (hl : locs N scope = true) (hlen : ∀ ds L q e, S ds L q e → ds.length = ps.length)
    (hb : ∀ (X : Cx) (F0 : Hp) (ds : List D) (L : Lg) (q : D → Lg → Prop) (e : Xc → Lg → Prop), X.prog = P → X.w = w → X.K = K → X.mg = mg → X.base = base → Cf X N Nc scope F0 (fun y _ L' => e y L') → Room n X.A → S ds L q e →
      BK X F0 body (ds.map some ++ List.replicate ((N ++ Nc).length - ps.length) none) L { nx := fun _ L' => q .non L', rt := q }) :
    FnOk P w K mg base (L2N.CX P w) (n + 1) f fd ps (spOf K S) := by
  refine F.ok Sc (fun vs H Q E h => ?_) (fun cdv A outer s H vs Q E hr h => ?_)
  · obtain ⟨F, ds, L, q, e, l, r, hS, _⟩ := h
    rw [← r.length]
    exact hlen _ _ _ _ hS
  · obtain ⟨F1, ds, L, q, e, l, r, hS, k1, k2⟩ := h
    have hlen' := hlen _ _ _ _ hS
    refine ⟨_, wb, ?_⟩
    have tk : L2N.Takes (cxOf (L2N.CX P w) P w K mg base (N ++ Nc) qual scope f cdv A outer s H E) (fun cls d _ H => E cls d H) := L2N.takes_of rfl rfl rfl rfl
    have cf : Cf (cxOf (L2N.CX P w) P w K mg base (N ++ Nc) qual scope f cdv A outer s H E) N Nc scope F1 (fun y _ L' => e y L') :=
      ⟨⟨rfl, Sc.nd, rfl, locs_ok hl, fun _ => rfl⟩, rfl, passes_of rfl, tk.imp (fun cls od σ H' ⟨y, Γ, L', F', ec, he, E', x'⟩ => by
        subst ec
        exact k2 y L' F' od H' he E'.ge E'.led x'), rfl, rfl⟩
    have E1 : At K F1 F1 (ds.map some ++ List.replicate ((N ++ Nc).length - ps.length) none) L (L2.start (N ++ Nc) vs) H := ⟨Same.refl F1, l, by
      have hv : (N ++ Nc).length - ps.length = (N ++ Nc).length - vs.length := by rw [← r.length, hlen']
      unfold L2.start
      rw [hv]
      exact reps_slots _ r⟩
    exact hb (cxOf (L2N.CX P w) P w K mg base (N ++ Nc) qual scope f cdv A outer s H E) F1 ds L q e rfl rfl rfl rfl rfl cf hr hS F1 _ H _ E1
      ⟨fun Γ L' F' σ H' h' E' => k1 .non L' F' .non H' h' E'.ge E'.led .non, fun d L' F' v H' h' s' l' r' => k1 d L' F' v H' h' s' l' r', fun _ _ _ _ _ h' _ => h'.elim, fun _ _ _ _ _ h' _ => h'.elim⟩
end Vs

set_option Elab.async false
set_option linter.all false
set_option maxRecDepth 100000
set_option maxHeartbeats 4000000
namespace Vs
open PySem PySem.Spec PyProof.Rows L2
/-! ### lists that are read: standing still, or of the ledger -/
inductive AsL (L : Lg) : D → List D → Prop
  | lst {ds : List D} : AsL L (.lst ds) ds
  | own {p : Addr} {ds : List D} {j : Nat} : Get L j (p, C.lst ds) → AsL L (.ref p) ds
theorem Get.mem {α : Type} {x : α} : ∀ {xs : List α} {i : Nat}, Get xs i x → x ∈ xs
  | _, _, .z => List.mem_cons_self
  | _, _, .s g => List.mem_cons_of_mem _ g.mem
section
variable {K : PySem.W.Frag} {F F' H : Hp} {L : Lg} {x : D} {v : V} {ds : List D}
theorem AsL.read (a : AsL L x ds) (l : Led K F L H) (r : Rep K F x v) : ∃ p xs, v = .ref p ∧ SqL K H p xs ∧ Reps K F ds xs := by
  cases a with
  | lst =>
    cases r with
    | lst h r => exact ⟨_, _, rfl, l.sub.seq h, r⟩
  | own g =>
    cases r
    obtain ⟨_, xs, h1, h2⟩ := l.ent _ g.mem
    exact ⟨_, xs, rfl, .inl (.inl h1), h2⟩
theorem Reps.at {i : Int} {d : D} {vs : List V} (r : Reps K F ds vs) (h : atI ds i = some d) : ∃ v, atI vs i = some v ∧ Rep K F d v := by
  unfold atI at h ⊢
  rw [r.length] at h
  cases e : ixN vs.length i with
  | none => rw [e] at h; cases h
  | some j =>
    rw [e] at h
    exact r.get h
def cutD (xs : List D) (lo hi : Option Int) : List D := (xs.drop (HT.sIx xs.length 0 lo)).take (HT.sIx xs.length xs.length hi - HT.sIx xs.length 0 lo)
theorem Reps.cut {vs : List V} {lo hi : Option Int} (r : Reps K F ds vs) : Reps K F (cutD ds lo hi) (cutV vs lo hi) := by
  unfold cutD cutV
  rw [r.length]
  exact (r.drop _).take _
end
theorem op_catQ {X : Cx} : OpR X (binaryOp .Add) (fun x y H Q => ∃ l b xs zs, x = .ref l ∧ y = .ref b ∧ SqL X.K H l xs ∧ SqL X.K H b zs ∧ xs.length + zs.length ≤ sizeLine ∧ ∀ p, H p = none → Q (.ref p) (upd H p (.lst (xs ++ zs)))) := by
  intro pins s σ H x y v u Q I rx ry h
  obtain ⟨l, b, xs, zs, rfl, rfl, hH, hB, hz, q⟩ := h
  cases rx
  cases ry
  obtain ⟨its, r, ⟨o1, n1, g1, c1, d1, e1⟩, hl⟩ := I.list hH
  obtain ⟨its2, r2, ⟨o2, n2, g2, c2, d2, e2⟩, hl2⟩ := I.list hB
  obtain ⟨oc, od, dt, sl⟩ := o1
  obtain ⟨oc2, od2, dt2, sl2⟩ := o2
  dsimp only at c1 e1 c2 e2
  subst c1 e1 c2 e2
  have hn1 := r.length
  have hn2 := r2.length
  have e : its.toArray ++ its2.toArray = (its ++ its2).toArray := by simp
  refine concat_meets ⟨_, g1, rfl⟩ ⟨_, g2, rfl⟩ noFill_list_add seq_list_add PySem.F.slot_list_add PySem.F.entry_list_add (PySem.F.args_list_add_2 _ _) (list_addW l b its.toArray its2.toArray n1 n2 od od2 sl sl2 (by simp only [List.size_toArray]; omega)) ⟨g1, g2, ?_⟩
  rw [e]
  exact ⟨.ref _, _, I.lnew (t' := s.toks) (r.append r2) (by rw [List.length_append]; omega), rfl, q _ I.fresh⟩
section
variable {X : Cx} {F0 : Hp} {Γ : Gm} {L : Lg} {k : D → Lg → Prop} {ka : List D → Lg → Prop} {kt : Bool → Lg → Prop} {e a b c : Expr} {es rest : List Expr} {pos p2 : Pos} {lo hi : Option Expr}
theorem At.new {K : PySem.W.Frag} {F0 F H : Hp} {Γ : Gm} {L : Lg} {σ : L2.St} {p : Addr} {o : HO} (E : At K F0 F Γ L σ H) (hp : H p = none) : At K F0 (upd F p o) Γ L σ (upd H p o) :=
  ⟨E.ge.trans (same_new (E.led.free hp)), E.led.new hp, E.sl.mono (same_new (E.led.free hp))⟩
theorem At.to {K : PySem.W.Frag} {F0 F F' H : Hp} {Γ : Gm} {L : Lg} {σ : L2.St} (E : At K F0 F Γ L σ H) (s : Same F F') {L' : Lg} {H' : Hp} (l : Led K F' L' H') : At K F0 F' Γ L' σ H' := ⟨E.ge.trans s, l, E.sl.mono s⟩
/-- xs + ys, lists -/
theorem ek_cat (h : EvK X F0 a Γ L fun x L1 => EvK X F0 b Γ L1 fun y L2 => ∃ ds es, AsL L2 x ds ∧ AsL L2 y es ∧ ds.length + es.length ≤ sizeLine ∧ k (.lst (ds ++ es)) L2) : EvK X F0 (.BinOp a .Add b pos) Γ L k := fun F σ H Q E q =>
  wpE.of (pe_op op_catQ we we) (h F σ H _ E fun x L1 F1 v H1 h1 E1 s1 r1 => h1 F1 σ H1 _ E1 fun y L2 F2 u H2 ⟨ds, es, a1, a2, hz, h2⟩ E2 s2 r2 => by
    obtain ⟨p, xs, rfl, hx, rx⟩ := a1.read E2.led (r1.mono s2)
    obtain ⟨p', ys, rfl, hy, ry⟩ := a2.read E2.led r2
    refine ⟨p, p', xs, ys, rfl, rfl, hx, hy, by rw [← rx.length, ← ry.length]; exact hz, fun n hn => ?_⟩
    have s3 : Same F2 (upd F2 n (.lst (xs ++ ys))) := same_new (E2.led.free hn)
    exact q _ L2 _ _ _ h2 (E2.new hn) (s1.trans (s2.trans s3)) (.lst (.inl (.inl upd_same)) ((rx.append ry).mono s3)))
theorem ek_catO (h : EvK X F0 a Γ L fun x L1 => EvK X F0 b Γ L1 fun y L2 => ∃ ds es, AsL L2 x ds ∧ AsL L2 y es ∧ ds.length + es.length ≤ sizeLine ∧ ∀ p, k (.ref p) ((p, .lst (ds ++ es)) :: L2)) : EvK X F0 (.BinOp a .Add b pos) Γ L k := fun F σ H Q E q =>
  wpE.of (pe_op op_catQ we we) (h F σ H _ E fun x L1 F1 v H1 h1 E1 s1 r1 => h1 F1 σ H1 _ E1 fun y L2 F2 u H2 ⟨ds, es, a1, a2, hz, h2⟩ E2 s2 r2 => by
    obtain ⟨p, xs, rfl, hx, rx⟩ := a1.read E2.led (r1.mono s2)
    obtain ⟨p', ys, rfl, hy, ry⟩ := a2.read E2.led r2
    refine ⟨p, p', xs, ys, rfl, rfl, hx, hy, by rw [← rx.length, ← ry.length]; exact hz, fun n hn => ?_⟩
    exact q _ _ F2 _ _ (h2 n) (E2.to (Same.refl F2) (E2.led.newL hn (rx.append ry))) (s1.trans s2) .ref)
theorem ek_cats (h : EvK X F0 a Γ L fun x L1 => ∃ i, x = .str i ∧ EvK X F0 b Γ L1 fun y L2 => ∃ j, y = .str j ∧ i.length + j.length ≤ sizeLine ∧ k (.str (i ++ j)) L2) : EvK X F0 (.BinOp a .Add b pos) Γ L k := fun F σ H Q E q =>
  wpE.of (pe_op op_add_str we we) (h F σ H _ E fun x L1 F1 v H1 ⟨i, e1, h1⟩ E1 s1 r1 => h1 F1 σ H1 _ E1 fun y L2 F2 u H2 ⟨j, e2, hc, h2⟩ E2 s2 r2 => by
    subst e1 e2
    cases r1
    cases r2
    exact ⟨i, j, rfl, rfl, hc, q _ L2 F2 _ H2 h2 E2 (s1.trans s2) .str⟩)
/-- xs[i] of a list, of a tuple, of a text -/
theorem ek_ix (h : EvK X F0 a Γ L fun x L1 => EvK X F0 b Γ L1 fun y L2 => ∃ ds i d, AsL L2 x ds ∧ y = .int i ∧ atI ds i = some d ∧ k d L2) (hs : PlainIx b) : EvK X F0 (.Subscript a b pos) Γ L k := fun F σ H Q E q =>
  wpE.of (pe_ix ix_list we we hs) (h F σ H _ E fun x L1 F1 v H1 h1 E1 s1 r1 => h1 F1 σ H1 _ E1 fun y L2 F2 u H2 ⟨ds, i, d, a1, e2, hd, h2⟩ E2 s2 r2 => by
    subst e2
    cases r2
    obtain ⟨p, xs, rfl, hx, rx⟩ := a1.read E2.led (r1.mono s2)
    obtain ⟨w, hw, rw_⟩ := rx.at hd
    exact ⟨p, xs, i, w, rfl, rfl, hx, hw, q d L2 F2 w H2 h2 E2 (s1.trans s2) rw_⟩)
theorem ek_ixT (h : EvK X F0 a Γ L fun x L1 => EvK X F0 b Γ L1 fun y L2 => ∃ ds i d, x = .tup ds ∧ y = .int i ∧ atI ds i = some d ∧ k d L2) (hs : PlainIx b) : EvK X F0 (.Subscript a b pos) Γ L k := fun F σ H Q E q =>
  wpE.of (pe_ix ix_tup we we hs) (h F σ H _ E fun x L1 F1 v H1 h1 E1 s1 r1 => h1 F1 σ H1 _ E1 fun y L2 F2 u H2 ⟨ds, i, d, e1, e2, hd, h2⟩ E2 s2 r2 => by
    subst e1 e2
    cases r2
    cases r1 with
    | tup hx rx =>
      obtain ⟨w, hw, rw_⟩ := rx.at hd
      exact ⟨_, _, i, w, rfl, rfl, seqT E2.led.sub (seqT s2 hx), hw, q d L2 F2 w H2 h2 E2 (s1.trans s2) (rw_.mono s2)⟩)
theorem ek_ixS (h : EvK X F0 a Γ L fun x L1 => EvK X F0 b Γ L1 fun y L2 => ∃ z i c, x = .str z ∧ y = .int i ∧ z.length ≤ sizeLine ∧ atI z.cps.toList i = some c ∧ k (.str ⟨#[c]⟩) L2) (hs : PlainIx b) : EvK X F0 (.Subscript a b pos) Γ L k := fun F σ H Q E q =>
  wpE.of (pe_ix ix_str we we hs) (h F σ H _ E fun x L1 F1 v H1 h1 E1 s1 r1 => h1 F1 σ H1 _ E1 fun y L2 F2 u H2 ⟨z, i, c, e1, e2, hz, hd, h2⟩ E2 s2 r2 => by
    subst e1 e2
    cases r2
    cases r1
    exact ⟨z, i, c, rfl, rfl, hz, hd, q _ L2 F2 _ H2 h2 E2 (s1.trans s2) .str⟩)
/-! slices -/
structure wpO (X : Cx) (o : Option Expr) (σ : L2.St) (H : Hp) (Q : Option Int → Hp → Prop) : Prop where
  run : ∀ pins s, Inv X pins σ H s → wpAny (model X.prog X.w) X.A (evalPart o X.env) (fun u s' => ∃ o H', Inv X pins σ H' s' ∧ IsPart u o ∧ Q o H') X.xe s
theorem wo {o : Option Expr} : PO X o (wpO X o) := ⟨fun pins s _ _ _ I h => h.run pins s I⟩
theorem wpO.of {o : Option Expr} {t : TO} {σ : L2.St} {H : Hp} {Q : Option Int → Hp → Prop} (p : PO X o t) (h : t σ H Q) : wpO X o σ H Q := ⟨fun pins s I => p.run pins s σ H Q I h⟩
def EoK (X : Cx) (F0 : Hp) (o : Option Expr) (Γ : Gm) (L : Lg) (k : Option Int → Lg → Prop) : Prop := ∀ (F : Hp) (σ : L2.St) (H : Hp) (Q : Option Int → Hp → Prop), At X.K F0 F Γ L σ H →
  (∀ (i : Option Int) (L' : Lg) (F' : Hp) (H' : Hp), k i L' → At X.K F0 F' Γ L' σ H' → Same F F' → Q i H') → wpO X o σ H Q
theorem eo_n {k : Option Int → Lg → Prop} (h : k none L) : EoK X F0 none Γ L k := fun F σ H Q E q => wpO.of po_none (q none L F H h E (Same.refl F))
theorem eo_s {k : Option Int → Lg → Prop} (h : EvK X F0 a Γ L fun x L1 => ∃ i, x = .int i ∧ k (some i) L1) : EoK X F0 (some a) Γ L k := fun F σ H Q E q =>
  wpO.of (po_some we) (h F σ H _ E fun x L1 F1 v H1 ⟨i, e1, h1⟩ E1 s1 r1 => by
    subst e1
    cases r1
    exact ⟨i, rfl, q (some i) L1 F1 H1 h1 E1 s1⟩)
theorem ek_sl (h : EvK X F0 a Γ L fun x L1 => EoK X F0 lo Γ L1 fun i L2 => EoK X F0 hi Γ L2 fun j L3 => ∃ ds, AsL L3 x ds ∧ k (.lst (cutD ds i j)) L3) : EvK X F0 (.Subscript a (.Slice lo hi none p2) pos) Γ L k := fun F σ H Q E q =>
  wpE.of (pe_slice sl_list we wo wo) (h F σ H _ E fun x L1 F1 v H1 h1 E1 s1 r1 => h1 F1 σ H1 _ E1 fun i L2 F2 H2 h2 E2 s2 => h2 F2 σ H2 _ E2 fun j L3 F3 H3 ⟨ds, a1, h3⟩ E3 s3 => by
    obtain ⟨p, xs, rfl, hx, rx⟩ := a1.read E3.led (r1.mono (s2.trans s3))
    refine ⟨p, xs, rfl, hx, fun n hn => ?_⟩
    have s4 : Same F3 (upd F3 n (.lst (cutV xs i j))) := same_new (E3.led.free hn)
    exact q _ L3 _ _ _ h3 (E3.new hn) (s1.trans (s2.trans (s3.trans s4))) (.lst (.inl (.inl upd_same)) (rx.cut.mono s4)))
theorem ek_slO (h : EvK X F0 a Γ L fun x L1 => EoK X F0 lo Γ L1 fun i L2 => EoK X F0 hi Γ L2 fun j L3 => ∃ ds, AsL L3 x ds ∧ ∀ p, k (.ref p) ((p, .lst (cutD ds i j)) :: L3)) : EvK X F0 (.Subscript a (.Slice lo hi none p2) pos) Γ L k := fun F σ H Q E q =>
  wpE.of (pe_slice sl_list we wo wo) (h F σ H _ E fun x L1 F1 v H1 h1 E1 s1 r1 => h1 F1 σ H1 _ E1 fun i L2 F2 H2 h2 E2 s2 => h2 F2 σ H2 _ E2 fun j L3 F3 H3 ⟨ds, a1, h3⟩ E3 s3 => by
    obtain ⟨p, xs, rfl, hx, rx⟩ := a1.read E3.led (r1.mono (s2.trans s3))
    refine ⟨p, xs, rfl, hx, fun n hn => ?_⟩
    exact q _ _ F3 _ _ (h3 n) (E3.to (Same.refl F3) (E3.led.newL hn rx.cut)) (s1.trans (s2.trans s3)) .ref)
theorem ek_slS (h : EvK X F0 a Γ L fun x L1 => ∃ z, x = .str z ∧ z.length ≤ sizeLine ∧ EoK X F0 lo Γ L1 fun i L2 => EoK X F0 hi Γ L2 fun j L3 => k (.str (cutS z i j)) L3) : EvK X F0 (.Subscript a (.Slice lo hi none p2) pos) Γ L k := fun F σ H Q E q =>
  wpE.of (pe_slice sl_str we wo wo) (h F σ H _ E fun x L1 F1 v H1 ⟨z, e1, hz, h1⟩ E1 s1 r1 => h1 F1 σ H1 _ E1 fun i L2 F2 H2 h2 E2 s2 => h2 F2 σ H2 _ E2 fun j L3 F3 H3 h3 E3 s3 => by
    subst e1
    cases r1
    exact ⟨z, rfl, hz, q _ L3 F3 _ H3 h3 E3 (s1.trans (s2.trans s3)) .str⟩)
end
end Vs

set_option Elab.async false
set_option linter.all false
set_option maxRecDepth 100000
set_option maxHeartbeats 4000000
namespace Vs
open PySem PySem.Spec PyProof.Rows L2
/-- a reading -/
def RdK (X : Cx) (F0 : Hp) (t : TE) (Γ : Gm) (L : Lg) (k : D → Lg → Prop) : Prop := ∀ (F : Hp) (σ : L2.St) (H : Hp) (Q : VK), At X.K F0 F Γ L σ H →
  (∀ (d : D) (L' : Lg) (F' : Hp) (v : V) (H' : Hp), k d L' → At X.K F0 F' Γ L' σ H' → Same F F' → Rep X.K F' d v → Q v H') → t σ H Q
section
variable {X : Cx} {F0 : Hp} {Γ : Gm} {L : Lg} {k : D → Lg → Prop} {kt : Bool → Lg → Prop} {e : Expr} {t : TE}
theorem RdK.ev (r : RdK X F0 t Γ L k) (p : PE X e t) : EvK X F0 e Γ L k := fun F σ H Q E q => wpE.of p (r F σ H Q E q)
theorem RdK.tst (r : RdK X F0 t Γ L fun d L' => ∃ b, d = .bl b ∧ kt b L') (p : PT X e (tTest t)) : EtK X F0 e Γ L kt := fun F σ H Q E q =>
  wpT.of p (r F σ H _ E fun d L' F' v H' ⟨b, e1, h⟩ E' s r => by
    subst e1
    cases r
    exact ⟨b, rfl, q b L' F' H' h E' s⟩)
end
section
variable {X : Cx} {F0 : Hp} {Γ : Gm} {L : Lg} {k : D → Lg → Prop} {ka : List D → Lg → Prop} {kt : Bool → Lg → Prop} {e a b c : Expr} {es rest : List Expr} {pos p2 : Pos}
/-! comparisons of numbers -/
theorem rd_cmpI {g : Int → Int → Bool} (h : EvK X F0 a Γ L fun x L1 => ∃ i, x = .int i ∧ EvK X F0 b Γ L1 fun y L2 => ∃ j, y = .int j ∧ k (.bl (g i j)) L2) : RdK X F0 (tOp (rI0 fun i j => .bl (g i j)) (wpE X a) (wpE X b)) Γ L k := fun F σ H Q E q =>
  h F σ H _ E fun x L1 F1 v H1 ⟨i, e1, h1⟩ E1 s1 r1 => h1 F1 σ H1 _ E1 fun y L2 F2 u H2 ⟨j, e2, h2⟩ E2 s2 r2 => by
    subst e1 e2
    cases r1
    cases r2
    exact ⟨i, j, rfl, rfl, q _ L2 F2 _ H2 h2 E2 (s1.trans s2) .bl⟩
theorem ek_cmpI {op : CmpOp} {g : Int → Int → Bool} (ho : OpR X (compareOp op) (rI0 fun i j => .bl (g i j)))
    (h : EvK X F0 a Γ L fun x L1 => ∃ i, x = .int i ∧ EvK X F0 b Γ L1 fun y L2 => ∃ j, y = .int j ∧ k (.bl (g i j)) L2) (hm : behindInMarks op b = false) : EvK X F0 (.Compare a [op] [b] pos) Γ L k := (rd_cmpI h).ev (pe_cmpR ho we we hm)
theorem et_cmpI {op : CmpOp} {g : Int → Int → Bool} (ho : OpR X (compareOp op) (rI0 fun i j => .bl (g i j)))
    (h : EvK X F0 a Γ L fun x L1 => ∃ i, x = .int i ∧ EvK X F0 b Γ L1 fun y L2 => ∃ j, y = .int j ∧ kt (g i j) L2) (hm : behindInMarks op b = false) : EtK X F0 (.Compare a [op] [b] pos) Γ L kt := (rd_cmpI (k := fun d L' => ∃ b, d = .bl b ∧ kt b L') (by
  exact fun F σ H Q E q => h F σ H Q E fun x L1 F1 v H1 ⟨i, e1, h1⟩ E1 s1 r1 => q x L1 F1 v H1 ⟨i, e1, fun F σ H Q E q => h1 F σ H Q E fun y L2 F2 u H2 ⟨j, e2, h2⟩ E2 s2 r2 => q y L2 F2 u H2 ⟨j, e2, _, rfl, h2⟩ E2 s2 r2⟩ E1 s1 r1)).tst (pt_cmpR ho we we hm)
theorem ek_lt (h : EvK X F0 a Γ L fun x L1 => ∃ i, x = .int i ∧ EvK X F0 b Γ L1 fun y L2 => ∃ j, y = .int j ∧ k (.bl (decide (i < j))) L2) (hm : behindInMarks .Lt b = false := by rfl) : EvK X F0 (.Compare a [.Lt] [b] pos) Γ L k := ek_cmpI op_lt h hm
theorem et_lt (h : EvK X F0 a Γ L fun x L1 => ∃ i, x = .int i ∧ EvK X F0 b Γ L1 fun y L2 => ∃ j, y = .int j ∧ kt (decide (i < j)) L2) (hm : behindInMarks .Lt b = false := by rfl) : EtK X F0 (.Compare a [.Lt] [b] pos) Γ L kt := et_cmpI op_lt h hm
theorem ek_le (h : EvK X F0 a Γ L fun x L1 => ∃ i, x = .int i ∧ EvK X F0 b Γ L1 fun y L2 => ∃ j, y = .int j ∧ k (.bl (decide (i ≤ j))) L2) (hm : behindInMarks .LtE b = false := by rfl) : EvK X F0 (.Compare a [.LtE] [b] pos) Γ L k := ek_cmpI op_le h hm
theorem et_le (h : EvK X F0 a Γ L fun x L1 => ∃ i, x = .int i ∧ EvK X F0 b Γ L1 fun y L2 => ∃ j, y = .int j ∧ kt (decide (i ≤ j)) L2) (hm : behindInMarks .LtE b = false := by rfl) : EtK X F0 (.Compare a [.LtE] [b] pos) Γ L kt := et_cmpI op_le h hm
theorem ek_gt (h : EvK X F0 a Γ L fun x L1 => ∃ i, x = .int i ∧ EvK X F0 b Γ L1 fun y L2 => ∃ j, y = .int j ∧ k (.bl (decide (j < i))) L2) (hm : behindInMarks .Gt b = false := by rfl) : EvK X F0 (.Compare a [.Gt] [b] pos) Γ L k := ek_cmpI op_gt h hm
theorem et_gt (h : EvK X F0 a Γ L fun x L1 => ∃ i, x = .int i ∧ EvK X F0 b Γ L1 fun y L2 => ∃ j, y = .int j ∧ kt (decide (j < i)) L2) (hm : behindInMarks .Gt b = false := by rfl) : EtK X F0 (.Compare a [.Gt] [b] pos) Γ L kt := et_cmpI op_gt h hm
theorem ek_ge (h : EvK X F0 a Γ L fun x L1 => ∃ i, x = .int i ∧ EvK X F0 b Γ L1 fun y L2 => ∃ j, y = .int j ∧ k (.bl (decide (j ≤ i))) L2) (hm : behindInMarks .GtE b = false := by rfl) : EvK X F0 (.Compare a [.GtE] [b] pos) Γ L k := ek_cmpI op_ge h hm
theorem et_ge (h : EvK X F0 a Γ L fun x L1 => ∃ i, x = .int i ∧ EvK X F0 b Γ L1 fun y L2 => ∃ j, y = .int j ∧ kt (decide (j ≤ i)) L2) (hm : behindInMarks .GtE b = false := by rfl) : EtK X F0 (.Compare a [.GtE] [b] pos) Γ L kt := et_cmpI op_ge h hm
theorem rd_eqI (h : EvK X F0 a Γ L fun x L1 => ∃ i, x = .int i ∧ EvK X F0 b Γ L1 fun y L2 => ∃ j, y = .int j ∧ k (.bl (decide (i = j))) L2) : RdK X F0 (tOp rEq (wpE X a) (wpE X b)) Γ L k := fun F σ H Q E q =>
  h F σ H _ E fun x L1 F1 v H1 ⟨i, e1, h1⟩ E1 s1 r1 => h1 F1 σ H1 _ E1 fun y L2 F2 u H2 ⟨j, e2, h2⟩ E2 s2 r2 => by
    subst e1 e2
    cases r1
    cases r2
    refine ⟨rfl, ?_⟩
    have z : decide (V.int i = V.int j) = decide (i = j) := by rw [dec_int]; by_cases h : i = j <;> simp [h]
    rw [z]
    exact q _ L2 F2 _ H2 h2 E2 (s1.trans s2) .bl
theorem ek_eqI (h : EvK X F0 a Γ L fun x L1 => ∃ i, x = .int i ∧ EvK X F0 b Γ L1 fun y L2 => ∃ j, y = .int j ∧ k (.bl (decide (i = j))) L2) (hm : behindInMarks .Eq b = false := by rfl) : EvK X F0 (.Compare a [.Eq] [b] pos) Γ L k := (rd_eqI h).ev (pe_cmpR op_eq we we hm)
theorem et_eqI (h : EvK X F0 a Γ L fun x L1 => ∃ i, x = .int i ∧ EvK X F0 b Γ L1 fun y L2 => ∃ j, y = .int j ∧ kt ((decide (i = j))) L2) (hm : behindInMarks .Eq b = false := by rfl) : EtK X F0 (.Compare a [.Eq] [b] pos) Γ L kt := (rd_eqI (k := fun d L' => ∃ b, d = .bl b ∧ kt b L') (by
  exact fun F σ H Q E q => h F σ H Q E fun x L1 F1 v H1 ⟨i, e1, h1⟩ E1 s1 r1 => q x L1 F1 v H1 ⟨i, e1, fun F σ H Q E q => h1 F σ H Q E fun y L2 F2 u H2 ⟨j, e2, h2⟩ E2 s2 r2 => q y L2 F2 u H2 ⟨j, e2, _, rfl, h2⟩ E2 s2 r2⟩ E1 s1 r1)).tst (pt_cmpR op_eq we we hm)

theorem rd_neI (h : EvK X F0 a Γ L fun x L1 => ∃ i, x = .int i ∧ EvK X F0 b Γ L1 fun y L2 => ∃ j, y = .int j ∧ k (.bl (!decide (i = j))) L2) : RdK X F0 (tOp rNe (wpE X a) (wpE X b)) Γ L k := fun F σ H Q E q =>
  h F σ H _ E fun x L1 F1 v H1 ⟨i, e1, h1⟩ E1 s1 r1 => h1 F1 σ H1 _ E1 fun y L2 F2 u H2 ⟨j, e2, h2⟩ E2 s2 r2 => by
    subst e1 e2
    cases r1
    cases r2
    refine ⟨rfl, ?_⟩
    have z : decide (V.int i = V.int j) = decide (i = j) := by rw [dec_int]; by_cases h : i = j <;> simp [h]
    rw [z]
    exact q _ L2 F2 _ H2 h2 E2 (s1.trans s2) .bl
theorem ek_neI (h : EvK X F0 a Γ L fun x L1 => ∃ i, x = .int i ∧ EvK X F0 b Γ L1 fun y L2 => ∃ j, y = .int j ∧ k (.bl (!decide (i = j))) L2) (hm : behindInMarks .NotEq b = false := by rfl) : EvK X F0 (.Compare a [.NotEq] [b] pos) Γ L k := (rd_neI h).ev (pe_cmpR op_ne we we hm)
theorem et_neI (h : EvK X F0 a Γ L fun x L1 => ∃ i, x = .int i ∧ EvK X F0 b Γ L1 fun y L2 => ∃ j, y = .int j ∧ kt ((!decide (i = j))) L2) (hm : behindInMarks .NotEq b = false := by rfl) : EtK X F0 (.Compare a [.NotEq] [b] pos) Γ L kt := (rd_neI (k := fun d L' => ∃ b, d = .bl b ∧ kt b L') (by
  exact fun F σ H Q E q => h F σ H Q E fun x L1 F1 v H1 ⟨i, e1, h1⟩ E1 s1 r1 => q x L1 F1 v H1 ⟨i, e1, fun F σ H Q E q => h1 F σ H Q E fun y L2 F2 u H2 ⟨j, e2, h2⟩ E2 s2 r2 => q y L2 F2 u H2 ⟨j, e2, _, rfl, h2⟩ E2 s2 r2⟩ E1 s1 r1)).tst (pt_cmpR op_ne we we hm)

theorem rd_eqS (h : EvK X F0 a Γ L fun x L1 => ∃ i, x = .str i ∧ EvK X F0 b Γ L1 fun y L2 => ∃ j, y = .str j ∧ k (.bl (decide (i = j))) L2) : RdK X F0 (tOp rEq (wpE X a) (wpE X b)) Γ L k := fun F σ H Q E q =>
  h F σ H _ E fun x L1 F1 v H1 ⟨i, e1, h1⟩ E1 s1 r1 => h1 F1 σ H1 _ E1 fun y L2 F2 u H2 ⟨j, e2, h2⟩ E2 s2 r2 => by
    subst e1 e2
    cases r1
    cases r2
    refine ⟨rfl, ?_⟩
    have z : decide (V.str i = V.str j) = decide (i = j) := by rw [dec_str]; by_cases h : i = j <;> simp [h]
    rw [z]
    exact q _ L2 F2 _ H2 h2 E2 (s1.trans s2) .bl
theorem ek_eqS (h : EvK X F0 a Γ L fun x L1 => ∃ i, x = .str i ∧ EvK X F0 b Γ L1 fun y L2 => ∃ j, y = .str j ∧ k (.bl (decide (i = j))) L2) (hm : behindInMarks .Eq b = false := by rfl) : EvK X F0 (.Compare a [.Eq] [b] pos) Γ L k := (rd_eqS h).ev (pe_cmpR op_eq we we hm)
theorem et_eqS (h : EvK X F0 a Γ L fun x L1 => ∃ i, x = .str i ∧ EvK X F0 b Γ L1 fun y L2 => ∃ j, y = .str j ∧ kt ((decide (i = j))) L2) (hm : behindInMarks .Eq b = false := by rfl) : EtK X F0 (.Compare a [.Eq] [b] pos) Γ L kt := (rd_eqS (k := fun d L' => ∃ b, d = .bl b ∧ kt b L') (by
  exact fun F σ H Q E q => h F σ H Q E fun x L1 F1 v H1 ⟨i, e1, h1⟩ E1 s1 r1 => q x L1 F1 v H1 ⟨i, e1, fun F σ H Q E q => h1 F σ H Q E fun y L2 F2 u H2 ⟨j, e2, h2⟩ E2 s2 r2 => q y L2 F2 u H2 ⟨j, e2, _, rfl, h2⟩ E2 s2 r2⟩ E1 s1 r1)).tst (pt_cmpR op_eq we we hm)

theorem rd_neS (h : EvK X F0 a Γ L fun x L1 => ∃ i, x = .str i ∧ EvK X F0 b Γ L1 fun y L2 => ∃ j, y = .str j ∧ k (.bl (!decide (i = j))) L2) : RdK X F0 (tOp rNe (wpE X a) (wpE X b)) Γ L k := fun F σ H Q E q =>
  h F σ H _ E fun x L1 F1 v H1 ⟨i, e1, h1⟩ E1 s1 r1 => h1 F1 σ H1 _ E1 fun y L2 F2 u H2 ⟨j, e2, h2⟩ E2 s2 r2 => by
    subst e1 e2
    cases r1
    cases r2
    refine ⟨rfl, ?_⟩
    have z : decide (V.str i = V.str j) = decide (i = j) := by rw [dec_str]; by_cases h : i = j <;> simp [h]
    rw [z]
    exact q _ L2 F2 _ H2 h2 E2 (s1.trans s2) .bl
theorem ek_neS (h : EvK X F0 a Γ L fun x L1 => ∃ i, x = .str i ∧ EvK X F0 b Γ L1 fun y L2 => ∃ j, y = .str j ∧ k (.bl (!decide (i = j))) L2) (hm : behindInMarks .NotEq b = false := by rfl) : EvK X F0 (.Compare a [.NotEq] [b] pos) Γ L k := (rd_neS h).ev (pe_cmpR op_ne we we hm)
theorem et_neS (h : EvK X F0 a Γ L fun x L1 => ∃ i, x = .str i ∧ EvK X F0 b Γ L1 fun y L2 => ∃ j, y = .str j ∧ kt ((!decide (i = j))) L2) (hm : behindInMarks .NotEq b = false := by rfl) : EtK X F0 (.Compare a [.NotEq] [b] pos) Γ L kt := (rd_neS (k := fun d L' => ∃ b, d = .bl b ∧ kt b L') (by
  exact fun F σ H Q E q => h F σ H Q E fun x L1 F1 v H1 ⟨i, e1, h1⟩ E1 s1 r1 => q x L1 F1 v H1 ⟨i, e1, fun F σ H Q E q => h1 F σ H Q E fun y L2 F2 u H2 ⟨j, e2, h2⟩ E2 s2 r2 => q y L2 F2 u H2 ⟨j, e2, _, rfl, h2⟩ E2 s2 r2⟩ E1 s1 r1)).tst (pt_cmpR op_ne we we hm)

theorem rd_eqB (h : EvK X F0 a Γ L fun x L1 => ∃ i, x = .bl i ∧ EvK X F0 b Γ L1 fun y L2 => ∃ j, y = .bl j ∧ k (.bl (i == j)) L2) : RdK X F0 (tOp rEq (wpE X a) (wpE X b)) Γ L k := fun F σ H Q E q =>
  h F σ H _ E fun x L1 F1 v H1 ⟨i, e1, h1⟩ E1 s1 r1 => h1 F1 σ H1 _ E1 fun y L2 F2 u H2 ⟨j, e2, h2⟩ E2 s2 r2 => by
    subst e1 e2
    cases r1
    cases r2
    refine ⟨rfl, ?_⟩
    rw [dec_bl]
    exact q _ L2 F2 _ H2 h2 E2 (s1.trans s2) .bl
theorem ek_eqB (h : EvK X F0 a Γ L fun x L1 => ∃ i, x = .bl i ∧ EvK X F0 b Γ L1 fun y L2 => ∃ j, y = .bl j ∧ k (.bl (i == j)) L2) (hm : behindInMarks .Eq b = false := by rfl) : EvK X F0 (.Compare a [.Eq] [b] pos) Γ L k := (rd_eqB h).ev (pe_cmpR op_eq we we hm)
theorem et_eqB (h : EvK X F0 a Γ L fun x L1 => ∃ i, x = .bl i ∧ EvK X F0 b Γ L1 fun y L2 => ∃ j, y = .bl j ∧ kt ((i == j)) L2) (hm : behindInMarks .Eq b = false := by rfl) : EtK X F0 (.Compare a [.Eq] [b] pos) Γ L kt := (rd_eqB (k := fun d L' => ∃ b, d = .bl b ∧ kt b L') (by
  exact fun F σ H Q E q => h F σ H Q E fun x L1 F1 v H1 ⟨i, e1, h1⟩ E1 s1 r1 => q x L1 F1 v H1 ⟨i, e1, fun F σ H Q E q => h1 F σ H Q E fun y L2 F2 u H2 ⟨j, e2, h2⟩ E2 s2 r2 => q y L2 F2 u H2 ⟨j, e2, _, rfl, h2⟩ E2 s2 r2⟩ E1 s1 r1)).tst (pt_cmpR op_eq we we hm)

theorem rd_neB (h : EvK X F0 a Γ L fun x L1 => ∃ i, x = .bl i ∧ EvK X F0 b Γ L1 fun y L2 => ∃ j, y = .bl j ∧ k (.bl (!(i == j))) L2) : RdK X F0 (tOp rNe (wpE X a) (wpE X b)) Γ L k := fun F σ H Q E q =>
  h F σ H _ E fun x L1 F1 v H1 ⟨i, e1, h1⟩ E1 s1 r1 => h1 F1 σ H1 _ E1 fun y L2 F2 u H2 ⟨j, e2, h2⟩ E2 s2 r2 => by
    subst e1 e2
    cases r1
    cases r2
    refine ⟨rfl, ?_⟩
    rw [dec_bl]
    exact q _ L2 F2 _ H2 h2 E2 (s1.trans s2) .bl
theorem ek_neB (h : EvK X F0 a Γ L fun x L1 => ∃ i, x = .bl i ∧ EvK X F0 b Γ L1 fun y L2 => ∃ j, y = .bl j ∧ k (.bl (!(i == j))) L2) (hm : behindInMarks .NotEq b = false := by rfl) : EvK X F0 (.Compare a [.NotEq] [b] pos) Γ L k := (rd_neB h).ev (pe_cmpR op_ne we we hm)
theorem et_neB (h : EvK X F0 a Γ L fun x L1 => ∃ i, x = .bl i ∧ EvK X F0 b Γ L1 fun y L2 => ∃ j, y = .bl j ∧ kt ((!(i == j))) L2) (hm : behindInMarks .NotEq b = false := by rfl) : EtK X F0 (.Compare a [.NotEq] [b] pos) Γ L kt := (rd_neB (k := fun d L' => ∃ b, d = .bl b ∧ kt b L') (by
  exact fun F σ H Q E q => h F σ H Q E fun x L1 F1 v H1 ⟨i, e1, h1⟩ E1 s1 r1 => q x L1 F1 v H1 ⟨i, e1, fun F σ H Q E q => h1 F σ H Q E fun y L2 F2 u H2 ⟨j, e2, h2⟩ E2 s2 r2 => q y L2 F2 u H2 ⟨j, e2, _, rfl, h2⟩ E2 s2 r2⟩ E1 s1 r1)).tst (pt_cmpR op_ne we we hm)

/-- x is None, x is not None -/
def isN : D → Bool
  | .non => true
  | _ => false
theorem isN_rep {K : PySem.W.Frag} {F : Hp} {d : D} {v : V} (r : Rep K F d v) : decide (v = V.non) = isN d := by
  cases r <;> rfl
theorem ek_isN {j : Nat} {p3 : Pos} (h : EvK X F0 a Γ L fun x L1 => k (.bl (isN x)) L1) : EvK X F0 (.Compare a [.Is] [.Constant .none j p3] pos) Γ L k := fun F σ H Q E q =>
  wpE.of (pe_cmpR op_isN we pe_non (nomark _)) (h F σ H _ E fun x L1 F1 v H1 h1 E1 s1 r1 => ⟨rfl, by
    rw [isN_rep r1]
    exact q _ L1 F1 _ H1 h1 E1 s1 .bl⟩)
theorem ek_notN {j : Nat} {p3 : Pos} (h : EvK X F0 a Γ L fun x L1 => k (.bl (!isN x)) L1) : EvK X F0 (.Compare a [.IsNot] [.Constant .none j p3] pos) Γ L k := fun F σ H Q E q =>
  wpE.of (pe_cmpR op_notN we pe_non (nomark _)) (h F σ H _ E fun x L1 F1 v H1 h1 E1 s1 r1 => ⟨rfl, by
    rw [isN_rep r1]
    exact q _ L1 F1 _ H1 h1 E1 s1 .bl⟩)
theorem et_isN {j : Nat} {p3 : Pos} (h : EvK X F0 a Γ L fun x L1 => kt (isN x) L1) : EtK X F0 (.Compare a [.Is] [.Constant .none j p3] pos) Γ L kt := fun F σ H Q E q =>
  wpT.of (pt_cmpR op_isN we pe_non (nomark _)) (h F σ H _ E fun x L1 F1 v H1 h1 E1 s1 r1 => ⟨rfl, by
    rw [isN_rep r1]
    exact ⟨_, rfl, q _ L1 F1 H1 h1 E1 s1⟩⟩)
theorem et_notN {j : Nat} {p3 : Pos} (h : EvK X F0 a Γ L fun x L1 => kt (!isN x) L1) : EtK X F0 (.Compare a [.IsNot] [.Constant .none j p3] pos) Γ L kt := fun F σ H Q E q =>
  wpT.of (pt_cmpR op_notN we pe_non (nomark _)) (h F σ H _ E fun x L1 F1 v H1 h1 E1 s1 r1 => ⟨rfl, by
    rw [isN_rep r1]
    exact ⟨_, rfl, q _ L1 F1 H1 h1 E1 s1⟩⟩)
/-- a < b < c and its like -/
theorem ek_chain {op op' : CmpOp} {g g' : Int → Int → Bool} (ho : OpR X (compareOp op) (rI0 fun i j => .bl (g i j))) (ho' : OpR X (compareOp op') (rI0 fun i j => .bl (g' i j)))
    (h : EvK X F0 a Γ L fun x L1 => ∃ i, x = .int i ∧ EvK X F0 b Γ L1 fun y L2 => ∃ j, y = .int j ∧ (g i j = true → EvK X F0 c Γ L2 fun z L3 => ∃ l, z = .int l ∧ k (.bl (g' j l)) L3) ∧ (g i j = false → k (.bl false) L2))
    (hp : PE X e (tChain (rI0 fun i j => .bl (g i j)) (rI0 fun i j => .bl (g' i j)) (wpE X a) (wpE X b) (wpE X c))) : EvK X F0 e Γ L k := fun F σ H Q E q =>
  wpE.of hp (h F σ H _ E fun x L1 F1 v H1 ⟨i, e1, h1⟩ E1 s1 r1 => h1 F1 σ H1 _ E1 fun y L2 F2 u H2 ⟨j, e2, h2, h3⟩ E2 s2 r2 => by
    subst e1 e2
    cases r1
    cases r2
    refine ⟨i, j, rfl, rfl, g i j, rfl, ?_⟩
    cases hg : g i j with
    | true =>
      rw [if_pos rfl]
      exact h2 hg F2 σ H2 _ E2 fun z L3 F3 w H3 ⟨l, e3, h4⟩ E3 s3 r3 => by
        subst e3
        cases r3
        exact ⟨j, l, rfl, rfl, q _ L3 F3 _ H3 h4 E3 (s1.trans (s2.trans s3)) .bl⟩
    | false =>
      rw [if_neg Bool.false_ne_true]
      exact q _ L2 F2 _ H2 (h3 hg) E2 (s1.trans s2) .bl)

theorem ek_ch {op op' : CmpOp} {g g' : Int → Int → Bool} (ho : OpR X (compareOp op) (rI0 fun i j => .bl (g i j))) (ho' : OpR X (compareOp op') (rI0 fun i j => .bl (g' i j)))
    (h : EvK X F0 a Γ L fun x L1 => ∃ i, x = .int i ∧ EvK X F0 b Γ L1 fun y L2 => ∃ j, y = .int j ∧ (g i j = true → EvK X F0 c Γ L2 fun z L3 => ∃ l, z = .int l ∧ k (.bl (g' j l)) L3) ∧ (g i j = false → k (.bl false) L2))
    (hm : lastMarks [op, op'] [b, c] = false := by with_unfolding_all rfl) : EvK X F0 (.Compare a [op, op'] [b, c] pos) Γ L k := ek_chain ho ho' h (pe_chain ho ho' we we we hm)
theorem et_ch {op op' : CmpOp} {g g' : Int → Int → Bool} (ho : OpR X (compareOp op) (rI0 fun i j => .bl (g i j))) (ho' : OpR X (compareOp op') (rI0 fun i j => .bl (g' i j)))
    (h : EvK X F0 a Γ L fun x L1 => ∃ i, x = .int i ∧ EvK X F0 b Γ L1 fun y L2 => ∃ j, y = .int j ∧ (g i j = true → EvK X F0 c Γ L2 fun z L3 => ∃ l, z = .int l ∧ kt (g' j l) L3) ∧ (g i j = false → kt false L2))
    (hm : lastMarks [op, op'] [b, c] = false := by with_unfolding_all rfl) : EtK X F0 (.Compare a [op, op'] [b, c] pos) Γ L kt := fun F σ H Q E q =>
  wpT.of (pt_chain ho ho' we we we hm) (h F σ H _ E fun x L1 F1 v H1 ⟨i, e1, h1⟩ E1 s1 r1 => h1 F1 σ H1 _ E1 fun y L2 F2 u H2 ⟨j, e2, h2, h3⟩ E2 s2 r2 => by
    subst e1 e2
    cases r1
    cases r2
    refine ⟨i, j, rfl, rfl, g i j, rfl, ?_⟩
    cases hg : g i j with
    | true =>
      rw [if_pos rfl]
      exact h2 hg F2 σ H2 _ E2 fun z L3 F3 w H3 ⟨l, e3, h4⟩ E3 s3 r3 => by
        subst e3
        cases r3
        exact ⟨j, l, rfl, rfl, _, rfl, q _ L3 F3 H3 h4 E3 (s1.trans (s2.trans s3))⟩
    | false =>
      rw [if_neg Bool.false_ne_true]
      exact ⟨_, rfl, q _ L2 F2 H2 (h3 hg) E2 (s1.trans s2)⟩)
/-! data at any depth -/
mutual
inductive Dpd (L : Lg) : D → PyData → Prop
  | non : Dpd L .non .none
  | bl {b : Bool} : Dpd L (.bl b) (.bool b)
  | int {i : Int} : Dpd L (.int i) (.int i)
  | str {x : Str} : Dpd L (.str x) (.str x)
  | lst {ds : List D} {ps : List PyData} : Dpds L ds ps → Dpd L (.lst ds) (.list ps)
  | tup {ds : List D} {ps : List PyData} : Dpds L ds ps → Dpd L (.tup ds) (.tuple ps)
  | own {p : Addr} {ds : List D} {ps : List PyData} {j : Nat} : Get L j (p, C.lst ds) → Dpds L ds ps → Dpd L (.ref p) (.list ps)
inductive Dpds (L : Lg) : List D → List PyData → Prop
  | nil : Dpds L [] []
  | cons {d : D} {p : PyData} {ds : List D} {ps : List PyData} : Dpd L d p → Dpds L ds ps → Dpds L (d :: ds) (p :: ps)
end
mutual
theorem Dpd.dp {K : PySem.W.Frag} {F H : Hp} {L : Lg} (l : Led K F L H) : ∀ {d : D} {p : PyData} {v : V}, Dpd L d p → Rep K F d v → Dp K H v p
  | _, _, _, .non, .non => .non
  | _, _, _, .bl, .bl => .bl _
  | _, _, _, .int, .int => .int _
  | _, _, _, .str, .str => .str _
  | _, _, _, .lst h, .lst s r => .lst (l.sub.seq s) (Dpds.dp l h r)
  | _, _, _, .tup h, .tup s r => .tup (seqT l.sub s) (Dpds.dp l h r)
  | _, _, _, .own g h, .ref => by
    obtain ⟨_, xs, h1, h2⟩ := l.ent _ g.mem
    exact .lst (.inl (.inl h1)) (Dpds.dp l h h2)
theorem Dpds.dp {K : PySem.W.Frag} {F H : Hp} {L : Lg} (l : Led K F L H) : ∀ {ds : List D} {ps : List PyData} {vs : List V}, Dpds L ds ps → Reps K F ds vs → DpAll K H vs ps
  | _, _, _, .nil, .nil => .nil
  | _, _, _, .cons h t, .cons r s => .cons (Dpd.dp l h r) (Dpds.dp l t s)
end
theorem rd_eqD (hu : X.A.units + 64 < cLine) (h : EvK X F0 a Γ L fun x L1 => EvK X F0 b Γ L1 fun y L2 => ∃ d e, Dpd L2 x d ∧ Dpd L2 y e ∧ SeqAt.shaped d = true ∧ SeqAt.shaped e = true ∧ k (.bl (PyData.eqv d e)) L2) : RdK X F0 (tOp (rEqD X.K) (wpE X a) (wpE X b)) Γ L k := fun F σ H Q E q =>
  h F σ H _ E fun x L1 F1 v H1 h1 E1 s1 r1 => h1 F1 σ H1 _ E1 fun y L2 F2 u H2 ⟨d, e, d1, d2, z1, z2, h2⟩ E2 s2 r2 =>
    ⟨d, e, d1.dp E2.led (r1.mono s2), d2.dp E2.led r2, z1, z2, q _ L2 F2 _ H2 h2 E2 (s1.trans s2) .bl⟩
theorem ek_eqD (hu : X.A.units + 64 < cLine) (h : EvK X F0 a Γ L fun x L1 => EvK X F0 b Γ L1 fun y L2 => ∃ d e, Dpd L2 x d ∧ Dpd L2 y e ∧ SeqAt.shaped d = true ∧ SeqAt.shaped e = true ∧ k (.bl (PyData.eqv d e)) L2) (hm : behindInMarks .Eq b = false := by rfl) : EvK X F0 (.Compare a [.Eq] [b] pos) Γ L k := (rd_eqD hu h).ev (pe_cmpR (op_eqD hu) we we hm)
theorem et_eqD (hu : X.A.units + 64 < cLine) (h : EvK X F0 a Γ L fun x L1 => EvK X F0 b Γ L1 fun y L2 => ∃ d e, Dpd L2 x d ∧ Dpd L2 y e ∧ SeqAt.shaped d = true ∧ SeqAt.shaped e = true ∧ kt ((PyData.eqv d e)) L2) (hm : behindInMarks .Eq b = false := by rfl) : EtK X F0 (.Compare a [.Eq] [b] pos) Γ L kt := (rd_eqD hu (k := fun d L' => ∃ b, d = .bl b ∧ kt b L') (by
  exact fun F σ H Q E q => h F σ H Q E fun x L1 F1 v H1 h1 E1 s1 r1 => q x L1 F1 v H1 (fun F σ H Q E q => h1 F σ H Q E fun y L2 F2 u H2 ⟨d, e, a1, a2, a3, a4, h2⟩ E2 s2 r2 => q y L2 F2 u H2 ⟨d, e, a1, a2, a3, a4, _, rfl, h2⟩ E2 s2 r2) E1 s1 r1)).tst (pt_cmpR (op_eqD hu) we we hm)

theorem rd_neD (hu : X.A.units + 64 < cLine) (h : EvK X F0 a Γ L fun x L1 => EvK X F0 b Γ L1 fun y L2 => ∃ d e, Dpd L2 x d ∧ Dpd L2 y e ∧ SeqAt.shaped d = true ∧ SeqAt.shaped e = true ∧ k (.bl (!PyData.eqv d e)) L2) : RdK X F0 (tOp (rNeD X.K) (wpE X a) (wpE X b)) Γ L k := fun F σ H Q E q =>
  h F σ H _ E fun x L1 F1 v H1 h1 E1 s1 r1 => h1 F1 σ H1 _ E1 fun y L2 F2 u H2 ⟨d, e, d1, d2, z1, z2, h2⟩ E2 s2 r2 =>
    ⟨d, e, d1.dp E2.led (r1.mono s2), d2.dp E2.led r2, z1, z2, q _ L2 F2 _ H2 h2 E2 (s1.trans s2) .bl⟩
theorem ek_neD (hu : X.A.units + 64 < cLine) (h : EvK X F0 a Γ L fun x L1 => EvK X F0 b Γ L1 fun y L2 => ∃ d e, Dpd L2 x d ∧ Dpd L2 y e ∧ SeqAt.shaped d = true ∧ SeqAt.shaped e = true ∧ k (.bl (!PyData.eqv d e)) L2) (hm : behindInMarks .NotEq b = false := by rfl) : EvK X F0 (.Compare a [.NotEq] [b] pos) Γ L k := (rd_neD hu h).ev (pe_cmpR (op_neD hu) we we hm)
theorem et_neD (hu : X.A.units + 64 < cLine) (h : EvK X F0 a Γ L fun x L1 => EvK X F0 b Γ L1 fun y L2 => ∃ d e, Dpd L2 x d ∧ Dpd L2 y e ∧ SeqAt.shaped d = true ∧ SeqAt.shaped e = true ∧ kt ((!PyData.eqv d e)) L2) (hm : behindInMarks .NotEq b = false := by rfl) : EtK X F0 (.Compare a [.NotEq] [b] pos) Γ L kt := (rd_neD hu (k := fun d L' => ∃ b, d = .bl b ∧ kt b L') (by
  exact fun F σ H Q E q => h F σ H Q E fun x L1 F1 v H1 h1 E1 s1 r1 => q x L1 F1 v H1 (fun F σ H Q E q => h1 F σ H Q E fun y L2 F2 u H2 ⟨d, e, a1, a2, a3, a4, h2⟩ E2 s2 r2 => q y L2 F2 u H2 ⟨d, e, a1, a2, a3, a4, _, rfl, h2⟩ E2 s2 r2) E1 s1 r1)).tst (pt_cmpR (op_neD hu) we we hm)

/-! built-in functions -/
theorem reps1 {K : PySem.W.Frag} {F : Hp} {d : D} {vs : List V} (r : Reps K F [d] vs) : ∃ v, vs = [v] ∧ Rep K F d v := by
  cases r with
  | cons r t => cases t; exact ⟨_, rfl, r⟩
theorem reps2 {K : PySem.W.Frag} {F : Hp} {d d' : D} {vs : List V} (r : Reps K F [d, d'] vs) : ∃ v v', vs = [v, v'] ∧ Rep K F d v ∧ Rep K F d' v' := by
  cases r with
  | cons r t =>
    obtain ⟨v, rfl, r2⟩ := reps1 t
    exact ⟨_, _, rfl, r, r2⟩
theorem ek_len {p : Pos} (hm : X.mg "len" = none) (hg : Gl X "len") (h : EvK X F0 e Γ L fun x L1 => ∃ ds, (AsL L1 x ds ∨ x = .tup ds) ∧ k (.int (ds.length : Int)) L1)
    (he : starEach [e] X.env = (false, eval e X.env) :: starEach [] X.env := by rfl) : EvK X F0 (.Call (.Name "len" p) [e] [] pos) Γ L k :=
  ek_cb call_len_seq hm boot_len (P := fun ds L1 kk => ∃ d es, ds = [d] ∧ (AsL L1 d es ∨ d = .tup es) ∧ kk (.int (es.length : Int)))
    (fun F L' σ H ds vs kk Q E r ⟨d, es, e1, e2, hk⟩ q => by
      subst e1
      obtain ⟨v, rfl, r1⟩ := reps1 r
      rcases e2 with e2 | e2
      · obtain ⟨p, xs, rfl, hx, rx⟩ := e2.read E.led r1
        refine ⟨p, xs, rfl, .inl hx, ?_⟩
        rw [← rx.length]
        exact q _ F _ H hk E (Same.refl F) .int
      · subst e2
        cases r1 with
        | tup hx rx =>
          refine ⟨_, _, rfl, .inr (seqT E.led.sub hx), ?_⟩
          rw [← rx.length]
          exact q _ F _ H hk E (Same.refl F) .int)
    (ea_cons (fun F σ H Q E q => h F σ H Q E fun d L' F' v H' ⟨ds, h1, h2⟩ E' s r => q d L' F' v H' (ea_nil ⟨d, ds, rfl, h1, h2⟩) E' s r) he) hg (he := he)
theorem ek_lenS {p : Pos} (hm : X.mg "len" = none) (hg : Gl X "len") (h : EvK X F0 e Γ L fun x L1 => ∃ z, x = .str z ∧ z.length ≤ sizeLine ∧ k (.int (z.length : Int)) L1)
    (he : starEach [e] X.env = (false, eval e X.env) :: starEach [] X.env := by rfl) : EvK X F0 (.Call (.Name "len" p) [e] [] pos) Γ L k :=
  ek_cb call_len_str hm boot_len (P := fun ds L1 kk => ∃ z, ds = [.str z] ∧ z.length ≤ sizeLine ∧ kk (.int (z.length : Int)))
    (fun F L' σ H ds vs kk Q E r ⟨z, e1, hz, hk⟩ q => by
      subst e1
      obtain ⟨v, rfl, r1⟩ := reps1 r
      cases r1
      exact ⟨z, rfl, hz, q _ F _ H hk E (Same.refl F) .int⟩)
    (ea_cons (fun F σ H Q E q => h F σ H Q E fun d L' F' v H' ⟨z, h1, hz, h2⟩ E' s r => q d L' F' v H' (ea_nil ⟨z, by rw [h1], hz, h2⟩) E' s r) he) hg (he := he)
theorem ek_abs {p : Pos} (hm : X.mg "abs" = none) (hg : Gl X "abs") (h : EvK X F0 e Γ L fun x L1 => ∃ i, x = .int i ∧ k (.int (if i < 0 then -i else i)) L1)
    (he : starEach [e] X.env = (false, eval e X.env) :: starEach [] X.env := by rfl) : EvK X F0 (.Call (.Name "abs" p) [e] [] pos) Γ L k :=
  ek_cb call_abs hm boot_abs (P := fun ds L1 kk => ∃ i, ds = [.int i] ∧ kk (.int (if i < 0 then -i else i)))
    (fun F L' σ H ds vs kk Q E r ⟨z, e1, hk⟩ q => by
      subst e1
      obtain ⟨v, rfl, r1⟩ := reps1 r
      cases r1
      exact ⟨z, rfl, q _ F _ H hk E (Same.refl F) .int⟩)
    (ea_cons (fun F σ H Q E q => h F σ H Q E fun d L' F' v H' ⟨z, h1, h2⟩ E' s r => q d L' F' v H' (ea_nil ⟨z, by rw [h1], h2⟩) E' s r) he) hg (he := he)
theorem ek_sum {p : Pos} (hc : X.calm = true) (hm : X.mg "sum" = none) (hg : Gl X "sum") (h : EvK X F0 e Γ L fun x L1 => ∃ ns : List Int, AsL L1 x (dI ns) ∧ k (.int ns.sum) L1)
    (he : starEach [e] X.env = (false, eval e X.env) :: starEach [] X.env := by rfl) : EvK X F0 (.Call (.Name "sum" p) [e] [] pos) Γ L k :=
  ek_cb (cr_sum hc) hm (by decide +kernel) (P := fun ds L1 kk => ∃ d ns, ds = [d] ∧ AsL L1 d (dI ns) ∧ kk (.int ns.sum))
    (fun F L' σ H ds vs kk Q E r ⟨d, ns, e1, e2, hk⟩ q => by
      subst e1
      obtain ⟨v, rfl, r1⟩ := reps1 r
      obtain ⟨p, xs, rfl, hx, rx⟩ := e2.read E.led r1
      have e3 := il_reps rx
      subst e3
      exact ⟨p, ns, rfl, hx, q _ F _ H hk E (Same.refl F) .int⟩)
    (ea_cons (fun F σ H Q E q => h F σ H Q E fun d L' F' v H' ⟨ns, h1, h2⟩ E' s r => q d L' F' v H' (ea_nil ⟨d, ns, rfl, h1, h2⟩) E' s r) he) hg (he := he)
theorem ek_list {p : Pos} (hm : X.mg "list" = none) (hg : Gl X "list") (h : EvK X F0 e Γ L fun x L1 => ∃ ds, (AsL L1 x ds ∨ x = .tup ds) ∧ k (.lst ds) L1)
    (he : starEach [e] X.env = (false, eval e X.env) :: starEach [] X.env := by rfl) : EvK X F0 (.Call (.Name "list" p) [e] [] pos) Γ L k :=
  ek_ct call_list_of hm boot_list (P := fun ds L1 kk => ∃ d es, ds = [d] ∧ (AsL L1 d es ∨ d = .tup es) ∧ kk (.lst es))
    (fun F L' σ H ds vs kk Q E r ⟨d, es, e1, e2, hk⟩ q => by
      subst e1
      obtain ⟨v, rfl, r1⟩ := reps1 r
      rcases e2 with e2 | e2
      · obtain ⟨p, xs, rfl, hx, rx⟩ := e2.read E.led r1
        refine ⟨p, xs, rfl, .inl hx, fun n hn => ?_⟩
        have s1 : Same F (upd F n (.lst xs)) := same_new (E.led.free hn)
        exact q _ _ _ _ hk (E.new hn) s1 (.lst (.inl (.inl upd_same)) (rx.mono s1))
      · subst e2
        cases r1 with
        | tup hx rx =>
          rename_i a xs
          refine ⟨_, _, rfl, .inr (seqT E.led.sub hx), fun n hn => ?_⟩
          have s1 : Same F (upd F n (.lst xs)) := same_new (E.led.free hn)
          exact q _ _ _ _ hk (E.new hn) s1 (.lst (.inl (.inl upd_same)) (rx.mono s1)))
    (ea_cons (fun F σ H Q E q => h F σ H Q E fun d L' F' v H' ⟨ds, h1, h2⟩ E' s r => q d L' F' v H' (ea_nil ⟨d, ds, rfl, h1, h2⟩) E' s r) he) hg (he := he)
end
end Vs

set_option Elab.async false
set_option linter.all false
set_option maxRecDepth 100000
set_option maxHeartbeats 4000000
namespace Vs
open PySem PySem.Spec PyProof.Rows L2
/-! ### the ledger's objects changed -/
theorem Get.mem' {α β : Type} {f : α → β} {x : α} {xs : List α} {i : Nat} (g : Get xs i x) : f x ∈ xs.map f := List.mem_map_of_mem g.mem
theorem Put.map_fst {a : Addr} {c c' : C} : ∀ {L L' : Lg} {j : Nat}, Get L j (a, c) → Put L j (a, c') L' → L'.map (·.1) = L.map (·.1)
  | _, _, _, .z, .z => rfl
  | _, _, _, .s g, .s p => by
    rw [List.map_cons, List.map_cons, Put.map_fst g p]
theorem Put.ents {a : Addr} {c c' : C} : ∀ {L L' : Lg} {j : Nat}, (L.map (·.1)).Nodup → Get L j (a, c) → Put L j (a, c') L' → ∀ p ∈ L', p = (a, c') ∨ (p ∈ L ∧ p.1 ≠ a)
  | (_, _) :: xs, _, _, nd, .z, .z => fun p hp => by
    rcases List.mem_cons.mp hp with rfl | hp
    · exact .inl rfl
    · refine .inr ⟨List.mem_cons_of_mem _ hp, fun z => ?_⟩
      rw [List.map_cons] at nd
      have := (List.nodup_cons.mp nd).1
      exact this (z ▸ List.mem_map_of_mem (f := (·.1)) hp)
  | x :: xs, _, _, nd, .s g, .s q => fun p hp => by
    rw [List.map_cons] at nd
    have nd' := List.nodup_cons.mp nd
    rcases List.mem_cons.mp hp with rfl | hp
    · refine .inr ⟨List.mem_cons_self, fun z => ?_⟩
      exact nd'.1 (z ▸ Get.mem' (f := (·.1)) g)
    · rcases Put.ents nd'.2 g q p hp with h | ⟨h, h2⟩
      · exact .inl h
      · exact .inr ⟨List.mem_cons_of_mem _ h, h2⟩
theorem Led.put {K : PySem.W.Frag} {F H : Hp} {L L' : Lg} {j : Nat} {a : Addr} {c c' : C} {o : HO} (l : Led K F L H) (g : Get L j (a, c)) (p : Put L j (a, c') L') (h : CRep K F (upd H a o) a c') : Led K F L' (upd H a o) where
  sub := fun b u e => by
    have ne : b ≠ a := fun z => by
      have := (l.ent _ g.mem).1
      rw [z] at e
      rw [e] at this
      cases this
    rw [upd_ne ne]
    exact l.sub b u e
  nod := by rw [Put.map_fst g p]; exact l.nod
  ent := fun q hq => by
    rcases Put.ents l.nod g p q hq with rfl | ⟨hq, ne⟩
    · exact ⟨(l.ent _ g.mem).1, h⟩
    · obtain ⟨h1, h2⟩ := l.ent q hq
      exact ⟨h1, h2.mono (Same.refl F) (upd_ne ne)⟩
theorem Led.lst {K : PySem.W.Frag} {F H : Hp} {L : Lg} {j : Nat} {a : Addr} {ds : List D} (l : Led K F L H) (g : Get L j (a, C.lst ds)) : ∃ xs, H a = some (.lst xs) ∧ Reps K F ds xs := (l.ent _ g.mem).2
section
variable {X : Cx} {F0 : Hp} {Γ : Gm} {L : Lg} {k : D → Lg → Prop} {ka : List D → Lg → Prop} {kt : Bool → Lg → Prop} {e a b c o : Expr} {es rest : List Expr} {pos p2 apos cpos : Pos}
/-- xs.append(e) -/
theorem ek_app (h : EvK X F0 o Γ L fun x L1 => ∃ p ds1, x = .ref p ∧ AsL L1 x ds1 ∧ EvK X F0 e Γ L1 fun y L2 => ∃ ds j L3, Get L2 j (p, C.lst ds) ∧ Put L2 j (p, C.lst (ds ++ [y])) L3 ∧ ds.length < sizeLine ∧ k .non L3)
    (hbase : attributeBase o "append" X.env (eval o X.env) = eval o X.env := by rfl)
    (hfew : ((backTo cpos (starEach [e] X.env)).all (fun x => !x.1) && (backToKw cpos (keywordEach [] X.env)).all (fun x => x.1.isSome)
      && decide (([e] : List Expr).length + ([] : List Keyword).length + (if ([] : List Keyword).isEmpty then 0 else 1) < 30)) = true := by rfl)
    (hline : (apos.endLine == cpos.line) = true := by rfl) (hs : starEach [e] X.env = (false, eval e X.env) :: starEach [] X.env := by rfl) (hplain : (backTo cpos (starEach [] X.env)).any (·.1) = false := by rfl) :
    EvK X F0 (.Call (.Attribute o "append" apos) [e] [] cpos) Γ L k := fun F σ H Q E q =>
  wpE.of (pe_bm PySem.F.plainAttrs_list PySem.F.slot_list_append PySem.F.type_list_append mt_append we (pa_cons we pa_nil hs) hbase hfew hline hs hplain)
    (h F σ H _ E fun x L1 F1 v H1 ⟨p, ds1, e1, a1, h1⟩ E1 s1 r1 => by
      subst e1
      obtain ⟨p', xs1, ev, hx1, _⟩ := a1.read E1.led r1
      cases r1
      refine ⟨?_, ?_⟩
      · cases ev
        exact .inl ⟨rfl, xs1, hx1⟩
      · refine h1 F1 σ H1 _ E1 fun y L2 F2 u H2 ⟨ds, j, L3, g, pt, hz, h2⟩ E2 s2 r2 => ?_
        obtain ⟨xs, hx, rx⟩ := E2.led.lst g
        refine ⟨p, xs, u, rfl, rfl, hx, by rw [← rx.length]; exact hz, ?_⟩
        exact q _ L3 F2 _ _ h2 (E2.to (Same.refl F2) (E2.led.put g pt ⟨_, upd_same, rx.append (.cons r2 .nil)⟩)) (s1.trans s2) .non)
end
section
variable {X : Cx} {F0 : Hp} {Γ : Gm} {L : Lg} {k : Ks} {e a b c o i tg iter : Expr} {st : Stmt} {rest body orelse : List Stmt} {pos p' : Pos} {N Nc : List Str} {sc : Scope} {Z : Xc → Gm → Lg → Prop}
/-- xs[i] = e, xs of the ledger -/
theorem sk_seti (h : EvK X F0 e Γ L fun y L1 => EvK X F0 o Γ L1 fun x L2 => EvK X F0 i Γ L2 fun z L3 => ∃ p ds n j m L4, x = .ref p ∧ z = .int n ∧ Get L3 m (p, C.lst ds) ∧ ixN ds.length n = some j ∧ Put L3 m (p, C.lst (ds.set j y)) L4 ∧ k.nx Γ L4)
    (ha : ∀ v, assign (.Subscript o i p') X.env v = (do let ov ← holding [v] (eval o X.env); let iv ← holding [v, ov] (eval i X.env); standAt p'; holding [v, ov, iv] (setItem ov iv v); release [v, ov, iv] []) := by intros; rfl)
    (hs : swapsWithSole [.Subscript o i p'] e pos.line X.env = pure false := by rfl) (hw : swappedStores [.Subscript o i p'] e X.env = pure none := by rfl) : SK X F0 (.Assign [.Subscript o i p'] e pos) Γ L k := fun F σ H Dn E q =>
  wpS.of (ps_asg we (pg_sub we we set_list ha) hs hw) (h F σ H _ E fun y L1 F1 v H1 h1 E1 s1 r1 => h1 F1 σ H1 _ E1 fun x L2 F2 u H2 h2 E2 s2 r2 => h2 F2 σ H2 _ E2 fun z L3 F3 w H3 ⟨p, ds, n, j, m, L4, e1, e2, g, hj, pt, h3⟩ E3 s3 r3 => by
    subst e1 e2
    cases r2
    cases r3
    obtain ⟨xs, hx, rx⟩ := E3.led.lst g
    refine ⟨p, xs, n, j, rfl, rfl, hx, by rw [← rx.length]; exact hj, ?_⟩
    exact q.nx _ L4 F3 σ _ h3 (E3.to (Same.refl F3) (E3.led.put g pt ⟨_, upd_same, rx.set (r1.mono (s2.trans s3)) j⟩)))
/-! ### for -/
/-- the walk J gives the data ds, whatever is done meanwhile to what may change -/
structure ItD (K : PySem.W.Frag) (ds : List D) (F : Hp) (J : It) : Prop where
  go : ∀ i H F' L', i < ds.length → Same F F' → Led K F' L' H → J.go i H
  yld : ∀ i H x H' F' L', Same F F' → Led K F' L' H → J.yld i H x H' → i < ds.length → ∃ d F'', ds[i]? = some d ∧ Same F' F'' ∧ Led K F'' L' H' ∧ Rep K F'' d x
  stop : ∀ i H F' L', ds.length ≤ i → Same F F' → Led K F' L' H → J.stop i H
structure wpI (X : Cx) (tg iter : Expr) (σ : L2.St) (H : Hp) (R : It → Hp → Prop) : Prop where
  run : ∀ pins s, Inv X pins σ H s → wpAny (model X.prog X.w) X.A (eval iter X.env) (fun v s1 => wpAny (model X.prog X.w) X.A (pyIter v) (PIE X pins σ tg R) X.xe s1) X.xe s
theorem wi : PI X tg iter (wpI X tg iter) := ⟨fun pins s _ _ _ I h => h.run pins s I⟩
theorem wpI.of {t : TI} {σ : L2.St} {H : Hp} {R : It → Hp → Prop} (p : PI X tg iter t) (h : t σ H R) : wpI X tg iter σ H R := ⟨fun pins s I => p.run pins s σ H R I h⟩
def EiK (X : Cx) (F0 : Hp) (tg iter : Expr) (Γ : Gm) (L : Lg) (k : List D → Lg → Prop) : Prop := ∀ (F : Hp) (σ : L2.St) (H : Hp) (R : It → Hp → Prop), At X.K F0 F Γ L σ H →
  (∀ ds L' F' H' J, k ds L' → At X.K F0 F' Γ L' σ H' → Same F F' → ItD X.K ds F' J → R J H') → wpI X tg iter σ H R
structure wpG (X : Cx) (tg : Expr) (v : V) (σ : L2.St) (H : Hp) (Q : L2.St → Hp → Prop) : Prop where
  run : ∀ pins s u, Inv X pins σ H s → RelV v u → wpAny (model X.prog X.w) X.A (assign tg X.env u) (fun _ s' => ∃ σ' H', Inv X pins σ' H' s' ∧ Q σ' H') X.xe s
theorem wg : PG X tg (wpG X tg) := ⟨fun pins s _ _ _ u _ I r h => h.run pins s u I r⟩
theorem wpG.of {t : TG} {v : V} {σ : L2.St} {H : Hp} {Q : L2.St → Hp → Prop} (p : PG X tg t) (h : t v σ H Q) : wpG X tg v σ H Q := ⟨fun pins s u I r => p.run pins s σ H v u Q I r h⟩
/-- the target tg is put to d -/
def TgK (X : Cx) (F0 : Hp) (tg : Expr) (d : D) (Γ : Gm) (L : Lg) (k : Gm → Lg → Prop) : Prop := ∀ (F : Hp) (σ : L2.St) (H : Hp) (v : V) (Q : L2.St → Hp → Prop), At X.K F0 F Γ L σ H → Rep X.K F d v →
  (∀ Γ' L' F' σ' H', k Γ' L' → At X.K F0 F' Γ' L' σ' H' → Q σ' H') → wpG X tg v σ H Q
theorem tg_n (c : Cn X N Nc sc) {j : Nat} {x : Str} {d : D} {kg : Gm → Lg → Prop} (h : ∃ Γ', Put Γ j (some d) Γ' ∧ kg Γ' L) (hj : N[j]? = some x := by rfl) : TgK X F0 (.Name x pos) d Γ L kg := fun F σ H v Q E r q => by
  obtain ⟨Γ', p, hk⟩ := h
  exact wpG.of (pg_name (i := j) (by rw [c.n]; exact c.nd) (by rw [c.n]; exact get_app hj) (by rw [c.scp]; exact c.loc x (List.mem_of_getElem? hj)) (.inl (c.fn x))) (q Γ' L F _ H hk ⟨E.ge, E.led, E.sl.put r p⟩)
/-- (a, b, ..) = d, d a tuple -/
def TgsK (X : Cx) (F0 : Hp) (ts : List Expr) (ds : List D) (Γ : Gm) (L : Lg) (k : Gm → Lg → Prop) : Prop := match ts, ds with
  | [], [] => k Γ L
  | t :: ts, d :: ds => TgK X F0 t d Γ L fun Γ' L' => TgsK X F0 ts ds Γ' L' k
  | _, _ => False
/-- for tg in iter: body -/
theorem At.base {K : PySem.W.Frag} {F0 F1 F H : Hp} {Γ : Gm} {L : Lg} {σ : L2.St} (E : At K F0 F Γ L σ H) (s : Same F1 F) : At K F1 F Γ L σ H := ⟨s, E.led, E.sl⟩
theorem At.low {K : PySem.W.Frag} {F0 F1 F H : Hp} {Γ : Gm} {L : Lg} {σ : L2.St} (E : At K F1 F Γ L σ H) (s : Same F0 F1) : At K F0 F Γ L σ H := ⟨s.trans E.ge, E.led, E.sl⟩
theorem Cf.up {F1 : Hp} (c : Cf X N Nc sc F0 Z) (s : Same F0 F1) : Cf X N Nc sc F1 Z :=
  ⟨c.toCn, c.calm, c.own, c.tk.imp fun cls od σ H ⟨x, Γ, L, F, e, z, E, r⟩ => ⟨x, Γ, L, F, e, z, E.low s, r⟩, c.stk, c.fr⟩
theorem Ek.up {F1 : Hp} {Dn : Ends} (q : Ek X F0 Dn k) (s : Same F0 F1) : Ek X F1 Dn k :=
  ⟨fun Γ L F σ H h E => q.nx Γ L F σ H h (E.low s), fun d L F v H h s' l r => q.rt d L F v H h (s.trans s') l r, fun Γ L F σ H h E => q.bk Γ L F σ H h (E.low s), fun Γ L F σ H h E => q.ct Γ L F σ H h (E.low s)⟩
theorem sk_for (cf : Cf X N Nc sc F0 Z) (h : EiK X F0 tg iter Γ L fun ds L1 => ∃ Pv : Nat → Gm → Lg → Prop, Pv 0 Γ L1 ∧
      (∀ F1, Cf X N Nc sc F1 Z → ∀ i d Γ' L', ds[i]? = some d → Pv i Γ' L' → TgK X F1 tg d Γ' L' fun Γ2 L2 => BK X F1 body Γ2 L2 { k with nx := Pv (i + 1), ct := Pv (i + 1), bk := k.nx }) ∧ (∀ Γ' L', Pv ds.length Γ' L' → k.nx Γ' L'))
    (hs : ∀ x, foldedSetIterable iter X.env x = pure x := by intro _; rfl) : SK X F0 (.For tg iter body [] pos) Γ L k := fun F σ H Dn E q =>
  wpS.of (ps_for cf.own cf.calm wi wg wb hs) (h F σ H _ E fun ds L1 F1 H1 J ⟨Pv, h0, hb, hd⟩ E1 s1 it => by
    refine ⟨fun i m σ H => ∃ F Γ L, i + m = ds.length ∧ Same F1 F ∧ Pv i Γ L ∧ At X.K F0 F Γ L σ H, ⟨ds.length, F1, Γ, L1, by omega, Same.refl F1, h0, E1⟩, ?_⟩
    rintro i m σ2 H2 ⟨F2, Γ2, L2, hm, s2, hP, E2⟩
    by_cases hi : i < ds.length
    · refine .inr ⟨it.go i H2 F2 L2 hi s2 E2.led, fun σ' H' => ∃ F Γ L, Same F1 F ∧ Pv (i + 1) Γ L ∧ At X.K F0 F Γ L σ' H', fun σ' H' ⟨F3, Γ3, L3, a, b, c⟩ => ⟨m - 1, by omega, F3, Γ3, L3, by omega, a, b, c⟩, fun x H' hy => ?_⟩
      obtain ⟨d, F3, hdi, s3, l3, r3⟩ := it.yld i H2 x H' F2 L2 s2 E2.led hy hi
      refine hb F1 (cf.up E1.ge) i d Γ2 L2 hdi hP F3 σ2 H' x _ ((E2.to s3 l3).base (s2.trans s3)) r3 fun Γ4 L4 F4 σ4 H4 h4 E4 => ?_
      have q' := q.up (F1 := F1) E1.ge
      exact h4 F4 σ4 H4 _ E4 ⟨fun Γ L F σ H h E => ⟨F, Γ, L, E.ge, h, E.low E1.ge⟩, q'.rt, q'.nx, fun Γ L F σ H h E => ⟨F, Γ, L, E.ge, h, E.low E1.ge⟩⟩
    · have e : i = ds.length := by omega
      subst e
      exact .inl ⟨it.stop _ H2 F2 L2 (Nat.le_refl _) s2 E2.led, q.nx Γ2 L2 F2 σ2 H2 (hd Γ2 L2 hP) E2⟩)
/-! what is walked -/
variable {kl : List D → Lg → Prop}
theorem ei_list (h : EvK X F0 a Γ L fun x L1 => ∃ ds, x = .lst ds ∧ kl ds L1) : EiK X F0 tg a Γ L kl := fun F σ H R E q =>
  wpI.of (pi_list we) (h F σ H _ E fun x L1 F1 v H1 ⟨ds, e1, h1⟩ E1 s1 r1 => by
    subst e1
    cases r1 with
    | lst hx rx =>
      rename_i p xs
      refine ⟨p, rfl, ⟨xs, E1.led.sub.seq hx⟩, q ds L1 F1 H1 _ h1 E1 s1 ⟨?_, ?_, ?_⟩⟩
      · intro i H F' L' hi s l
        have hi' : i < xs.length := by rw [← rx.length]; exact hi
        exact ⟨xs, xs[i], l.sub.seq (s.seq hx), List.getElem?_eq_getElem hi'⟩
      · rintro i H x H' F' L' s l ⟨rfl, hy⟩ hi
        have hx' := hy xs (l.sub.seq (s.seq hx))
        obtain ⟨d, hd, rd⟩ := rx.got hx'
        exact ⟨d, F', hd, Same.refl F', l, rd.mono s⟩
      · intro i H F' L' hi s l
        exact ⟨xs, l.sub.seq (s.seq hx), by rw [← rx.length]; exact hi⟩)
theorem ei_tup (h : EvK X F0 a Γ L fun x L1 => ∃ ds, x = .tup ds ∧ kl ds L1) : EiK X F0 tg a Γ L kl := fun F σ H R E q =>
  wpI.of (pi_tup we) (h F σ H _ E fun x L1 F1 v H1 ⟨ds, e1, h1⟩ E1 s1 r1 => by
    subst e1
    cases r1 with
    | tup hx rx =>
      rename_i p xs
      refine ⟨p, rfl, ⟨xs, seqT E1.led.sub hx⟩, q ds L1 F1 H1 _ h1 E1 s1 ⟨?_, ?_, ?_⟩⟩
      · intro i H F' L' hi s l
        have hi' : i < xs.length := by rw [← rx.length]; exact hi
        exact ⟨xs, xs[i], seqT l.sub (seqT s hx), List.getElem?_eq_getElem hi'⟩
      · rintro i H x H' F' L' s l ⟨rfl, hy⟩ hi
        have hx' := hy xs (seqT l.sub (seqT s hx))
        obtain ⟨d, hd, rd⟩ := rx.got hx'
        exact ⟨d, F', hd, Same.refl F', l, rd.mono s⟩
      · intro i H F' L' hi s l
        exact ⟨xs, seqT l.sub (seqT s hx), by rw [← rx.length]; exact hi⟩)
def rangeD (lo : Int) (n : Nat) : List D := (List.range n).map fun (i : Nat) => D.int (lo + (i : Int))
theorem rangeD_get {lo : Int} {n i : Nat} (h : i < n) : (rangeD lo n)[i]? = some (.int (lo + (i : Int))) := by
  unfold rangeD
  rw [List.getElem?_map, List.getElem?_range h]
  rfl
theorem rangeD_len {lo : Int} {n : Nat} : (rangeD lo n).length = n := by unfold rangeD; rw [List.length_map, List.length_range]
theorem itr_ok {K : PySem.W.Frag} {F : Hp} {lo : Int} {n : Nat} : ItD K (rangeD lo n) F (Itr lo n) := by
  refine ⟨?_, ?_, ?_⟩
  · intro i H F' L' hi _ _
    rw [rangeD_len] at hi
    exact hi
  · rintro i H x H' F' L' _ l ⟨rfl, rfl⟩ hi
    rw [rangeD_len] at hi
    exact ⟨_, F', rangeD_get hi, Same.refl F', l, .int⟩
  · intro i H F' L' hi _ _
    rw [rangeD_len] at hi
    exact hi
theorem ei_range1 {p : Pos} (hm : X.mg "range" = none) (hg : Gl X "range") (h : EvK X F0 a Γ L fun x L1 => ∃ j : Int, x = .int j ∧ (-(2 ^ 62) ≤ j ∧ j < 2 ^ 62) ∧ kl (rangeD 0 j.toNat) L1)
    (hs : starEach [a] X.env = [(false, eval a X.env)] := by rfl) : EiK X F0 tg (.Call (.Name "range" p) [a] [] pos) Γ L kl := fun F σ H R E q =>
  wpI.of (pi_range1 hg hm (pa_cons we pa_nil hs) hs) (h F σ H _ E fun x L1 F1 v H1 ⟨j, e1, hj, h1⟩ E1 s1 r1 => by
    subst e1
    cases r1
    exact ⟨j, rfl, hj.1, hj.2, q _ L1 F1 H1 _ h1 E1 s1 itr_ok⟩)
theorem ei_range2 {p : Pos} (hm : X.mg "range" = none) (hg : Gl X "range") (h : EvK X F0 a Γ L fun x L1 => ∃ i : Int, x = .int i ∧ EvK X F0 b Γ L1 fun y L2 => ∃ j : Int, y = .int j ∧ (-(2 ^ 62) ≤ i ∧ i < 2 ^ 62 ∧ -(2 ^ 62) ≤ j ∧ j < 2 ^ 62) ∧ kl (rangeD i (j - i).toNat) L2)
    (hs : starEach [a, b] X.env = [(false, eval a X.env), (false, eval b X.env)] := by rfl) (hs2 : starEach [b] X.env = [(false, eval b X.env)] := by rfl) : EiK X F0 tg (.Call (.Name "range" p) [a, b] [] pos) Γ L kl := fun F σ H R E q =>
  wpI.of (pi_range2 hg hm (pa_cons we (pa_cons we pa_nil hs2) (by rw [hs, hs2])) hs hs2) (h F σ H _ E fun x L1 F1 v H1 ⟨i, e1, h1⟩ E1 s1 r1 => h1 F1 σ H1 _ E1 fun y L2 F2 u H2 ⟨j, e2, hj, h2⟩ E2 s2 r2 => by
    subst e1 e2
    cases r1
    cases r2
    exact ⟨i, j, rfl, hj, q _ L2 F2 H2 _ h2 E2 (s1.trans s2) itr_ok⟩)
end
end Vs

set_option Elab.async false
set_option linter.all false
set_option maxRecDepth 100000
set_option maxHeartbeats 4000000
namespace Vs
open PySem PySem.Spec PyProof.Rows L2
/-! ### comprehensions -/
def wpPs (X : Cx) (ifs : List Expr) : TT := fun σ H Q => ∀ pins s, Inv X pins σ H s →
    wpAny (model X.prog X.w) X.A (forIn ifs true fun c r => if r = true then do let ok ← isTrue c X.env (eval c X.env); pure (ForInStep.yield ok) else pure (ForInStep.yield r)) (TP X pins σ Q) X.xe s
def EsK (X : Cx) (F0 : Hp) (ifs : List Expr) (Γ : Gm) (L : Lg) (k : Bool → Lg → Prop) : Prop := ∀ (F : Hp) (σ : L2.St) (H : Hp) (Q : Bool → Hp → Prop), At X.K F0 F Γ L σ H →
  (∀ (b : Bool) (L' : Lg) (F' : Hp) (H' : Hp), k b L' → At X.K F0 F' Γ L' σ H' → Same F F' → Q b H') → wpPs X ifs σ H Q
section
variable {X : Cx} {F0 : Hp} {Γ : Gm} {L : Lg} {k : D → Lg → Prop} {ka : List D → Lg → Prop} {kt : Bool → Lg → Prop} {e a b c o : Expr} {es rest : List Expr} {pos p2 apos cpos : Pos} {N Nc : List Str} {sc : Scope} {Z : Xc → Gm → Lg → Prop}
theorem wps {ifs : List Expr} : PTs X ifs (wpPs X ifs) := ⟨fun pins s _ _ _ I h => h pins s I⟩
theorem es_nil (h : kt true L) : EsK X F0 [] Γ L kt := fun F σ H Q E q => fun pins s I => pts_nil.run pins s σ H Q I (q true L F H h E (Same.refl F))
theorem es_one (h : EtK X F0 a Γ L kt) : EsK X F0 [a] Γ L kt := fun F σ H Q E q => fun pins s I => (pts_one wt).run pins s σ H Q I (h F σ H Q E q)
/-- the names of a comprehension's block -/
structure Cb (X : Cx) (N : List Str) (sc bs : Scope) : Prop where
  n : X.N = N
  nd : N.Nodup
  vis : ∀ x, (bs.names.lookup x = some .local ∨ bs.names.lookup x = some .cell ∨ bs.names.lookup x = some .free) → Vis X.env.scope x
  own : ∀ x, bs.names.lookup x = some .local → X.env.scope.names.lookup x = some .local
  cel : ∀ x, bs.names.lookup x = some .cell → X.env.scope.names.lookup x = some .cell ∧ X.fn x = true
  glo : ∀ x, bs.names.lookup x = some .globalImplicit → Gl X x
  calm : X.calm = true
  rel : ∃ env : Env, X.env.scope = relabel bs env
theorem relabel_free {env : Env} : ∀ {names : List (Str × NameKind)} {x : Str} {q : NameKind}, names.lookup x = some q →
    (names.map fun (n, k) => if (k == NameKind.free && env.scope.kind == .function && env.kindOf n == some .cell) then (n, NameKind.cell) else (n, k)).lookup x = some q ∨
    (q = .free ∧ (names.map fun (n, k) => if (k == NameKind.free && env.scope.kind == .function && env.kindOf n == some .cell) then (n, NameKind.cell) else (n, k)).lookup x = some .cell)
  | [], x, q, h => by simp at h
  | (n, kk) :: r, x, q, h => by
    rw [List.lookup_cons] at h
    rw [List.map_cons]
    by_cases hx : x == n
    · rw [hx] at h
      have h' : kk = q := Option.some.inj h
      subst h'
      dsimp only
      split
      · rename_i hc
        refine .inr ⟨?_, ?_⟩
        · simp only [Bool.and_eq_true, beq_iff_eq] at hc
          exact hc.1.1
        · rw [List.lookup_cons, hx]
      · refine .inl ?_
        rw [List.lookup_cons, hx]
    · have hx' : (x == n) = false := by simpa using hx
      rw [hx'] at h
      have ih := relabel_free (env := env) (names := r) (x := x) (q := q) h
      have key : ∀ (t : List (Str × NameKind)) (y : Str × NameKind), y.1 = n → (y :: t).lookup x = t.lookup x := fun t y hy => by
        obtain ⟨y1, y2⟩ := y
        rw [List.lookup_cons]
        dsimp only at hy
        rw [hy, hx']
      rw [key _ _ (by dsimp only; split <;> rfl)]
      exact ih
theorem blk_okM {M : List Str} {sc' : Scope} {s : Shared} {H : Hp} {C : Addr} {cl : List (Str × Addr)} {fp : List Addr} {bs : Scope} (hn : X.N = M) (nd : M.Nodup) (hc : X.calm = true) : Cb (X.blk s H bs (compEnvC bs cl C X.env) fp) M sc' bs where
  n := hn
  nd := nd
  vis := fun x h => by
    show Vis (relabel bs X.env) x
    unfold Vis
    rcases h with h | h | h
    · rcases relabel_free (env := X.env) h with h2 | ⟨h2, _⟩
      · exact .inl h2
      · cases h2
    · rcases relabel_free (env := X.env) h with h2 | ⟨h2, _⟩
      · exact .inr (.inl h2)
      · cases h2
    · rcases relabel_free (env := X.env) h with h2 | ⟨_, h2⟩
      · exact .inr (.inr h2)
      · exact .inr (.inl h2)
  own := fun x h => by
    rcases relabel_free (env := X.env) h with h2 | ⟨h2, _⟩
    · exact h2
    · cases h2
  cel := fun x h => by
    rcases relabel_free (env := X.env) h with h2 | ⟨h2, _⟩
    · exact ⟨h2, by show (bs.names.lookup x == some .cell) = true; rw [h]; rfl⟩
    · cases h2
  glo := fun x h => by
    rcases relabel_free (env := X.env) h with h2 | ⟨h2, _⟩
    · exact h2
    · cases h2
  calm := hc
  rel := ⟨X.env, rfl⟩
theorem relabel_lk {env : Env} {bs : Scope} {x : Str} (h : bs.names.lookup x = some .cell ∨ bs.names.lookup x = some .free) : (relabel bs env).names.lookup x = some .cell ∨ (relabel bs env).names.lookup x = some .free := by
  rcases h with h | h
  · rcases relabel_free (env := env) h with h2 | ⟨h2, _⟩
    · exact .inl h2
    · cases h2
  · rcases relabel_free (env := env) h with h2 | ⟨_, h2⟩
    · exact .inr h2
    · exact .inl h2
theorem blk_rel {M : List Str} {env : Env} {bs0 bs : Scope} {own : List (Str × Nat)} (h : BlkOk M bs0 bs own) : BlkOk M (relabel bs0 env) bs own :=
  ⟨h.kind, h.uniq, h.ix, fun y hy e => relabel_lk (h.free y hy e), h.own⟩
/-- a name read in a block -/
theorem ek_b {bs : Scope} (c : Cb X N sc bs) {i : Nat} {x : Str} {d : D} (g : Get Γ i (some d)) (h : k d L) (hi : N[i]? = some x := by rfl) (hv : bs.names.lookup x = some .local ∨ bs.names.lookup x = some .cell ∨ bs.names.lookup x = some .free := by first | exact .inl rfl | exact .inr (.inr rfl) | exact .inr (.inl rfl))
    (hd : (x == ("__debug__" : Str)) = false := by decide) (hcd : (x == ("__classdict__" : Str)) = false := by decide) : EvK X F0 (.Name x pos) Γ L k :=
  ek_v (pe_var (by rw [c.n]; exact hi) (c.vis x hv) hd hcd) g h
/-- the block's own places forgotten -/
def wipeG (Γ : Gm) : List Nat → Gm
  | [] => Γ
  | v :: vs => (wipeG Γ vs).set v none
theorem Slots.wset {K : PySem.W.Frag} {F : Hp} {x : Option V} : ∀ {Γ : Gm} {σ : L2.St} {i : Nat}, Slots K F Γ σ → Slots K F (Γ.set i none) (σ.set i x)
  | _, _, _, .nil => .nil
  | _, _, 0, .so _ t => .no t
  | _, _, 0, .no t => .no t
  | _, _, i + 1, .so r t => .so r (Slots.wset t)
  | _, _, i + 1, .no t => .no (Slots.wset t)
theorem Slots.wipe {K : PySem.W.Frag} {F : Hp} {Γ : Gm} {σ : L2.St} (h : Slots K F Γ σ) : ∀ vs : List Nat, Slots K F (wipeG Γ vs) (wipe σ vs)
  | [] => h
  | v :: vs => (Slots.wipe h vs).wset
theorem Led.last {K : PySem.W.Frag} {F H : Hp} {L : Lg} {q : Addr} {ds : List D} {xs : List V} (e : Led K F L H) (h : H q = none) (r : Reps K F ds xs) : Led K F (L ++ [(q, .lst ds)]) (upd H q (.lst xs)) := by
  have l := e.newL h r
  refine ⟨l.sub, ?_, fun p hp => l.ent p ?_⟩
  · have nd := l.nod
    rw [List.map_cons] at nd
    rw [List.map_append]
    obtain ⟨n1, n2⟩ := List.nodup_cons.mp nd
    refine List.nodup_append.mpr ⟨n2, by simp, fun a ha b hb z => ?_⟩
    have hb' : b = q := by simpa using hb
    subst z
    rw [hb'] at ha
    exact n1 ha
  · rcases List.mem_append.mp hp with h | h
    · exact List.mem_cons_of_mem _ h
    · have : p = (q, .lst ds) := by simpa using h
      rw [this]
      exact List.mem_cons_self
theorem get_last {α : Type} {x : α} : ∀ (xs : List α), Get (xs ++ [x]) xs.length x
  | [] => .z
  | _ :: xs => .s (get_last xs)
theorem put_last {α : Type} {x y : α} : ∀ (xs : List α), Put (xs ++ [x]) xs.length y (xs ++ [y])
  | [] => .z
  | _ :: xs => .s (put_last xs)
theorem Led.unlast {K : PySem.W.Frag} {F H : Hp} {L : Lg} {q : Addr} {ds : List D} (e : Led K F (L ++ [(q, .lst ds)]) H) : ∃ xs, H q = some (.lst xs) ∧ Led K (upd F q (.lst xs)) L H ∧ Same F (upd F q (.lst xs)) ∧ Reps K F ds xs := by
  have g := get_last (x := (q, C.lst ds)) L
  obtain ⟨xs, h1, h2⟩ := e.lst g
  have fq : F q = none := (e.ent _ g.mem).1
  have s1 : Same F (upd F q (.lst xs)) := same_new fq
  refine ⟨xs, h1, ⟨fun b u z => ?_, ?_, fun p hp => ?_⟩, s1, h2⟩
  · by_cases hb : b = q
    · subst hb; rw [upd_same] at z; rw [h1]; exact z
    · rw [upd_ne hb] at z; exact e.sub b u z
  · have nd := e.nod
    rw [List.map_append] at nd
    exact (List.nodup_append.mp nd).1
  · obtain ⟨a1, a2⟩ := e.ent p (List.mem_append_left _ hp)
    have ne : p.1 ≠ q := fun z => by
      have nd := e.nod
      rw [List.map_append] at nd
      exact (List.nodup_append.mp nd).2.2 p.1 (List.mem_map_of_mem hp) q (by simp) z
    exact ⟨(upd_ne ne).trans a1, a2.mono s1 rfl⟩

theorem wipe_in {σ : L2.St} {i : Nat} : ∀ {vs : List Nat}, i ∈ vs → (wipe σ vs)[i]? = if i < σ.length then some none else none
  | [], h => by cases h
  | v :: vs, h => by
    show ((wipe σ vs).set v none)[i]? = _
    rw [List.getElem?_set]
    by_cases hv : v = i
    · rw [if_pos hv, hv, wipe_length]
    · rw [if_neg hv]
      rcases List.mem_cons.mp h with h | h
      · exact absurd h.symm hv
      · exact wipe_in h
theorem wipe_set {σ : L2.St} {j : Nat} {x : Option V} {vs : List Nat} (h : j ∈ vs) : wipe (σ.set j x) vs = wipe σ vs := by
  refine List.ext_getElem? fun i => ?_
  by_cases hi : i ∈ vs
  · rw [wipe_in hi, wipe_in hi, List.length_set]
  · rw [wipe_out hi, wipe_out hi, List.getElem?_set, if_neg (fun (z : j = i) => hi (z ▸ h))]
/-- a block's target: only the places vs are put -/
def TbK (X : Cx) (F0 : Hp) (tg : Expr) (vs : List Nat) (d : D) (Γ : Gm) (L : Lg) (k : Gm → Lg → Prop) : Prop := ∀ (F : Hp) (σ : L2.St) (H : Hp) (v : V) (Q : L2.St → Hp → Prop), At X.K F0 F Γ L σ H → Rep X.K F d v →
  (∀ Γ' L' F' σ' H', k Γ' L' → At X.K F0 F' Γ' L' σ' H' → Same F F' → wipe σ' vs = wipe σ vs → Q σ' H') → wpG X tg v σ H Q
theorem tb_n {bs : Scope} (c : Cb X N sc bs) {j : Nat} {x : Str} {d : D} {vs : List Nat} {kg : Gm → Lg → Prop} (h : ∃ Γ', Put Γ j (some d) Γ' ∧ kg Γ' L) (hj : N[j]? = some x := by rfl) (hv : bs.names.lookup x = some .local ∨ bs.names.lookup x = some .cell := by first | exact .inl rfl | exact .inr rfl) (hm : j ∈ vs := by decide) : TbK X F0 (.Name x pos) vs d Γ L kg := fun F σ H v Q E r q => by
  obtain ⟨Γ', p, hk⟩ := h
  have hl : Loc X.env.scope x ∧ (X.fn x = true ∨ X.env.scope.names.lookup x = some .local) := by
    rcases hv with z | z
    · exact ⟨.inl (c.own x z), .inr (c.own x z)⟩
    · exact ⟨.inr (c.cel x z).1, .inl (c.cel x z).2⟩
  exact wpG.of (pg_name (i := j) (by rw [c.n]; exact c.nd) (by rw [c.n]; exact hj) hl.1 hl.2) (q Γ' L F _ H hk ⟨E.ge, E.led, E.sl.put r p⟩ (Same.refl F) (wipe_set hm))

theorem Get.app {α : Type} {x : α} {ys : List α} : ∀ {xs : List α} {i : Nat}, Get xs i x → Get (xs ++ ys) i x
  | _, _, .z => .z
  | _, _, .s g => .s g.app
theorem AsL.app {L M : Lg} {x : D} {ds : List D} (h : AsL L x ds) : AsL (L ++ M) x ds := by
  cases h with
  | lst => exact .lst
  | own g => exact .own g.app
/-! what is walked in a comprehension: the ledger stays -/
structure ItP (K : PySem.W.Frag) (L : Lg) (ds : List D) (F : Hp) (J : It) : Prop where
  go : ∀ i H F' L', i < ds.length → Same F F' → Led K F' (L ++ L') H → J.go i H
  yld : ∀ i H x H' F' L', Same F F' → Led K F' (L ++ L') H → J.yld i H x H' → i < ds.length → ∃ d F'', ds[i]? = some d ∧ Same F' F'' ∧ Led K F'' (L ++ L') H' ∧ Rep K F'' d x
  stop : ∀ i H F' L', ds.length ≤ i → Same F F' → Led K F' (L ++ L') H → J.stop i H
def EiP (X : Cx) (F0 : Hp) (tg iter : Expr) (Γ : Gm) (L : Lg) (k : List D → Lg → Prop) : Prop := ∀ (F : Hp) (σ : L2.St) (H : Hp) (R : It → Hp → Prop), At X.K F0 F Γ L σ H →
  (∀ ds L' F' H' J, k ds L' → At X.K F0 F' Γ L' σ H' → Same F F' → ItP X.K L' ds F' J → R J H') → wpI X tg iter σ H R
theorem ei_p {tg iter : Expr} {kl : List D → Lg → Prop} (h : EiK X F0 tg iter Γ L kl) : EiP X F0 tg iter Γ L kl := fun F σ H R E q => h F σ H R E fun ds L' F' H' J hk E' s it =>
  q ds L' F' H' J hk E' s ⟨fun i H F1 L1 hi s l => it.go i H F1 _ hi s l, fun i H x H' F1 L1 s l hy hi => it.yld i H x H' F1 _ s l hy hi, fun i H F1 L1 hi s l => it.stop i H F1 _ hi s l⟩
theorem eip_mono {tg iter : Expr} {kl kl' : List D → Lg → Prop} (h : EiP X F0 tg iter Γ L kl) (hk : ∀ ds L', kl ds L' → kl' ds L') : EiP X F0 tg iter Γ L kl' := fun F σ H R E q => h F σ H R E fun ds L' F' H' J h1 => q ds L' F' H' J (hk ds L' h1)
theorem eip_as {tg : Expr} {kl : List D → Lg → Prop} (h : EvK X F0 a Γ L fun x L1 => ∃ ds, AsL L1 x ds ∧ kl ds L1) : EiP X F0 tg a Γ L kl := fun F σ H R E q =>
  wpI.of (pi_list we) (h F σ H _ E fun x L1 F1 v H1 ⟨ds, as, h1⟩ E1 s1 r1 => by
    obtain ⟨p, xs, rfl, hx, rx⟩ := as.read E1.led r1
    have rd : ∀ {F' : Hp} {L' : Lg} {H' : Hp}, Same F1 F' → Led X.K F' (L1 ++ L') H' → ∃ xs, SqL X.K H' p xs ∧ Reps X.K F' ds xs := fun s l => by
      obtain ⟨p', ys, e, hy, ry⟩ := as.app.read l (r1.mono s)
      cases e
      exact ⟨ys, hy, ry⟩
    refine ⟨p, rfl, ⟨xs, hx⟩, q ds L1 F1 H1 _ h1 E1 s1 ⟨?_, ?_, ?_⟩⟩
    · intro i H F' L' hi s l
      obtain ⟨ys, hy, ry⟩ := rd s l
      have hi' : i < ys.length := by rw [← ry.length]; exact hi
      exact ⟨ys, ys[i], hy, List.getElem?_eq_getElem hi'⟩
    · rintro i H x H' F' L' s l ⟨rfl, hy⟩ hi
      obtain ⟨ys, hy2, ry⟩ := rd s l
      obtain ⟨d, hd, rd'⟩ := ry.got (hy ys hy2)
      exact ⟨d, F', hd, Same.refl F', l, rd'⟩
    · intro i H F' L' hi s l
      obtain ⟨ys, hy, ry⟩ := rd s l
      exact ⟨ys, hy, by rw [← ry.length]; exact hi⟩)
/-- a heap above F0 -/
structure UpH (F0 : Hp) where
  h : Hp
  s : Same F0 h
def gS (X : Cx) (bs : Scope) (tg : Expr) : TG := fun v σ H Q => ∀ s0 H0 C cl fp, wpG (X.blk s0 H0 bs (compEnvC bs cl C X.env) fp) tg v σ H Q
def tS (X : Cx) (bs : Scope) (ifs : List Expr) : TT := fun σ H Q => ∀ s0 H0 C cl fp, wpPs (X.blk s0 H0 bs (compEnvC bs cl C X.env) fp) ifs σ H Q
def eS (X : Cx) (bs : Scope) (elt : Expr) : TE := fun σ H Q => ∀ s0 H0 C cl fp, wpE (X.blk s0 H0 bs (compEnvC bs cl C X.env) fp) elt σ H Q
theorem pgS {bs : Scope} {tg : Expr} (s0 : Shared) (H0 : Hp) (C : Addr) (cl : List (Str × Addr)) (fp : List Addr) : PG (X.blk s0 H0 bs (compEnvC bs cl C X.env) fp) tg (gS X bs tg) := ⟨fun pins s _ _ _ u _ I r h => (h s0 H0 C cl fp).run pins s u I r⟩
theorem ptS {bs : Scope} {ifs : List Expr} (s0 : Shared) (H0 : Hp) (C : Addr) (cl : List (Str × Addr)) (fp : List Addr) : PTs (X.blk s0 H0 bs (compEnvC bs cl C X.env) fp) ifs (tS X bs ifs) := ⟨fun pins s _ _ _ I h => h s0 H0 C cl fp pins s I⟩
theorem peS {bs : Scope} {elt : Expr} (s0 : Shared) (H0 : Hp) (C : Addr) (cl : List (Str × Addr)) (fp : List Addr) : PE (X.blk s0 H0 bs (compEnvC bs cl C X.env) fp) elt (eS X bs elt) := ⟨fun pins s _ _ _ I h => (h s0 H0 C cl fp).run pins s I⟩
theorem rd_lc {elt tg iter : Expr} {ifs : List Expr} {bs : Scope} (own : List (Str × Nat)) {M : List Str} {sc' : Scope} (hM : X.N = M) (nd : M.Nodup) (hc : X.calm = true)
    (h : EiP X F0 tg iter Γ L fun ds L1 => ∃ es : List (Option D), es.length = ds.length ∧ ds.length ≤ 1000000 ∧
      (∀ (F1 : UpH F0) (n : Nat) (d : D) (e : Option D) (acc : List D) (Dp : Addr), ds[n]? = some d → es[n]? = some e →
        (∀ X', Cb X' M sc' bs → (∃ s H C cl fp, X' = X.blk s H bs (compEnvC bs cl C X.env) fp) → TbK X' F1.h tg (own.map (·.2)) d (wipeG Γ (own.map (·.2))) (L1 ++ [(Dp, .lst acc)]) fun Γ2 L2 => L2 = L1 ++ [(Dp, .lst acc)] ∧
          (∀ X', Cb X' M sc' bs → (∃ s H C cl fp, X' = X.blk s H bs (compEnvC bs cl C X.env) fp) → EsK X' F1.h ifs Γ2 L2 fun t L3 => L3 = L2 ∧
            (t = true → ∀ X', Cb X' M sc' bs → (∃ s H C cl fp, X' = X.blk s H bs (compEnvC bs cl C X.env) fp) → EvK X' F1.h elt Γ2 L2 fun y L4 => L4 = L2 ∧ e = some y) ∧ (t = false → e = none)))) ∧ k (.lst (es.filterMap id)) L1)
    : RdK X F0 (tLc (wpI X tg iter) (gS X bs tg) (tS X bs ifs) (eS X bs elt) (own.map (·.2))) Γ L k := fun F σ H Q E q => by
  refine h F σ H _ E fun ds L1 F1 H1 J ⟨es, hes, hds, hb, hk⟩ E1 s1 it => ?_
  intro Dp hD
  have len : ∀ i, ((es.take i).filterMap id).length ≤ es.length := fun i => Nat.le_trans (List.length_filterMap_le _ _) (by rw [List.length_take]; exact Nat.min_le_right _ _)
  refine ⟨fun i m H => i + m = ds.length ∧ ∃ F, Same F1 F ∧ At X.K F0 F Γ (L1 ++ [(Dp, .lst ((es.take i).filterMap id))]) σ H, ⟨ds.length, by omega, F1, Same.refl F1, E1.to (Same.refl F1) (E1.led.last hD .nil)⟩, ?_⟩
  rintro i m H2 ⟨hm, F2, s2, E2⟩
  by_cases hi : i < ds.length
  · refine .inr ⟨it.go i H2 F2 _ hi s2 E2.led, fun H' => ∃ F, Same F1 F ∧ At X.K F0 F Γ (L1 ++ [(Dp, .lst ((es.take (i + 1)).filterMap id))]) σ H', fun H' ⟨F3, a, b⟩ => ⟨m - 1, by omega, by omega, F3, a, b⟩, fun x H' hy => ?_⟩
    obtain ⟨d, F3, hdi, s3, l3, r3⟩ := it.yld i H2 x H' F2 _ s2 E2.led hy hi
    have E3 := E2.to s3 l3
    have hei : ∃ e, es[i]? = some e := ⟨es[i]'(by omega), List.getElem?_eq_getElem (by omega)⟩
    obtain ⟨e, hei⟩ := hei
    have htk : (es.take (i + 1)).filterMap id = (es.take i).filterMap id ++ e.toList := by
      rw [List.take_add_one, hei, List.filterMap_append]
      cases e <;> rfl
    intro s0 H0 C0 cl0 fp0
    refine hb ⟨F1, E1.ge⟩ i d e ((es.take i).filterMap id) Dp hdi hei _ (blk_okM hM nd hc) ⟨s0, H0, C0, cl0, fp0, rfl⟩ F3 (wipe σ (own.map (·.2))) H' x _ ⟨s2.trans s3, E3.led, E3.sl.wipe _⟩ r3 ?_
    rintro Γ4 L4 F4 σ4 H4 ⟨rfl, h4⟩ E4 s4 hw
    refine ⟨by rw [hw]; refine List.ext_getElem? fun z => ?_; by_cases hz : z ∈ own.map (·.2); (rw [wipe_in hz, wipe_in hz, wipe_length]); (rw [wipe_out hz]), ?_⟩
    intro s0 H0 C0 cl0 fp0
    refine h4 _ (blk_okM hM nd hc) ⟨s0, H0, C0, cl0, fp0, rfl⟩ F4 σ4 H4 _ E4 ?_
    rintro t L5 F5 H5 ⟨rfl, h5, h6⟩ E5 s5
    cases t with
    | false =>
      rw [if_neg Bool.false_ne_true]
      have e0 := h6 rfl
      subst e0
      refine ⟨F5, E5.ge, ?_⟩
      rw [htk]
      show At X.K F0 F5 Γ (L1 ++ [(Dp, C.lst ((es.take i).filterMap id ++ []))]) σ H5
      rw [List.append_nil]
      exact E3.to (s4.trans s5) E5.led
    | true =>
      rw [if_pos rfl]
      intro s0 H0 C0 cl0 fp0
      refine h5 rfl _ (blk_okM hM nd hc) ⟨s0, H0, C0, cl0, fp0, rfl⟩ F5 σ4 H5 _ E5 ?_
      rintro y L6 F6 v6 H6 ⟨rfl, he⟩ E6 s6 r6
      subst he
      have g := get_last (x := (Dp, C.lst ((es.take i).filterMap id))) L1
      obtain ⟨xs, hx, rx⟩ := E6.led.lst g
      refine ⟨xs, hx, ?_, F6, E6.ge, ?_⟩
      · rw [← rx.length]
        exact Nat.lt_of_le_of_lt (len i) (Nat.lt_of_le_of_lt (by rw [hes]; exact hds) (by decide))
      · rw [htk]
        exact E3.to (s4.trans (s5.trans s6)) (E6.led.put g (put_last L1) ⟨_, upd_same, rx.append (.cons r6 .nil)⟩)
  · have e : i = ds.length := by omega
    subst e
    refine .inl ⟨it.stop _ H2 F2 _ (Nat.le_refl _) s2 E2.led, ?_⟩
    have e2 : es.take ds.length = es := List.take_of_length_le (by omega)
    rw [e2] at E2
    obtain ⟨xs, hx, l, s3, r⟩ := E2.led.unlast
    exact q _ L1 _ _ _ hk (E2.to s3 l) (s1.trans (s2.trans s3)) (.lst (.inl (.inl upd_same)) (r.mono s3))
theorem ek_lc {elt tg iter : Expr} {ifs : List Expr} {bs : Scope} (own : List (Str × Nat)) (cf : Cn X N Nc sc) (hc : X.calm = true) (ok : blkC (N ++ Nc) sc bs own = true)
    (h : EiP X F0 tg iter Γ L fun ds L1 => ∃ es : List (Option D), es.length = ds.length ∧ ds.length ≤ 1000000 ∧
      (∀ (F1 : UpH F0) (n : Nat) (d : D) (e : Option D) (acc : List D) (Dp : Addr), ds[n]? = some d → es[n]? = some e →
        (∀ X', Cb X' (N ++ Nc) sc bs → (∃ s H C cl fp, X' = X.blk s H bs (compEnvC bs cl C X.env) fp) → TbK X' F1.h tg (own.map (·.2)) d (wipeG Γ (own.map (·.2))) (L1 ++ [(Dp, .lst acc)]) fun Γ2 L2 => L2 = L1 ++ [(Dp, .lst acc)] ∧
          (∀ X', Cb X' (N ++ Nc) sc bs → (∃ s H C cl fp, X' = X.blk s H bs (compEnvC bs cl C X.env) fp) → EsK X' F1.h ifs Γ2 L2 fun t L3 => L3 = L2 ∧
            (t = true → ∀ X', Cb X' (N ++ Nc) sc bs → (∃ s H C cl fp, X' = X.blk s H bs (compEnvC bs cl C X.env) fp) → EvK X' F1.h elt Γ2 L2 fun y L4 => L4 = L2 ∧ e = some y) ∧ (t = false → e = none)))) ∧ k (.lst (es.filterMap id)) L1)
    (hs : ∀ x, foldedSetIterable iter X.env x = pure x := by intro _; rfl) : EvK X F0 (.ListComp elt [⟨tg, iter, ifs, 0⟩] bs pos) Γ L k :=
  (rd_lc own cf.n cf.nd hc h).ev (pe_lc (own := own) hc (by rw [cf.n]; exact cf.nd) wi (by rw [cf.n, cf.scp]; exact blkOk_by ok) pgS ptS peS hs)
theorem sk_setLc {elt tg iter : Expr} {ifs : List Expr} {bs : Scope} {ks : Ks} {j : Nat} {y : Str} {py spos : Pos} (own : List (Str × Nat)) (cf : Cn X N Nc sc) (hc : X.calm = true) (ok : blkC (N ++ Nc) sc bs own = true)
    (h : EiP X F0 tg iter Γ L fun ds L1 => ∃ es : List (Option D), es.length = ds.length ∧ ds.length ≤ 1000000 ∧
      (∀ (F1 : UpH F0) (n : Nat) (d : D) (e : Option D) (acc : List D) (Dp : Addr), ds[n]? = some d → es[n]? = some e →
        (∀ X', Cb X' (N ++ Nc) sc bs → (∃ s H C cl fp, X' = X.blk s H bs (compEnvC bs cl C X.env) fp) → TbK X' F1.h tg (own.map (·.2)) d (wipeG Γ (own.map (·.2))) (L1 ++ [(Dp, .lst acc)]) fun Γ2 L2 => L2 = L1 ++ [(Dp, .lst acc)] ∧
          (∀ X', Cb X' (N ++ Nc) sc bs → (∃ s H C cl fp, X' = X.blk s H bs (compEnvC bs cl C X.env) fp) → EsK X' F1.h ifs Γ2 L2 fun t L3 => L3 = L2 ∧
            (t = true → ∀ X', Cb X' (N ++ Nc) sc bs → (∃ s H C cl fp, X' = X.blk s H bs (compEnvC bs cl C X.env) fp) → EvK X' F1.h elt Γ2 L2 fun y L4 => L4 = L2 ∧ e = some y) ∧ (t = false → e = none)))) ∧ ∃ Γ', Put Γ j (some (.lst (es.filterMap id))) Γ' ∧ ks.nx Γ' L1)
    (hj : N[j]? = some y := by rfl) (hyl : sc.names.lookup y = some .local := by rfl)
    (hl : (py.line == pos.line) = true := by rfl) (hn : (bs.names.any fun (n, k) => n == y && (k == .local || k == .cell)) = false := by decide +kernel) (hk : sc.kind = .function := by rfl)
    (hs : ∀ x, foldedSetIterable iter X.env x = pure x := by intro _; rfl) : SK X F0 (.Assign [.Name y py] (.ListComp elt [⟨tg, iter, ifs, 0⟩] bs pos) spos) Γ L ks := fun F σ H Dn E q =>
  wpS.of (ps_setLc (own := own) hc (by rw [cf.n]; exact cf.nd) (by rw [cf.n]; exact get_app hj) (by rw [cf.scp]; exact hyl) (sw_true (by rw [cf.scp]; exact hk) (by rw [cf.scp]; exact hyl) hl hn) wi (by rw [cf.n, cf.scp]; exact blkOk_by ok) pgS ptS peS hs)
    (rd_lc own cf.n cf.nd hc (k := fun d L' => ∃ Γ', Put Γ j (some d) Γ' ∧ ks.nx Γ' L') h F σ H _ E fun d L1 F1 v H1 ⟨Γ', hp, h1⟩ E1 s1 r1 => q.nx Γ' L1 F1 _ H1 h1 ⟨E1.ge, E1.led, E1.sl.put r1 hp⟩)

/-- a comprehension within a comprehension's block -/
theorem ek_lcB {elt tg iter : Expr} {ifs : List Expr} {bs bs0 : Scope} {M : List Str} (own : List (Str × Nat)) (cb : Cb X M sc bs0) (ok : blkC M bs0 bs own = true)
    (h : EiP X F0 tg iter Γ L fun ds L1 => ∃ es : List (Option D), es.length = ds.length ∧ ds.length ≤ 1000000 ∧
      (∀ (F1 : UpH F0) (n : Nat) (d : D) (e : Option D) (acc : List D) (Dp : Addr), ds[n]? = some d → es[n]? = some e →
        (∀ X', Cb X' M sc bs → (∃ s H C cl fp, X' = X.blk s H bs (compEnvC bs cl C X.env) fp) → TbK X' F1.h tg (own.map (·.2)) d (wipeG Γ (own.map (·.2))) (L1 ++ [(Dp, .lst acc)]) fun Γ2 L2 => L2 = L1 ++ [(Dp, .lst acc)] ∧
          (∀ X', Cb X' M sc bs → (∃ s H C cl fp, X' = X.blk s H bs (compEnvC bs cl C X.env) fp) → EsK X' F1.h ifs Γ2 L2 fun t L3 => L3 = L2 ∧
            (t = true → ∀ X', Cb X' M sc bs → (∃ s H C cl fp, X' = X.blk s H bs (compEnvC bs cl C X.env) fp) → EvK X' F1.h elt Γ2 L2 fun y L4 => L4 = L2 ∧ e = some y) ∧ (t = false → e = none)))) ∧ k (.lst (es.filterMap id)) L1)
    (hs : ∀ x, foldedSetIterable iter X.env x = pure x := by intro _; rfl) : EvK X F0 (.ListComp elt [⟨tg, iter, ifs, 0⟩] bs pos) Γ L k := by
  obtain ⟨env, he⟩ := cb.rel
  exact (rd_lc own cb.n cb.nd cb.calm h).ev (pe_lc (own := own) cb.calm (by rw [cb.n]; exact cb.nd) wi (by rw [cb.n, he]; exact blk_rel (blkOk_by ok)) pgS ptS peS hs)
/-! without a test -/
theorem fm_some {es : List D} : (es.map some).filterMap id = es := by
  induction es with
  | nil => rfl
  | cons x xs ih => rw [List.map_cons, List.filterMap_cons]; exact congrArg (x :: ·) ih
section
variable {M : List Str} {elt tg iter : Expr} {bs : Scope}
/-- what the rules without a test ask -/
def LcM (X : Cx) (F0 : Hp) (M : List Str) (sc bs : Scope) (own : List (Str × Nat)) (elt tg : Expr) (Γ : Gm) (L1 : Lg) (ds es : List D) : Prop :=
  es.length = ds.length ∧ ds.length ≤ 1000000 ∧ ∀ (F1 : UpH F0) (n : Nat) (d e : D) (acc : List D) (Dp : Addr), ds[n]? = some d → es[n]? = some e →
    ∀ X', Cb X' M sc bs → (∃ s H C cl fp, X' = X.blk s H bs (compEnvC bs cl C X.env) fp) → TbK X' F1.h tg (own.map (·.2)) d (wipeG Γ (own.map (·.2))) (L1 ++ [(Dp, .lst acc)]) fun Γ2 L2 => L2 = L1 ++ [(Dp, .lst acc)] ∧
      ∀ X', Cb X' M sc bs → (∃ s H C cl fp, X' = X.blk s H bs (compEnvC bs cl C X.env) fp) → EvK X' F1.h elt Γ2 L2 fun y L4 => L4 = L2 ∧ y = e
theorem lcm_to {own : List (Str × Nat)} {L1 : Lg} {ds es : List D} {kk : D → Lg → Prop} (h : LcM X F0 M sc bs own elt tg Γ L1 ds es) (hk : kk (.lst es) L1) :
    ∃ es : List (Option D), es.length = ds.length ∧ ds.length ≤ 1000000 ∧
      (∀ (F1 : UpH F0) (n : Nat) (d : D) (e : Option D) (acc : List D) (Dp : Addr), ds[n]? = some d → es[n]? = some e →
        (∀ X', Cb X' M sc bs → (∃ s H C cl fp, X' = X.blk s H bs (compEnvC bs cl C X.env) fp) → TbK X' F1.h tg (own.map (·.2)) d (wipeG Γ (own.map (·.2))) (L1 ++ [(Dp, .lst acc)]) fun Γ2 L2 => L2 = L1 ++ [(Dp, .lst acc)] ∧
          (∀ X', Cb X' M sc bs → (∃ s H C cl fp, X' = X.blk s H bs (compEnvC bs cl C X.env) fp) → EsK X' F1.h [] Γ2 L2 fun t L3 => L3 = L2 ∧
            (t = true → ∀ X', Cb X' M sc bs → (∃ s H C cl fp, X' = X.blk s H bs (compEnvC bs cl C X.env) fp) → EvK X' F1.h elt Γ2 L2 fun y L4 => L4 = L2 ∧ e = some y) ∧ (t = false → e = none)))) ∧ kk (.lst (es.filterMap id)) L1 := by
  obtain ⟨h1, h2, h3⟩ := h
  refine ⟨es.map some, by rw [List.length_map]; exact h1, h2, fun F1 n d e acc Dp hd he X' cb hX' => ?_, by rw [fm_some]; exact hk⟩
  rw [List.getElem?_map] at he
  cases z : es[n]? with
  | none => rw [z] at he; cases he
  | some y =>
    rw [z] at he
    have he := Option.some.inj he
    subst he
    intro F σ H v Q E r q
    refine h3 F1 n d y acc Dp hd z X' cb hX' F σ H v Q E r fun Γ' L' F' σ' H' ⟨e1, h4⟩ E' s' w' => q Γ' L' F' σ' H' ⟨e1, fun X'' cb' hX'' => es_nil ⟨rfl, fun _ X3 cb3 hX3 => ?_, fun h => nomatch h⟩⟩ E' s' w'
    intro F σ H Q E q
    exact h4 X3 cb3 hX3 F σ H Q E fun d L' F' v H' ⟨a, b⟩ E' s r => q d L' F' v H' ⟨a, by rw [b]⟩ E' s r
theorem ei_mono {kl kl' : List D → Lg → Prop} (h : EiK X F0 tg iter Γ L kl) (hk : ∀ ds L', kl ds L' → kl' ds L') : EiK X F0 tg iter Γ L kl' := fun F σ H R E q => h F σ H R E fun ds L' F' H' J h1 => q ds L' F' H' J (hk ds L' h1)
theorem ek_lcM (own : List (Str × Nat)) (cf : Cn X N Nc sc) (hc : X.calm = true) (ok : blkC (N ++ Nc) sc bs own = true)
    (h : EiP X F0 tg iter Γ L fun ds L1 => ∃ es : List D, LcM X F0 (N ++ Nc) sc bs own elt tg Γ L1 ds es ∧ k (.lst es) L1)
    (hs : ∀ x, foldedSetIterable iter X.env x = pure x := by intro _; rfl) : EvK X F0 (.ListComp elt [⟨tg, iter, [], 0⟩] bs pos) Γ L k :=
  ek_lc own cf hc ok (eip_mono h fun ds L' ⟨es, h1, h2⟩ => lcm_to h1 h2) hs
theorem ek_lcBM {bs0 : Scope} (own : List (Str × Nat)) (cb : Cb X M sc bs0) (ok : blkC M bs0 bs own = true)
    (h : EiP X F0 tg iter Γ L fun ds L1 => ∃ es : List D, LcM X F0 M sc bs own elt tg Γ L1 ds es ∧ k (.lst es) L1)
    (hs : ∀ x, foldedSetIterable iter X.env x = pure x := by intro _; rfl) : EvK X F0 (.ListComp elt [⟨tg, iter, [], 0⟩] bs pos) Γ L k :=
  ek_lcB own cb ok (eip_mono h fun ds L' ⟨es, h1, h2⟩ => lcm_to h1 h2) hs
theorem sk_setLcM {ks : Ks} {j : Nat} {y : Str} {py spos : Pos} (own : List (Str × Nat)) (cf : Cn X N Nc sc) (hc : X.calm = true) (ok : blkC (N ++ Nc) sc bs own = true)
    (h : EiP X F0 tg iter Γ L fun ds L1 => ∃ es : List D, LcM X F0 (N ++ Nc) sc bs own elt tg Γ L1 ds es ∧ ∃ Γ', Put Γ j (some (.lst es)) Γ' ∧ ks.nx Γ' L1)
    (hj : N[j]? = some y := by rfl) (hyl : sc.names.lookup y = some .local := by rfl)
    (hl : (py.line == pos.line) = true := by rfl) (hn : (bs.names.any fun (n, k) => n == y && (k == .local || k == .cell)) = false := by decide +kernel) (hk : sc.kind = .function := by rfl)
    (hs : ∀ x, foldedSetIterable iter X.env x = pure x := by intro _; rfl) : SK X F0 (.Assign [.Name y py] (.ListComp elt [⟨tg, iter, [], 0⟩] bs pos) spos) Γ L ks :=
  sk_setLc own cf hc ok (eip_mono h fun ds L' ⟨es, h1, h2⟩ => lcm_to (kk := fun d L1 => ∃ Γ', Put Γ j (some d) Γ' ∧ ks.nx Γ' L1) h1 h2) hj hyl hl hn hk hs
end
end
end Vs

set_option Elab.async false
set_option linter.all false
set_option maxRecDepth 100000
set_option maxHeartbeats 4000000
namespace Vs
open PySem PySem.Spec PyProof.Rows L2
/-! ### isinstance -/
inductive ClsD : D → Value → Prop
  | ty {n : String} : ClsD (.ty n) (.type n)
  | own {C : Addr} : ClsD (.ref C) (.ref C)
theorem ClsD.v {K : PySem.W.Frag} {F : Hp} {d : D} {u : Value} {v : V} (c : ClsD d u) (r : Rep K F d v) : ClsV v u := by
  cases c <;> cases r
  · exact .ty _
  · exact .own _
theorem ClsD.vs {K : PySem.W.Frag} {F : Hp} : ∀ {ds : List D} {us : List Value} {vs : List V}, Paired ClsD ds us → Reps K F ds vs → Paired ClsV vs us
  | _, _, _, .nil, .nil => .nil
  | _, _, _, .cons c t, .cons r s => .cons (c.v r) (ClsD.vs t s)
/-- the type of a datum -/
inductive TyD (L : Lg) : D → String → Prop
  | non : TyD L .non "NoneType"
  | bl {b : Bool} : TyD L (.bl b) "bool"
  | int {i : Int} : TyD L (.int i) "int"
  | str {x : Str} : TyD L (.str x) "str"
  | lst {ds : List D} : TyD L (.lst ds) "list"
  | tup {ds : List D} : TyD L (.tup ds) "tuple"
  | own {p : Addr} {ds : List D} {j : Nat} : Get L j (p, C.lst ds) → TyD L (.ref p) "list"
theorem TyD.tyx {K : PySem.W.Frag} {F H : Hp} {L : Lg} {d : D} {n : String} {v : V} (t : TyD L d n) (l : Led K F L H) (r : Rep K F d v) : TyX K H v (.type n) := by
  cases t with
  | non => cases r; exact .base .non
  | bl => cases r; exact .base (.bl _)
  | int => cases r; exact .base (.int _)
  | str => cases r; exact .base (.str _)
  | lst =>
    cases r with
    | lst h r =>
      rcases h with (h | ⟨o, h⟩) | ⟨o, its, m, h1, h2, _⟩
      · exact .base (.lst (l.sub _ _ h))
      · exact .base (.frz (l.sub _ _ h))
      · exact .kList h1 h2
  | tup =>
    cases r with
    | tup h r =>
      rcases h with (h | ⟨o, h⟩) | ⟨o, its, m, h1, h2, _⟩
      · exact .base (.tup (l.sub _ _ h))
      · exact .fTuple (l.sub _ _ h)
      · exact .kTuple h1 h2
  | own g =>
    cases r
    obtain ⟨xs, h, _⟩ := l.lst g
    exact .base (.lst h)
section
variable {X : Cx} {F0 : Hp} {Γ : Gm} {L : Lg} {k : D → Lg → Prop} {ka : List D → Lg → Prop} {kt : Bool → Lg → Prop} {e a b c o : Expr} {es rest : List Expr} {pos p2 apos cpos : Pos} {N Nc : List Str} {sc : Scope} {Z : Xc → Gm → Lg → Prop}
/-- a built-in class's name as a value -/
theorem ek_ty {x : Str} {n : String} (hm : X.mg x = none) (hg : Gl X x) (hv : bootBuiltins x = some (.type n)) (h : k (.ty n) L) (hn : x ≠ "__name__" := by decide) (hd : (x == ("__debug__" : Str)) = false := by decide) : EvK X F0 (.Name x pos) Γ L k :=
  ek_c (pe_bltn hg hm hv (v := .ty n) rfl hn hd) (fun _ => .ty) h
/-- a class of the module as a value -/
theorem ek_cls {x : Str} {C : Addr} (hm : X.mg x = some (.ref C)) (hg : Gl X x) (h : k (.ref C) L) (hd : (x == ("__debug__" : Str)) = false := by decide) : EvK X F0 (.Name x pos) Γ L k :=
  ek_c (pe_glob hg hm (v := .ref C) rfl hd) (fun _ => .ref) h
theorem ek_isi {p : Pos} (hm : X.mg "isinstance" = none) (hg : Gl X "isinstance") (h : EvK X F0 a Γ L fun x L1 => EvK X F0 b Γ L1 fun y L2 => ∃ t n r, TyD L2 x t ∧ y = .ty n ∧ kitB t n = some r ∧ k (.bl r) L2)
    (he : starEach [a, b] X.env = (false, eval a X.env) :: starEach [b] X.env := by rfl) (he2 : starEach [b] X.env = (false, eval b X.env) :: starEach [] X.env := by rfl) (hpl : (backTo pos (starEach [b] X.env)).any (·.1) = false := by rfl) :
    EvK X F0 (.Call (.Name "isinstance" p) [a, b] [] pos) Γ L k :=
  ek_cb call_isi hm boot_isinstance (P := fun ds L1 kk => ∃ x t n r, ds = [x, .ty n] ∧ TyD L1 x t ∧ kitB t n = some r ∧ kk (.bl r))
    (fun F L' σ H ds vs kk Q E r ⟨x, t, n, rr, e1, ht, hk, hq⟩ q => by
      subst e1
      obtain ⟨v, v', rfl, r1, r2⟩ := reps2 r
      cases r2
      exact ⟨v, .ty n, .type t, .type n, rr, rfl, .ty n, ht.tyx E.led r1, kit_ty hk, q _ F _ H hq E (Same.refl F) .bl⟩)
    (ea_cons (fun F σ H Q E q => h F σ H Q E fun x L1 F1 v H1 h1 E1 s1 r1 => q x L1 F1 v H1 (ea_cons (fun F σ H Q E q => h1 F σ H Q E fun y L2 F2 u H2 ⟨t, n, rr, h2, e2, h3, h4⟩ E2 s2 r2 => q y L2 F2 u H2 (ea_nil ⟨x, t, n, rr, by rw [e2], h2, h3, h4⟩) E2 s2 r2) he2) E1 s1 r1) he) hg (he := he) (hpl := hpl)
end
/-- isinstance(e, c), e the exception that the suite holds: one class, or a tuple of classes -/
theorem call_isET {X : Cx} {a Dc : Addr} {oe : Obj} {pn : List (Addr × Obj)} (C : ExcC X.K Dc) (hz : Zc (.ref Dc) none oe) (hf : ∃ vs, oe.data = .fields vs) :
    CallR (X.suite a ((a, oe) :: pn)) (.builtin "isinstance") (fun xs H Q => ∃ (tp : Addr) (cs : List V) (us : List Value) (b : Bool), xs = [.ref a, .ref tp] ∧ SqT X.K H tp cs ∧ Paired ClsV cs us ∧ PySem.W.kitAny X.K (.ref Dc) us = some b ∧ Q (.bl b) H) := by
  intro pins s σ H xs us Q I r h
  obtain ⟨tp, cs, ws, b, rfl, hT, k, e, q⟩ := h
  obtain ⟨u1, u2, rfl, r1, r2⟩ := vals2 r
  cases (show u1 = Value.ref a from r1)
  cases (show u2 = Value.ref tp from r2)
  obtain ⟨hget, _⟩ := I.pin (a, oe) (List.mem_append.mpr (.inl List.mem_cons_self))
  obtain ⟨vs, hv⟩ := hf
  have J : PySem.W.InstAt s.heap a oe Dc none := by
    obtain ⟨oc, od, oda, osl⟩ := oe
    obtain ⟨h1, h2⟩ := hz
    dsimp only at h1 h2 hv
    subst h1 h2 hv
    exact ⟨hget, rfl, rfl, trivial⟩
  obtain ⟨its, rv, ⟨o, h1, h2, n, h3⟩, _⟩ := I.tuple (show SqT (X.suite a ((a, oe) :: pn)).K H tp cs from hT)
  have e3 := ClsV.all k rv
  subst e3
  obtain ⟨oc, od, dt, sl⟩ := o
  simp only at h2 h3
  subst h2 h3
  exact PySem.W.kia_tup (PySem.W.handS_kitx_exc C.hg C.hk C.hs C.hd C.ha C.hn C.ht C.hm) I.kIn J h1 e (fun z => nomatch z) fun tk => ⟨.bl b, H, I.tok tk, rfl, q⟩
section
variable {X : Cx} {F0 : Hp} {Γ : Gm} {L : Lg} {k : D → Lg → Prop} {e a b c o : Expr} {pos p2 : Pos} {ad Dc : Addr} {oe : Obj} {pn : List (Addr × Obj)}
theorem ek_isE {p : Pos} (C : ExcC X.K Dc) (hz : Zc (.ref Dc) none oe) (hf : ∃ vs, oe.data = .fields vs) (hm : X.mg "isinstance" = none) (hg : Gl X "isinstance")
    (h : EvK (X.suite ad ((ad, oe) :: pn)) F0 a Γ L fun x L1 => x = .ref ad ∧ EvK (X.suite ad ((ad, oe) :: pn)) F0 b Γ L1 fun y L2 => ∃ u r, ClsD y u ∧ PySem.W.kitOne X.K (.ref Dc) u = some r ∧ k (.bl r) L2)
    (he : starEach [a, b] X.env = (false, eval a X.env) :: starEach [b] X.env := by rfl) (he2 : starEach [b] X.env = (false, eval b X.env) :: starEach [] X.env := by rfl) (hpl : (backTo pos (starEach [b] X.env)).any (·.1) = false := by rfl) :
    EvK (X.suite ad ((ad, oe) :: pn)) F0 (.Call (.Name "isinstance" p) [a, b] [] pos) Γ L k :=
  ek_cb (call_isE C hz hf) hm boot_isinstance (P := fun ds L1 kk => ∃ y u r, ds = [.ref ad, y] ∧ ClsD y u ∧ PySem.W.kitOne X.K (.ref Dc) u = some r ∧ kk (.bl r))
    (fun F L' σ H ds vs kk Q E r ⟨y, u, rr, e1, hc, hk, hq⟩ q => by
      subst e1
      obtain ⟨v, v', rfl, r1, r2⟩ := reps2 r
      cases r1
      exact ⟨v', u, rr, rfl, fun w hw => (hc.v r2).eq hw, hk, q _ F _ H hq E (Same.refl F) .bl⟩)
    (ea_cons (fun F σ H Q E q => h F σ H Q E fun x L1 F1 v H1 ⟨e1, h1⟩ E1 s1 r1 => q x L1 F1 v H1 (ea_cons (fun F σ H Q E q => h1 F σ H Q E fun y L2 F2 u H2 ⟨w, rr, h2, h3, h4⟩ E2 s2 r2 => q y L2 F2 u H2 (ea_nil ⟨y, w, rr, by rw [e1], h2, h3, h4⟩) E2 s2 r2) he2) E1 s1 r1) he) hg (he := he) (hpl := hpl)
theorem ek_isET {p : Pos} (C : ExcC X.K Dc) (hz : Zc (.ref Dc) none oe) (hf : ∃ vs, oe.data = .fields vs) (hm : X.mg "isinstance" = none) (hg : Gl X "isinstance")
    (h : EvK (X.suite ad ((ad, oe) :: pn)) F0 a Γ L fun x L1 => x = .ref ad ∧ EvK (X.suite ad ((ad, oe) :: pn)) F0 b Γ L1 fun y L2 => ∃ ds us r, y = .tup ds ∧ Paired ClsD ds us ∧ PySem.W.kitAny X.K (.ref Dc) us = some r ∧ k (.bl r) L2)
    (he : starEach [a, b] X.env = (false, eval a X.env) :: starEach [b] X.env := by rfl) (he2 : starEach [b] X.env = (false, eval b X.env) :: starEach [] X.env := by rfl) (hpl : (backTo pos (starEach [b] X.env)).any (·.1) = false := by rfl) :
    EvK (X.suite ad ((ad, oe) :: pn)) F0 (.Call (.Name "isinstance" p) [a, b] [] pos) Γ L k :=
  ek_cb (call_isET C hz hf) hm boot_isinstance (P := fun ds L1 kk => ∃ es us r, ds = [.ref ad, .tup es] ∧ Paired ClsD es us ∧ PySem.W.kitAny X.K (.ref Dc) us = some r ∧ kk (.bl r))
    (fun F L' σ H ds vs kk Q E r ⟨es, us, rr, e1, hc, hk, hq⟩ q => by
      subst e1
      obtain ⟨v, v', rfl, r1, r2⟩ := reps2 r
      cases r1
      cases r2 with
      | tup hx rx => exact ⟨_, _, us, rr, rfl, seqT E.led.sub hx, ClsD.vs hc rx, hk, q _ F _ H hq E (Same.refl F) .bl⟩)
    (ea_cons (fun F σ H Q E q => h F σ H Q E fun x L1 F1 v H1 ⟨e1, h1⟩ E1 s1 r1 => q x L1 F1 v H1 (ea_cons (fun F σ H Q E q => h1 F σ H Q E fun y L2 F2 u H2 ⟨ds, us, rr, e2, h2, h3, h4⟩ E2 s2 r2 => q y L2 F2 u H2 (ea_nil ⟨ds, us, rr, by rw [e1, e2], h2, h3, h4⟩) E2 s2 r2) he2) E1 s1 r1) he) hg (he := he) (hpl := hpl)
end
end Vs

set_option Elab.async false
set_option linter.all false
set_option maxRecDepth 100000
set_option maxHeartbeats 4000000
namespace Vs
open PySem PySem.Spec PyProof.Rows L2
section
variable {X : Cx} {F0 : Hp} {Γ : Gm} {L : Lg} {k : D → Lg → Prop} {ka : List D → Lg → Prop} {kt : Bool → Lg → Prop} {e a b c o : Expr} {es rest : List Expr} {pos p2 apos cpos : Pos} {N Nc : List Str} {sc : Scope} {Z : Xc → Gm → Lg → Prop}
theorem Cn.gl (c : Cn X N Nc sc) {x : Str} (h : sc.names.lookup x = some .globalImplicit := by rfl) : Gl X x := by
  show X.env.scope.names.lookup x = _
  rw [c.scp]
  exact h
theorem Cb.gl {bs : Scope} (c : Cb X N sc bs) {x : Str} (h : bs.names.lookup x = some .globalImplicit := by rfl) : Gl X x := c.glo x h
/-- a whole number of the module's top -/
theorem ek_gi {x : Str} {i : Int} (hm : ∃ t, X.mg x = some (.int i t)) (hg : Gl X x) (h : k (.int i) L) (hd : (x == ("__debug__" : Str)) = false := by decide) : EvK X F0 (.Name x pos) Γ L k := by
  obtain ⟨t, hm⟩ := hm
  exact ek_glob hm (v := .int i) ⟨t, rfl⟩ (fun _ => .int) h hg hd
theorem ek_gs {x : Str} {z : Str} (hm : ∃ t, X.mg x = some (.str z t)) (hg : Gl X x) (h : k (.str z) L) (hd : (x == ("__debug__" : Str)) = false := by decide) : EvK X F0 (.Name x pos) Γ L k := by
  obtain ⟨t, hm⟩ := hm
  exact ek_glob hm (v := .str z) ⟨t, rfl⟩ (fun _ => .str) h hg hd
/-- an object of the module's top that stands still -/
structure GObj (K : PySem.W.Frag) (mg : Str → Option Value) (x : Str) (d : D) : Prop where
  ex : ∃ a, mg x = some (.ref a) ∧ ∀ F, Rep K F d (.ref a)
theorem ek_go {x : Str} {d : D} (hm : GObj X.K X.mg x d) (hg : Gl X x) (h : k d L) (hd : (x == ("__debug__" : Str)) = false := by decide) : EvK X F0 (.Name x pos) Γ L k := by
  obtain ⟨a, hm, r⟩ := hm.ex
  exact ek_glob hm (v := .ref a) rfl r h hg hd
/-- and, or without forks -/
theorem ew_or {p q : Bool} (ha : EtK X F0 a Γ L fun x L1 => x = p ∧ L1 = L) (hb : p = false → EwK X F0 (.BoolOp .Or (b :: rest) pos) Γ L fun y L2 => y = q ∧ L2 = L) (h : kt (p || q) L) : EwK X F0 (.BoolOp .Or (a :: b :: rest) pos) Γ L kt :=
  et_orw fun F σ H Q E qq => ha F σ H Q E fun x L1 F1 H1 ⟨e1, e2⟩ E1 s1 => qq x L1 F1 H1 (by
    subst e1 e2
    refine ⟨fun hx => by subst hx; simpa using h, fun hx => ?_⟩
    subst hx
    exact fun F σ H Q E q2 => hb rfl F σ H Q E fun y L2 F2 H2 ⟨e3, e4⟩ E2 s2 => q2 y L2 F2 H2 (by subst e3 e4; simpa using h) E2 s2) E1 s1
theorem ew_and {p q : Bool} (ha : EtK X F0 a Γ L fun x L1 => x = p ∧ L1 = L) (hb : p = true → EwK X F0 (.BoolOp .And (b :: rest) pos) Γ L fun y L2 => y = q ∧ L2 = L) (h : kt (p && q) L) : EwK X F0 (.BoolOp .And (a :: b :: rest) pos) Γ L kt :=
  et_andw fun F σ H Q E qq => ha F σ H Q E fun x L1 F1 H1 ⟨e1, e2⟩ E1 s1 => qq x L1 F1 H1 (by
    subst e1 e2
    refine ⟨fun hx => ?_, fun hx => by subst hx; simpa using h⟩
    subst hx
    exact fun F σ H Q E q2 => hb rfl F σ H Q E fun y L2 F2 H2 ⟨e3, e4⟩ E2 s2 => q2 y L2 F2 H2 (by subst e3 e4; simpa using h) E2 s2) E1 s1
theorem ek_or {p q : Bool} (ha : EvK X F0 a Γ L fun x L1 => x = .bl p ∧ L1 = L) (hb : p = false → EvK X F0 (.BoolOp .Or (b :: rest) pos) Γ L fun y L2 => y = .bl q ∧ L2 = L) (h : k (.bl (p || q)) L) : EvK X F0 (.BoolOp .Or (a :: b :: rest) pos) Γ L k :=
  ek_orv fun F σ H Q E qq => ha F σ H Q E fun x L1 F1 v H1 ⟨e1, e2⟩ E1 s1 r1 => qq x L1 F1 v H1 (by
    subst e2
    refine ⟨p, e1, fun hx => by subst hx; simpa using h, fun hx => ?_⟩
    subst hx
    exact fun F σ H Q E q2 => hb rfl F σ H Q E fun y L2 F2 v2 H2 ⟨e3, e4⟩ E2 s2 r2 => q2 y L2 F2 v2 H2 (by subst e3 e4; simpa using h) E2 s2 r2) E1 s1 r1
theorem ek_and' {p q : Bool} (ha : EvK X F0 a Γ L fun x L1 => x = .bl p ∧ L1 = L) (hb : p = true → EvK X F0 (.BoolOp .And (b :: rest) pos) Γ L fun y L2 => y = .bl q ∧ L2 = L) (h : k (.bl (p && q)) L) : EvK X F0 (.BoolOp .And (a :: b :: rest) pos) Γ L k :=
  ek_andv fun F σ H Q E qq => ha F σ H Q E fun x L1 F1 v H1 ⟨e1, e2⟩ E1 s1 r1 => qq x L1 F1 v H1 (by
    subst e2
    refine ⟨p, e1, fun hx => ?_, fun hx => by subst hx; simpa using h⟩
    subst hx
    exact fun F σ H Q E q2 => hb rfl F σ H Q E fun y L2 F2 v2 H2 ⟨e3, e4⟩ E2 s2 r2 => q2 y L2 F2 v2 H2 (by subst e3 e4; simpa using h) E2 s2 r2) E1 s1 r1
end
section
variable {X : Cx} {F0 : Hp} {Γ : Gm} {L : Lg} {k : D → Lg → Prop} {kt : Bool → Lg → Prop} {a b c : Expr} {pos : Pos}
/-- a < b < c without forks -/
theorem ek_ch2 {op op' : CmpOp} {g g' : Int → Int → Bool} (ho : OpR X (compareOp op) (rI0 fun i j => .bl (g i j))) (ho' : OpR X (compareOp op') (rI0 fun i j => .bl (g' i j)))
    (h : EvK X F0 a Γ L fun x L1 => ∃ i, x = .int i ∧ EvK X F0 b Γ L1 fun y L2 => ∃ j l, y = .int j ∧ (g i j = true → EvK X F0 c Γ L2 fun z L3 => z = .int l ∧ L3 = L2) ∧ k (.bl (g i j && g' j l)) L2)
    (hm : lastMarks [op, op'] [b, c] = false := by with_unfolding_all rfl) : EvK X F0 (.Compare a [op, op'] [b, c] pos) Γ L k :=
  ek_ch ho ho' (fun F σ H Q E q => h F σ H Q E fun x L1 F1 v H1 ⟨i, e1, h1⟩ E1 s1 r1 => q x L1 F1 v H1 ⟨i, e1, fun F σ H Q E q => h1 F σ H Q E fun y L2 F2 v2 H2 ⟨j, l, e2, h2, h3⟩ E2 s2 r2 => q y L2 F2 v2 H2 ⟨j, e2,
    fun hg F σ H Q E q => h2 hg F σ H Q E fun z L3 F3 v3 H3 ⟨e3, e4⟩ E3 s3 r3 => q z L3 F3 v3 H3 ⟨l, e3, by rw [hg] at h3; rw [e4]; simpa using h3⟩ E3 s3 r3, fun hg => by rw [hg] at h3; simpa using h3⟩ E2 s2 r2⟩ E1 s1 r1) hm
theorem et_ch2 {op op' : CmpOp} {g g' : Int → Int → Bool} (ho : OpR X (compareOp op) (rI0 fun i j => .bl (g i j))) (ho' : OpR X (compareOp op') (rI0 fun i j => .bl (g' i j)))
    (h : EvK X F0 a Γ L fun x L1 => ∃ i, x = .int i ∧ EvK X F0 b Γ L1 fun y L2 => ∃ j l, y = .int j ∧ (g i j = true → EvK X F0 c Γ L2 fun z L3 => z = .int l ∧ L3 = L2) ∧ kt (g i j && g' j l) L2)
    (hm : lastMarks [op, op'] [b, c] = false := by with_unfolding_all rfl) : EtK X F0 (.Compare a [op, op'] [b, c] pos) Γ L kt :=
  et_ch ho ho' (fun F σ H Q E q => h F σ H Q E fun x L1 F1 v H1 ⟨i, e1, h1⟩ E1 s1 r1 => q x L1 F1 v H1 ⟨i, e1, fun F σ H Q E q => h1 F σ H Q E fun y L2 F2 v2 H2 ⟨j, l, e2, h2, h3⟩ E2 s2 r2 => q y L2 F2 v2 H2 ⟨j, e2,
    fun hg F σ H Q E q => h2 hg F σ H Q E fun z L3 F3 v3 H3 ⟨e3, e4⟩ E3 s3 r3 => q z L3 F3 v3 H3 ⟨l, e3, by rw [hg] at h3; rw [e4]; simpa using h3⟩ E3 s3 r3, fun hg => by rw [hg] at h3; simpa using h3⟩ E2 s2 r2⟩ E1 s1 r1) hm
theorem bl_is {q : D → Lg → Prop} {b : Bool} (h : b = true) (hq : q (.bl true) L) : q (.bl b) L := by rw [h]; exact hq
end
/-- an error class of the program's own, over ValueError, without an __init__ -/
structure ExF (K : PySem.W.Frag) (mg : Str → Option Value) (x : Str) : Prop where
  g : mg x = some (.ref (He.ga K x))
  q : PySem.W.excIn K (He.ga K x) He.veBase "ValueError.__new__" = true
  k : PySem.W.keepIn K (.ref (He.ga K x)) = true
  s : PySem.W.subIn K (.ref (He.ga K x)) (.type "BaseException") = some true
  t : PySem.W.typeIn K (.ref (He.ga K x)) = some (.type "type")
abbrev xcOf (K : PySem.W.Frag) (x : Str) : Xc := ⟨.ref (He.ga K x), none⟩
section
variable {X : Cx} {F0 : Hp} {Γ : Gm} {L : Lg} {k : Ks} {N Nc : List Str} {sc : Scope} {Z : Xc → Gm → Lg → Prop}
theorem sk_rz {x m : Str} {j : Nat} {p p2 pos2 pos : Pos} (c : Cf X N Nc sc F0 Z) (f : ExF X.K X.mg x) (h : Z (xcOf X.K x) Γ L) (hg : sc.names.lookup x = some .globalImplicit := by rfl) (hdb : (x == ("__debug__" : Str)) = false := by decide) :
    SK X F0 (.Raise (some (.Call (.Name x p) [.Constant (.str m) j p2] [] pos)) none pos2) Γ L k :=
  sk_raise c.calm c.tk f.q f.g f.k (raises_own f.s f.t) (c.toCn.gl hg) h hdb
end
end Vs

set_option Elab.async false
set_option linter.all false
set_option maxRecDepth 100000
set_option maxHeartbeats 4000000
namespace Vs
open PySem PySem.Spec PyProof.Rows L2
theorem Get.put {α : Type} {x y : α} : ∀ {xs : List α} {j : Nat}, Get xs j x → Put xs j y (xs.set j y)
  | _, _, .z => .z
  | _, _, .s g => .s g.put
theorem Get.got {α : Type} {x y : α} : ∀ {xs : List α} {j : Nat}, Get xs j x → Get (xs.set j y) j y
  | _, _, .z => .z
  | _, _, .s g => .s g.got
theorem sz_ok {n : Nat} (h : n ≤ 1000000) : n ≤ sizeLine := Nat.le_trans h (by decide)
theorem sz_lt {n : Nat} (h : n ≤ 1000000) : n < sizeLine := Nat.lt_of_le_of_lt h (by decide)
/-- facts of the module's top that the walk asks -/
theorem free_of {K : PySem.W.Frag} {h : Heap} {mg : Str → Option Value} (X : K.In h) (G : h.Ns mainGlobals mg) {x : Str} (c : (He.Fa.free x).ok K = true) : mg x = none := He.free_ok X G c
theorem exF_of {K : PySem.W.Frag} {h : Heap} {mg : Str → Option Value} (X : K.In h) (G : h.Ns mainGlobals mg) {x : Str} (c1 : (He.Fa.glo x).ok K = true) (c2 : (He.Fa.exc x).ok K = true) : ExF K mg x := by
  obtain ⟨h1, h2, h3, h4⟩ := He.exc_ok c2
  exact ⟨He.glo_ok X G c1, h1, h2, h3, h4⟩
structure ClF (K : PySem.W.Frag) (mg : Str → Option Value) (x : Str) : Prop where
  g : mg x = some (.ref (He.ga K x))
/-- what the class of a caught error tells (isinstance, except) -/
def excCB (K : PySem.W.Frag) (x : Str) : Bool :=
  He.eqO (PySem.W.findIn K (.ref (He.ga K x)) "__getattribute__") (some (some (.builtin "BaseException.__getattribute__"))) &&
  (He.eqO (PySem.W.findIn K (.ref (He.ga K x)) "__getattr__") (some none) &&
  (decide (PySem.W.subIn K (.ref (He.ga K x)) (.type "BaseException") = some true) &&
  (PySem.W.hasDictIn K (He.ga K x) &&
  (He.eqO (PySem.W.findIn K (.ref (He.ga K x)) "__class__") (some (some (.builtin "object.__class__"))) &&
  (He.eqO (PySem.W.specialIn K (.builtin "object.__class__") "__get__") (some (some (.builtin "getset_descriptor.__get__"))) &&
  (decide (PySem.W.takesIn K (.builtin "object.__class__") = some true) &&
  decide (PySem.W.mroIn K (He.ga K x) (.type "object") = some true)))))))
theorem excCB_ok {K : PySem.W.Frag} {x : Str} (h : excCB K x = true) : ExcC K (He.ga K x) := by
  unfold excCB at h
  obtain ⟨h1, h⟩ := He.ba h
  obtain ⟨h2, h⟩ := He.ba h
  obtain ⟨h3, h⟩ := He.ba h
  obtain ⟨h4, h⟩ := He.ba h
  obtain ⟨h5, h⟩ := He.ba h
  obtain ⟨h6, h⟩ := He.ba h
  obtain ⟨h7, h⟩ := He.ba h
  exact ⟨He.eqO_ok h1, He.eqO_ok h2, of_decide_eq_true h3, h4, He.eqO_ok h5, He.eqO_ok h6, of_decide_eq_true h7, of_decide_eq_true h⟩
/-- isinstance of an instance of the class x by the class y, or the built-in class n -/
def kitB1 (K : PySem.W.Frag) (x y : Str) (b : Bool) : Bool := decide (PySem.W.kitOne K (.ref (He.ga K x)) (.ref (He.ga K y)) = some b)
def kitB2 (K : PySem.W.Frag) (x : Str) (n : String) (b : Bool) : Bool := decide (PySem.W.kitOne K (.ref (He.ga K x)) (.type n) = some b)
theorem kitAll {K : PySem.W.Frag} {t : Value} : ∀ {us : List Value}, (∀ u ∈ us, PySem.W.kitOne K t u = some false) → PySem.W.kitAny K t us = some false
  | [], _ => rfl
  | u :: us, h => by
    unfold PySem.W.kitAny
    rw [h u List.mem_cons_self]
    exact kitAll fun v hv => h v (List.mem_cons_of_mem _ hv)
theorem kaN {K : PySem.W.Frag} {t : Value} : PySem.W.kitAny K t [] = some false := rfl
theorem kaF {K : PySem.W.Frag} {t u : Value} {us : List Value} (h : PySem.W.kitOne K t u = some false) (r : PySem.W.kitAny K t us = some false) : PySem.W.kitAny K t (u :: us) = some false := by
  unfold PySem.W.kitAny
  rw [h]
  exact r
theorem at_nat {α : Type} {xs : List α} {i : Int} {d : α} (h0 : 0 ≤ i) (h : xs[i.toNat]? = some d) : atI xs i = some d := by
  obtain ⟨hl, _⟩ := List.getElem?_eq_some_iff.mp h
  unfold atI ixN
  rw [if_pos h0, if_pos (by omega)]
  exact h
theorem ixN_at {n : Nat} {i : Int} (h0 : 0 ≤ i) (h : i < n) : ixN n i = some i.toNat := by
  unfold ixN
  rw [if_pos h0, if_pos h]
theorem Cal.imp {P : Program} {w : World} {K : PySem.W.Frag} {mg : Str → Option Value} {base : Heap} {n : Nat} {x : Str} {ps : List Str} {S S' : SpD} (G : Cal P w K mg base n x ps S) (h : ∀ ds L q e, S' ds L q e → S ds L q e) : Cal P w K mg base n x ps S' := by
  obtain ⟨f, fd, h1, h2, h3, F⟩ := G.ex
  exact ⟨f, fd, h1, h2, h3, F.imp fun vs H Q E ⟨F, ds, L, q, e, l, r, s, k1, k2⟩ => ⟨F, ds, L, q, e, l, r, h ds L q e s, k1, k2⟩⟩
end Vs

set_option Elab.async false
set_option linter.all false
set_option maxRecDepth 100000
set_option maxHeartbeats 4000000
namespace Vs
open PySem PySem.Spec PyProof.Rows L2
theorem Reps.rep {K : PySem.W.Frag} {F : Hp} {ds : List D} {vs : List V} (r : Reps K F ds vs) : ∀ n : Nat, Reps K F (List.replicate n ds).flatten (List.replicate n vs).flatten
  | 0 => .nil
  | n + 1 => by
    rw [List.replicate_succ, List.replicate_succ, List.flatten_cons, List.flatten_cons]
    exact r.append (r.rep n)
section
variable {X : Cx} {F0 : Hp} {Γ : Gm} {L : Lg} {k : D → Lg → Prop} {ka : List D → Lg → Prop} {kt : Bool → Lg → Prop} {e a b c o : Expr} {es rest : List Expr} {pos p2 apos cpos : Pos} {N Nc : List Str} {sc : Scope} {Z : Xc → Gm → Lg → Prop}
/-- [..] * n -/
theorem ek_repL (h : EaK X F0 es Γ L fun ds L1 => ds.length ≤ sizeLine ∧ EvK X F0 b Γ L1 fun y L2 => ∃ n, y = .int n ∧ (-9223372036854775808 ≤ n ∧ n < 9223372036854775808 ∧ ds.length * n.toNat ≤ sizeLine) ∧ k (.lst (List.replicate n.toNat ds).flatten) L2) :
    EvK X F0 (.BinOp (.List es p2) .Mult b pos) Γ L k := fun F σ H Q E q =>
  wpE.of (pe_op op_rep (pe_lst wa) we) (h F σ H _ E fun ds L1 F1 vs H1 ⟨hz, h1⟩ E1 s1 r1 => ⟨by rw [← r1.length]; exact hz, fun p hp => by
    have s2 : Same F1 (upd F1 p (.lst vs)) := same_new (E1.led.free hp)
    refine h1 _ σ _ _ (E1.new hp) fun y L2 F2 u H2 ⟨n, e1, ⟨b1, b2, b3⟩, h2⟩ E2 s3 r2 => ?_
    subst e1
    cases r2
    refine ⟨p, n, vs, rfl, rfl, E2.led.sub _ _ (s3 _ _ upd_same), by omega, by omega, by rw [← r1.length]; exact b3, fun m hm => ?_⟩
    have s4 : Same F2 (upd F2 m (.lst (List.replicate n.toNat vs).flatten)) := same_new (E2.led.free hm)
    exact q _ L2 _ _ _ h2 (E2.new hm) (s1.trans (s2.trans (s3.trans s4))) (.lst (.inl (.inl upd_same)) (((r1.mono s2).mono s3).mono s4 |>.rep n.toNat))⟩)
/-- list(xs), to be changed -/
theorem ek_listO {p : Pos} (hm : X.mg "list" = none) (hg : Gl X "list") (h : EvK X F0 e Γ L fun x L1 => ∃ ds, (AsL L1 x ds ∨ x = .tup ds) ∧ ∀ p, k (.ref p) ((p, .lst ds) :: L1))
    (he : starEach [e] X.env = (false, eval e X.env) :: starEach [] X.env := by rfl) (hpl : (backTo pos (starEach [] X.env)).any (·.1) = false := by rfl) : EvK X F0 (.Call (.Name "list" p) [e] [] pos) Γ L k := fun F σ H Q E q =>
  wpE.of (pe_callTy call_list_of hg hm boot_list (pa_cons we pa_nil he) (by decide) (by decide) he hpl) (h F σ H _ E fun x L1 F1 v H1 ⟨ds, e2, h1⟩ E1 s1 r1 => by
    rcases e2 with e2 | e2
    · obtain ⟨p, xs, rfl, hx, rx⟩ := e2.read E1.led r1
      exact ⟨p, xs, rfl, .inl hx, fun n hn => q _ _ F1 _ _ (h1 n) (E1.to (Same.refl F1) (E1.led.newL hn rx)) s1 .ref⟩
    · subst e2
      cases r1 with
      | tup hx rx => exact ⟨_, _, rfl, .inr (seqT E1.led.sub hx), fun n hn => q _ _ F1 _ _ (h1 n) (E1.to (Same.refl F1) (E1.led.newL hn rx)) s1 .ref⟩)
theorem ek_isB (h : EvK X F0 a Γ L fun x L1 => ∃ i, x = .bl i ∧ EvK X F0 b Γ L1 fun y L2 => ∃ j, y = .bl j ∧ k (.bl (decide (i = j))) L2) (hm : behindInMarks .Is b = false := by rfl) : EvK X F0 (.Compare a [.Is] [b] pos) Γ L k := fun F σ H Q E q =>
  wpE.of (pe_cmpR op_is_bl we we hm) (h F σ H _ E fun x L1 F1 v H1 ⟨i, e1, h1⟩ E1 s1 r1 => h1 F1 σ H1 _ E1 fun y L2 F2 u H2 ⟨j, e2, h2⟩ E2 s2 r2 => by
    subst e1 e2
    cases r1
    cases r2
    exact ⟨i, j, rfl, rfl, q _ L2 F2 _ H2 h2 E2 (s1.trans s2) .bl⟩)
theorem ek_isnotB (h : EvK X F0 a Γ L fun x L1 => ∃ i, x = .bl i ∧ EvK X F0 b Γ L1 fun y L2 => ∃ j, y = .bl j ∧ k (.bl (!decide (i = j))) L2) (hm : behindInMarks .IsNot b = false := by rfl) : EvK X F0 (.Compare a [.IsNot] [b] pos) Γ L k := fun F σ H Q E q =>
  wpE.of (pe_cmpR op_isnot_bl we we hm) (h F σ H _ E fun x L1 F1 v H1 ⟨i, e1, h1⟩ E1 s1 r1 => h1 F1 σ H1 _ E1 fun y L2 F2 u H2 ⟨j, e2, h2⟩ E2 s2 r2 => by
    subst e1 e2
    cases r1
    cases r2
    exact ⟨i, j, rfl, rfl, q _ L2 F2 _ H2 h2 E2 (s1.trans s2) .bl⟩)
theorem et_isB (h : EvK X F0 a Γ L fun x L1 => ∃ i, x = .bl i ∧ EvK X F0 b Γ L1 fun y L2 => ∃ j, y = .bl j ∧ kt (decide (i = j)) L2) (hm : behindInMarks .Is b = false := by rfl) : EtK X F0 (.Compare a [.Is] [b] pos) Γ L kt := fun F σ H Q E q =>
  wpT.of (pt_cmpR op_is_bl we we hm) (h F σ H _ E fun x L1 F1 v H1 ⟨i, e1, h1⟩ E1 s1 r1 => h1 F1 σ H1 _ E1 fun y L2 F2 u H2 ⟨j, e2, h2⟩ E2 s2 r2 => by
    subst e1 e2
    cases r1
    cases r2
    exact ⟨i, j, rfl, rfl, _, rfl, q _ L2 F2 H2 h2 E2 (s1.trans s2)⟩)
theorem et_isnotB (h : EvK X F0 a Γ L fun x L1 => ∃ i, x = .bl i ∧ EvK X F0 b Γ L1 fun y L2 => ∃ j, y = .bl j ∧ kt (!decide (i = j)) L2) (hm : behindInMarks .IsNot b = false := by rfl) : EtK X F0 (.Compare a [.IsNot] [b] pos) Γ L kt := fun F σ H Q E q =>
  wpT.of (pt_cmpR op_isnot_bl we we hm) (h F σ H _ E fun x L1 F1 v H1 ⟨i, e1, h1⟩ E1 s1 r1 => h1 F1 σ H1 _ E1 fun y L2 F2 u H2 ⟨j, e2, h2⟩ E2 s2 r2 => by
    subst e1 e2
    cases r1
    cases r2
    exact ⟨i, j, rfl, rfl, _, rfl, q _ L2 F2 H2 h2 E2 (s1.trans s2)⟩)
theorem ek_max2 {p : Pos} (hc : X.calm = true) (hm : X.mg "max" = none) (hg : Gl X "max") (h : EvK X F0 a Γ L fun x L1 => ∃ i, x = .int i ∧ EvK X F0 b Γ L1 fun y L2 => ∃ j, y = .int j ∧ k (.int (if j > i then j else i)) L2)
    (he : starEach [a, b] X.env = (false, eval a X.env) :: starEach [b] X.env := by rfl) (he2 : starEach [b] X.env = (false, eval b X.env) :: starEach [] X.env := by rfl) (hpl : (backTo pos (starEach [b] X.env)).any (·.1) = false := by rfl) :
    EvK X F0 (.Call (.Name "max" p) [a, b] [] pos) Γ L k := fun F σ H Q E q =>
  wpE.of (pe_callB (call_max2 hc) hg hm (by decide +kernel) (pa_cons we (pa_cons we pa_nil he2) he) (by decide) (by decide) he hpl) (h F σ H _ E fun x L1 F1 v H1 ⟨i, e1, h1⟩ E1 s1 r1 => h1 F1 σ H1 _ E1 fun y L2 F2 u H2 ⟨j, e2, h2⟩ E2 s2 r2 => by
    subst e1 e2
    cases r1
    cases r2
    exact ⟨i, j, rfl, q _ L2 F2 _ H2 h2 E2 (s1.trans s2) .int⟩)
theorem ek_min2 {p : Pos} (hc : X.calm = true) (hm : X.mg "min" = none) (hg : Gl X "min") (h : EvK X F0 a Γ L fun x L1 => ∃ i, x = .int i ∧ EvK X F0 b Γ L1 fun y L2 => ∃ j, y = .int j ∧ k (.int (if j < i then j else i)) L2)
    (he : starEach [a, b] X.env = (false, eval a X.env) :: starEach [b] X.env := by rfl) (he2 : starEach [b] X.env = (false, eval b X.env) :: starEach [] X.env := by rfl) (hpl : (backTo pos (starEach [b] X.env)).any (·.1) = false := by rfl) :
    EvK X F0 (.Call (.Name "min" p) [a, b] [] pos) Γ L k := fun F σ H Q E q =>
  wpE.of (pe_callB (call_min2 hc) hg hm (by decide +kernel) (pa_cons we (pa_cons we pa_nil he2) he) (by decide) (by decide) he hpl) (h F σ H _ E fun x L1 F1 v H1 ⟨i, e1, h1⟩ E1 s1 r1 => h1 F1 σ H1 _ E1 fun y L2 F2 u H2 ⟨j, e2, h2⟩ E2 s2 r2 => by
    subst e1 e2
    cases r1
    cases r2
    exact ⟨i, j, rfl, q _ L2 F2 _ H2 h2 E2 (s1.trans s2) .int⟩)
theorem ek_all {p : Pos} (hc : X.calm = true) (hm : X.mg "all" = none) (hg : Gl X "all") (h : EvK X F0 e Γ L fun x L1 => ∃ bs : List Bool, AsL L1 x (bs.map D.bl) ∧ k (.bl (bs.all id)) L1)
    (he : starEach [e] X.env = (false, eval e X.env) :: starEach [] X.env := by rfl) (hpl : (backTo pos (starEach [] X.env)).any (·.1) = false := by rfl) : EvK X F0 (.Call (.Name "all" p) [e] [] pos) Γ L k := fun F σ H Q E q =>
  wpE.of (pe_callB (cr_all hc) hg hm (by decide +kernel) (pa_cons we pa_nil he) (by decide) (by decide) he hpl) (h F σ H _ E fun x L1 F1 v H1 ⟨bs, e2, h1⟩ E1 s1 r1 => by
    obtain ⟨p, xs, rfl, hx, rx⟩ := e2.read E1.led r1
    have e3 := bls_reps rx
    subst e3
    exact ⟨p, bs, rfl, hx, q _ L1 F1 _ H1 h1 E1 s1 .bl⟩)
theorem ek_any {p : Pos} (hc : X.calm = true) (hm : X.mg "any" = none) (hg : Gl X "any") (h : EvK X F0 e Γ L fun x L1 => ∃ bs : List Bool, AsL L1 x (bs.map D.bl) ∧ k (.bl (bs.any id)) L1)
    (he : starEach [e] X.env = (false, eval e X.env) :: starEach [] X.env := by rfl) (hpl : (backTo pos (starEach [] X.env)).any (·.1) = false := by rfl) : EvK X F0 (.Call (.Name "any" p) [e] [] pos) Γ L k := fun F σ H Q E q =>
  wpE.of (pe_callB (cr_any hc) hg hm (by decide +kernel) (pa_cons we pa_nil he) (by decide) (by decide) he hpl) (h F σ H _ E fun x L1 F1 v H1 ⟨bs, e2, h1⟩ E1 s1 r1 => by
    obtain ⟨p, xs, rfl, hx, rx⟩ := e2.read E1.led r1
    have e3 := bls_reps rx
    subst e3
    exact ⟨p, bs, rfl, hx, q _ L1 F1 _ H1 h1 E1 s1 .bl⟩)

theorem Led.perm {K : PySem.W.Frag} {F H : Hp} {L L' : Lg} (e : Led K F L H) (p : L.Perm L') : Led K F L' H := ⟨e.sub, (p.map _).nodup_iff.mp e.nod, fun q hq => e.ent q (p.mem_iff.mpr hq)⟩
theorem rd_lcO {elt tg iter : Expr} {ifs : List Expr} {bs : Scope} (own : List (Str × Nat)) {M : List Str} {sc' : Scope} (hM : X.N = M) (nd : M.Nodup) (hc : X.calm = true)
    (h : EiK X F0 tg iter Γ L fun ds L1 => ∃ Pv : Nat → List D → Lg → Prop, Pv 0 [] L1 ∧ ds.length ≤ 1000000 ∧
      (∀ (F1 : UpH F0) (n : Nat) (d : D) (acc : List D) (Lc : Lg) (Dp : Addr), ds[n]? = some d → acc.length ≤ n → Pv n acc Lc →
        (∀ X', Cb X' M sc' bs → (∃ s H C cl fp, X' = X.blk s H bs (compEnvC bs cl C X.env) fp) → TbK X' F1.h tg (own.map (·.2)) d (wipeG Γ (own.map (·.2))) (Lc ++ [(Dp, .lst acc)]) fun Γ2 L2 =>
          (∀ X', Cb X' M sc' bs → (∃ s H C cl fp, X' = X.blk s H bs (compEnvC bs cl C X.env) fp) → EsK X' F1.h ifs Γ2 L2 fun t L3 =>
            (t = true → ∀ X', Cb X' M sc' bs → (∃ s H C cl fp, X' = X.blk s H bs (compEnvC bs cl C X.env) fp) → EvK X' F1.h elt Γ2 L3 fun y L4 => ∃ L5, L4 = L5 ++ [(Dp, .lst acc)] ∧ Pv (n + 1) (acc ++ [y]) L5) ∧
            (t = false → ∃ L5, L3 = L5 ++ [(Dp, .lst acc)] ∧ Pv (n + 1) acc L5)))) ∧ (∀ acc L' Dp, Pv ds.length acc L' → acc.length ≤ ds.length → k (.ref Dp) ((Dp, .lst acc) :: L')))
    : RdK X F0 (tLc (wpI X tg iter) (gS X bs tg) (tS X bs ifs) (eS X bs elt) (own.map (·.2))) Γ L k := fun F σ H Q E q => by
  refine h F σ H _ E fun ds L1 F1 H1 J ⟨Pv, h0, hds, hb, hk⟩ E1 s1 it => ?_
  intro Dp hD
  refine ⟨fun i m H => i + m = ds.length ∧ ∃ F acc Lc, Same F1 F ∧ acc.length ≤ i ∧ Pv i acc Lc ∧ At X.K F0 F Γ (Lc ++ [(Dp, .lst acc)]) σ H, ⟨ds.length, by omega, F1, [], L1, Same.refl F1, Nat.le_refl _, h0, E1.to (Same.refl F1) (E1.led.last hD .nil)⟩, ?_⟩
  rintro i m H2 ⟨hm, F2, acc, Lc, s2, hacc, hP, E2⟩
  by_cases hi : i < ds.length
  · refine .inr ⟨it.go i H2 F2 _ hi s2 E2.led, fun H' => ∃ F acc Lc, Same F1 F ∧ acc.length ≤ i + 1 ∧ Pv (i + 1) acc Lc ∧ At X.K F0 F Γ (Lc ++ [(Dp, .lst acc)]) σ H', fun H' ⟨F3, a, b, c, d, e, f⟩ => ⟨m - 1, by omega, by omega, F3, a, b, c, d, e, f⟩, fun x H' hy => ?_⟩
    obtain ⟨d, F3, hdi, s3, l3, r3⟩ := it.yld i H2 x H' F2 _ s2 E2.led hy hi
    have E3 := E2.to s3 l3
    intro s0 H0 C0 cl0 fp0
    refine hb ⟨F1, E1.ge⟩ i d acc Lc Dp hdi hacc hP _ (blk_okM hM nd hc) ⟨s0, H0, C0, cl0, fp0, rfl⟩ F3 (wipe σ (own.map (·.2))) H' x _ ⟨s2.trans s3, E3.led, E3.sl.wipe _⟩ r3 ?_
    rintro Γ4 L4 F4 σ4 H4 h4 E4 s4 hw
    refine ⟨by rw [hw]; refine List.ext_getElem? fun z => ?_; by_cases hz : z ∈ own.map (·.2); (rw [wipe_in hz, wipe_in hz, wipe_length]); (rw [wipe_out hz]), ?_⟩
    intro s0 H0 C0 cl0 fp0
    refine h4 _ (blk_okM hM nd hc) ⟨s0, H0, C0, cl0, fp0, rfl⟩ F4 σ4 H4 _ E4 ?_
    rintro t L5 F5 H5 ⟨h5, h6⟩ E5 s5
    cases t with
    | false =>
      rw [if_neg Bool.false_ne_true]
      obtain ⟨L6, rfl, hP'⟩ := h6 rfl
      exact ⟨F5, acc, L6, E5.ge, by omega, hP', E3.to (s4.trans s5) E5.led⟩
    | true =>
      rw [if_pos rfl]
      intro s0 H0 C0 cl0 fp0
      refine h5 rfl _ (blk_okM hM nd hc) ⟨s0, H0, C0, cl0, fp0, rfl⟩ F5 σ4 H5 _ E5 ?_
      rintro y L6 F6 v6 H6 ⟨L7, rfl, hP'⟩ E6 s6 r6
      have g := get_last (x := (Dp, C.lst acc)) L7
      obtain ⟨xs, hx, rx⟩ := E6.led.lst g
      refine ⟨xs, hx, ?_, F6, acc ++ [y], L7, E6.ge, ?_, hP', ?_⟩
      · rw [← rx.length]
        exact Nat.lt_of_le_of_lt (Nat.le_trans hacc (by omega : i ≤ 1000000)) (by decide)
      · rw [List.length_append]
        exact Nat.add_le_add_right hacc 1
      · exact E3.to (s4.trans (s5.trans s6)) (E6.led.put g (put_last L7) ⟨_, upd_same, rx.append (.cons r6 .nil)⟩)
  · have e : i = ds.length := by omega
    subst e
    refine .inl ⟨it.stop _ H2 F2 _ (Nat.le_refl _) s2 E2.led, ?_⟩
    exact q _ _ _ _ _ (hk acc Lc Dp hP hacc) (E2.to (Same.refl F2) (E2.led.perm (List.perm_append_comm.trans (List.Perm.refl _)))) (s1.trans s2) .ref
theorem ek_lcO {elt tg iter : Expr} {ifs : List Expr} {bs : Scope} (own : List (Str × Nat)) (cf : Cn X N Nc sc) (hc : X.calm = true) (ok : blkC (N ++ Nc) sc bs own = true)
    (h : EiK X F0 tg iter Γ L fun ds L1 => ∃ Pv : Nat → List D → Lg → Prop, Pv 0 [] L1 ∧ ds.length ≤ 1000000 ∧
      (∀ (F1 : UpH F0) (n : Nat) (d : D) (acc : List D) (Lc : Lg) (Dp : Addr), ds[n]? = some d → acc.length ≤ n → Pv n acc Lc →
        (∀ X', Cb X' (N ++ Nc) sc bs → (∃ s H C cl fp, X' = X.blk s H bs (compEnvC bs cl C X.env) fp) → TbK X' F1.h tg (own.map (·.2)) d (wipeG Γ (own.map (·.2))) (Lc ++ [(Dp, .lst acc)]) fun Γ2 L2 =>
          (∀ X', Cb X' (N ++ Nc) sc bs → (∃ s H C cl fp, X' = X.blk s H bs (compEnvC bs cl C X.env) fp) → EsK X' F1.h ifs Γ2 L2 fun t L3 =>
            (t = true → ∀ X', Cb X' (N ++ Nc) sc bs → (∃ s H C cl fp, X' = X.blk s H bs (compEnvC bs cl C X.env) fp) → EvK X' F1.h elt Γ2 L3 fun y L4 => ∃ L5, L4 = L5 ++ [(Dp, .lst acc)] ∧ Pv (n + 1) (acc ++ [y]) L5) ∧
            (t = false → ∃ L5, L3 = L5 ++ [(Dp, .lst acc)] ∧ Pv (n + 1) acc L5)))) ∧ (∀ acc L' Dp, Pv ds.length acc L' → acc.length ≤ ds.length → k (.ref Dp) ((Dp, .lst acc) :: L')))
    (hs : ∀ x, foldedSetIterable iter X.env x = pure x := by intro _; rfl) : EvK X F0 (.ListComp elt [⟨tg, iter, ifs, 0⟩] bs pos) Γ L k :=
  (rd_lcO own cf.n cf.nd hc h).ev (pe_lc (own := own) hc (by rw [cf.n]; exact cf.nd) wi (by rw [cf.n, cf.scp]; exact blkOk_by ok) pgS ptS peS hs)
theorem sk_setLcO {elt tg iter : Expr} {ifs : List Expr} {bs : Scope} {ks : Ks} {j : Nat} {y : Str} {py spos : Pos} (own : List (Str × Nat)) (cf : Cn X N Nc sc) (hc : X.calm = true) (ok : blkC (N ++ Nc) sc bs own = true)
    (h : EiK X F0 tg iter Γ L fun ds L1 => ∃ Pv : Nat → List D → Lg → Prop, Pv 0 [] L1 ∧ ds.length ≤ 1000000 ∧
      (∀ (F1 : UpH F0) (n : Nat) (d : D) (acc : List D) (Lc : Lg) (Dp : Addr), ds[n]? = some d → acc.length ≤ n → Pv n acc Lc →
        (∀ X', Cb X' (N ++ Nc) sc bs → (∃ s H C cl fp, X' = X.blk s H bs (compEnvC bs cl C X.env) fp) → TbK X' F1.h tg (own.map (·.2)) d (wipeG Γ (own.map (·.2))) (Lc ++ [(Dp, .lst acc)]) fun Γ2 L2 =>
          (∀ X', Cb X' (N ++ Nc) sc bs → (∃ s H C cl fp, X' = X.blk s H bs (compEnvC bs cl C X.env) fp) → EsK X' F1.h ifs Γ2 L2 fun t L3 =>
            (t = true → ∀ X', Cb X' (N ++ Nc) sc bs → (∃ s H C cl fp, X' = X.blk s H bs (compEnvC bs cl C X.env) fp) → EvK X' F1.h elt Γ2 L3 fun y L4 => ∃ L5, L4 = L5 ++ [(Dp, .lst acc)] ∧ Pv (n + 1) (acc ++ [y]) L5) ∧
            (t = false → ∃ L5, L3 = L5 ++ [(Dp, .lst acc)] ∧ Pv (n + 1) acc L5)))) ∧ (∀ acc L' Dp, Pv ds.length acc L' → acc.length ≤ ds.length → ∃ Γ', Put Γ j (some (.ref Dp)) Γ' ∧ ks.nx Γ' ((Dp, .lst acc) :: L')))
    (hj : N[j]? = some y := by rfl) (hyl : sc.names.lookup y = some .local := by rfl)
    (hl : (py.line == pos.line) = true := by rfl) (hn : (bs.names.any fun (n, k) => n == y && (k == .local || k == .cell)) = false := by decide +kernel) (hk : sc.kind = .function := by rfl)
    (hs : ∀ x, foldedSetIterable iter X.env x = pure x := by intro _; rfl) : SK X F0 (.Assign [.Name y py] (.ListComp elt [⟨tg, iter, ifs, 0⟩] bs pos) spos) Γ L ks := fun F σ H Dn E q =>
  wpS.of (ps_setLc (own := own) hc (by rw [cf.n]; exact cf.nd) (by rw [cf.n]; exact get_app hj) (by rw [cf.scp]; exact hyl) (sw_true (by rw [cf.scp]; exact hk) (by rw [cf.scp]; exact hyl) hl hn) wi (by rw [cf.n, cf.scp]; exact blkOk_by ok) pgS ptS peS hs)
    (rd_lcO own cf.n cf.nd hc (k := fun d L' => ∃ Γ', Put Γ j (some d) Γ' ∧ ks.nx Γ' L') h F σ H _ E fun d L1 F1 v H1 ⟨Γ', hp, h1⟩ E1 s1 r1 => q.nx Γ' L1 F1 _ H1 h1 ⟨E1.ge, E1.led, E1.sl.put r1 hp⟩)

end
/-! ### what was changed stands still from here on -/
inductive Rem {α : Type} : List α → Nat → α → List α → Prop
  | z {x : α} {xs : List α} : Rem (x :: xs) 0 x xs
  | s {x y : α} {xs ys : List α} {i : Nat} : Rem xs i y ys → Rem (x :: xs) (i + 1) y (x :: ys)
theorem Rem.get {α : Type} {x : α} : ∀ {xs ys : List α} {i : Nat}, Rem xs i x ys → Get xs i x
  | _, _, _, .z => .z
  | _, _, _, .s r => .s r.get
theorem Rem.sub {α : Type} {x : α} : ∀ {xs ys : List α} {i : Nat}, Rem xs i x ys → ys.Sublist xs
  | _, _, _, .z => List.sublist_cons_self _ _
  | _, _, _, .s r => r.sub.cons_cons _
theorem Rem.ne {a : Addr} {c : C} : ∀ {L L' : Lg} {i : Nat}, (L.map (·.1)).Nodup → Rem L i (a, c) L' → ∀ p ∈ L', p.1 ≠ a
  | _, _, _, nd, .z => fun p hp z => by
    rw [List.map_cons] at nd
    exact (List.nodup_cons.mp nd).1 (z ▸ List.mem_map_of_mem (f := (·.1)) hp)
  | _, _, _, nd, .s r => fun p hp => by
    rw [List.map_cons] at nd
    have nd' := List.nodup_cons.mp nd
    rcases List.mem_cons.mp hp with rfl | hp
    · intro z
      exact nd'.1 (z ▸ Get.mem' (f := (·.1)) r.get)
    · exact Rem.ne nd'.2 r p hp
theorem Led.frz {K : PySem.W.Frag} {F H : Hp} {L L' : Lg} {q : Addr} {ds : List D} {j : Nat} (e : Led K F L H) (r : Rem L j (q, .lst ds) L') : ∃ xs, Led K (upd F q (.lst xs)) L' H ∧ Same F (upd F q (.lst xs)) ∧ Reps K F ds xs := by
  obtain ⟨xs, h1, h2⟩ := e.lst r.get
  have fq : F q = none := (e.ent _ r.get.mem).1
  have s1 : Same F (upd F q (.lst xs)) := same_new fq
  refine ⟨xs, ⟨fun b u z => ?_, (r.sub.map _).nodup e.nod, fun p hp => ?_⟩, s1, h2⟩
  · by_cases hb : b = q
    · subst hb; rw [upd_same] at z; rw [h1]; exact z
    · rw [upd_ne hb] at z; exact e.sub b u z
  · obtain ⟨a1, a2⟩ := e.ent p (r.sub.subset hp)
    exact ⟨(upd_ne (Rem.ne e.nod r p hp)).trans a1, a2.mono s1 rfl⟩
section
variable {X : Cx} {F0 : Hp} {Γ Γ' : Gm} {L L' : Lg} {k : Ks} {ss : List Stmt}
/-- the list at p, in slot i: frozen -/
theorem bk_frz {p : Addr} {ds : List D} {i j : Nat} (g : Get Γ i (some (.ref p))) (r : Rem L j (p, .lst ds) L') (pt : Put Γ i (some (.lst ds)) Γ') (h : BK X F0 ss Γ' L' k) : BK X F0 ss Γ L k := fun F σ H Dn E q => by
  obtain ⟨xs, l, s1, rr⟩ := E.led.frz r
  refine h _ σ H Dn ⟨E.ge.trans s1, l, ?_⟩ q
  have sl := E.sl.mono s1
  obtain ⟨v, h1, h2⟩ := sl.get g
  cases h2
  have sp := sl.put (Rep.lst (ds := ds) (.inl (.inl upd_same)) (rr.mono s1) : Rep X.K (upd F p (.lst xs)) (.lst ds) (.ref p)) pt
  have e : σ.set i (some (.ref p)) = σ := by
    refine List.ext_getElem? fun z => ?_
    rw [List.getElem?_set]
    by_cases hz : i = z
    · rw [if_pos hz]
      subst hz
      have hl : i < σ.length := (List.getElem?_eq_some_iff.mp h1).1
      rw [if_pos hl, h1]
    · rw [if_neg hz]
  rw [e] at sp
  exact sp
/-- forget an entry of the ledger -/
theorem bk_drop {x : Addr × C} {j : Nat} (r : Rem L j x L') (h : BK X F0 ss Γ L' k) : BK X F0 ss Γ L k := fun F σ H Dn E q =>
  h F σ H Dn ⟨E.ge, ⟨E.led.sub, (r.sub.map _).nodup E.led.nod, fun p hp => E.led.ent p (r.sub.subset hp)⟩, E.sl⟩ q
end
end Vs

set_option Elab.async false
set_option linter.all false
set_option maxRecDepth 100000
set_option maxHeartbeats 4000000
namespace Vs
open PySem PySem.Spec PyProof.Rows L2
/-! ### lists of numbers -/
theorem dI_get {xs : List Int} {i : Nat} {d : D} (h : (dI xs)[i]? = some d) : ∃ v, xs[i]? = some v ∧ d = .int v := by
  rw [List.getElem?_map] at h
  cases z : xs[i]? with
  | none => rw [z] at h; cases h
  | some v => rw [z] at h; exact ⟨v, rfl, (Option.some.inj h).symm⟩
theorem at_dI {xs : List Int} {i : Int} {v : Int} (h0 : 0 ≤ i) (h : xs[i.toNat]? = some v) : atI (dI xs) i = some (.int v) := at_nat h0 (by rw [List.getElem?_map, h]; rfl)
theorem at_dIn {xs : List Int} {n : Nat} {v : Int} (h : xs[n]? = some v) : atI (dI xs) (0 + (n : Int)) = some (.int v) := by
  have e : (0 + (n : Int)).toNat = n := by omega
  exact at_dI (by omega) (by rw [e]; exact h)
theorem at_dIk {xs : List Int} {n : Nat} {v : Int} (h : xs[n]? = some v) : atI (dI xs) (n : Int) = some (.int v) := at_dI (by omega) (by rw [Int.toNat_natCast]; exact h)
theorem dI_app {xs : List Int} {v : Int} : dI xs ++ [D.int v] = dI (xs ++ [v]) := by
  show xs.map D.int ++ [v].map D.int = (xs ++ [v]).map D.int
  exact List.map_append.symm
theorem dI_len {xs : List Int} : (dI xs).length = xs.length := List.length_map _
theorem dI_set {xs : List Int} {j : Nat} {v : Int} : (dI xs).set j (D.int v) = dI (xs.set j v) := List.map_set.symm
theorem cut_to {xs : List D} {n : Int} (h : 0 ≤ n) : cutD xs none (some n) = xs.take n.toNat := by
  obtain ⟨m, rfl⟩ : ∃ m : Nat, n = m := ⟨n.toNat, by omega⟩
  unfold cutD
  rw [HT.sIx_none, HT.sIx_nat, List.drop_zero, Int.toNat_natCast, Nat.sub_zero]
  by_cases hm : m ≤ xs.length
  · rw [Nat.min_eq_left hm]
  · rw [Nat.min_eq_right (by omega), List.take_of_length_le (Nat.le_refl _), List.take_of_length_le (by omega)]
theorem cut_from {xs : List D} {n : Int} (h : 0 ≤ n) : cutD xs (some n) none = xs.drop n.toNat := by
  obtain ⟨m, rfl⟩ : ∃ m : Nat, n = m := ⟨n.toNat, by omega⟩
  unfold cutD
  rw [HT.sIx_none, HT.sIx_nat, Int.toNat_natCast]
  by_cases hm : m ≤ xs.length
  · rw [Nat.min_eq_left hm, List.take_of_length_le (by rw [List.length_drop]; omega)]
  · rw [Nat.min_eq_right (by omega), List.drop_of_length_le (Nat.le_refl _), List.drop_of_length_le (by omega), List.take_nil]
theorem cut_dI {xs : List Int} {n : Int} (h : 0 ≤ n) : cutD (dI xs) none (some n) = dI (xs.take n.toNat) := by rw [cut_to h]; exact List.map_take.symm
theorem cut_dI' {xs : List Int} {n : Int} (h : 0 ≤ n) : cutD (dI xs) (some n) none = dI (xs.drop n.toNat) := by rw [cut_from h]; exact List.map_drop.symm
/-! ### == of data -/
theorem dpds_dI {L : Lg} : ∀ {xs : List Int}, Dpds L (dI xs) (xs.map PyData.int)
  | [] => .nil
  | _ :: _ => .cons .int dpds_dI
theorem dpd_as {L : Lg} {x : D} {xs : List Int} (h : AsL L x (dI xs)) : Dpd L x (.list (xs.map PyData.int)) := by
  generalize hd : dI xs = ds at h
  cases h with
  | lst => subst hd; exact .lst dpds_dI
  | own g => subst hd; exact .own g dpds_dI
theorem eqv_ints : ∀ {xs ys : List Int}, PyData.eqvAll (xs.map PyData.int) (ys.map PyData.int) = decide (xs = ys)
  | [], [] => by simp [PyData.eqvAll]
  | [], _ :: _ => by simp [PyData.eqvAll]
  | _ :: _, [] => by simp [PyData.eqvAll]
  | x :: xs, y :: ys => by
    simp only [List.map_cons, PyData.eqvAll, PyData.eqv]
    rw [eqv_ints]
    by_cases h : x = y
    · subst h; simp
    · simp [h]
theorem eqv_dI {xs ys : List Int} : PyData.eqv (.list (xs.map PyData.int)) (.list (ys.map PyData.int)) = decide (xs = ys) := by
  simp only [PyData.eqv]
  exact eqv_ints
/-- data of a depth -/
def Shp (k : Nat) (d : PyData) : Prop := d.canLay0 = true ∧ d.depth ≤ k
theorem shp_ok {k : Nat} {d : PyData} (h : Shp k d) (hk : k ≤ 64) : SeqAt.shaped d = true := by
  unfold SeqAt.shaped
  rw [h.1, Bool.true_and]
  exact decide_eq_true (Nat.le_trans h.2 hk)
theorem shp_refl {k : Nat} {d : PyData} (h : Shp k d) : PyData.eqv d d = true := SeqAt.eqv_refl d h.1
theorem shpAll {k : Nat} : ∀ {ds : List PyData}, (∀ d ∈ ds, Shp k d) → PyData.canLayAll0 ds = true ∧ PyData.depthAll ds ≤ k
  | [], _ => ⟨rfl, Nat.zero_le _⟩
  | d :: ds, h => by
    obtain ⟨h1, h2⟩ := h d List.mem_cons_self
    obtain ⟨h3, h4⟩ := shpAll fun e he => h e (List.mem_cons_of_mem _ he)
    refine ⟨?_, ?_⟩
    · simp only [PyData.canLayAll0, h1, h3, Bool.and_self]
    · simp only [PyData.depthAll]
      exact Nat.max_le.mpr ⟨h2, h4⟩
theorem shp_lst {k : Nat} {ds : List PyData} (h : ∀ d ∈ ds, Shp k d) : Shp (k + 1) (.list ds) := by
  obtain ⟨h1, h2⟩ := shpAll h
  exact ⟨by simp only [PyData.canLay0]; exact h1, by simp only [PyData.depth]; omega⟩
theorem shp_tup {k : Nat} {ds : List PyData} (h : ∀ d ∈ ds, Shp k d) : Shp (k + 1) (.tuple ds) := by
  obtain ⟨h1, h2⟩ := shpAll h
  exact ⟨by simp only [PyData.canLay0]; exact h1, by simp only [PyData.depth]; omega⟩
theorem shp_int {k : Nat} {i : Int} : Shp k (.int i) := ⟨by simp only [PyData.canLay0], by simp only [PyData.depth]; exact Nat.zero_le _⟩
theorem shp_bl {k : Nat} {b : Bool} : Shp k (.bool b) := ⟨by simp only [PyData.canLay0], by simp only [PyData.depth]; exact Nat.zero_le _⟩
theorem shp_non {k : Nat} : Shp k .none := ⟨by simp only [PyData.canLay0], by simp only [PyData.depth]; exact Nat.zero_le _⟩
theorem shp_dI {k : Nat} {xs : List Int} : Shp (k + 1) (.list (xs.map PyData.int)) := shp_lst fun d hd => by
  obtain ⟨x, _, rfl⟩ := List.mem_map.mp hd
  exact shp_int
theorem Shp.up {k j : Nat} {d : PyData} (h : Shp k d) (hj : k ≤ j) : Shp j d := ⟨h.1, Nat.le_trans h.2 hj⟩
theorem shaped_dI {xs : List Int} : SeqAt.shaped (.list (xs.map PyData.int)) = true := shp_ok (k := 1) shp_dI (by decide)
/-- lists of lists of numbers -/
abbrev dII (xss : List (List Int)) : List D := xss.map fun xs => D.lst (dI xs)
abbrev pI (xs : List Int) : PyData := .list (xs.map PyData.int)
theorem dpds_dII {L : Lg} : ∀ {xss : List (List Int)}, Dpds L (dII xss) (xss.map pI)
  | [] => .nil
  | _ :: _ => .cons (.lst dpds_dI) dpds_dII
theorem shp_dII {k : Nat} {xss : List (List Int)} : Shp (k + 2) (.list (xss.map pI)) := shp_lst fun d hd => by
  obtain ⟨x, _, rfl⟩ := List.mem_map.mp hd
  exact shp_dI
theorem eqv_iis : ∀ {xs ys : List (List Int)}, PyData.eqvAll (xs.map pI) (ys.map pI) = decide (xs = ys)
  | [], [] => by simp [PyData.eqvAll]
  | [], _ :: _ => by simp [PyData.eqvAll]
  | _ :: _, [] => by simp [PyData.eqvAll]
  | x :: xs, y :: ys => by
    simp only [List.map_cons, PyData.eqvAll]
    rw [eqv_iis, eqv_dI]
    by_cases h : x = y
    · subst h; simp
    · simp [h]
end Vs

set_option Elab.async false
set_option linter.all false
set_option maxRecDepth 100000
set_option maxHeartbeats 4000000
namespace Vs
open PySem PySem.Spec PyProof.Rows L2
section
variable {X : Cx} {F0 : Hp} {Γ : Gm} {L : Lg} {k : Ks} {e a b c o i tg iter : Expr} {st : Stmt} {rest body orelse : List Stmt} {pos p' : Pos} {N Nc : List Str} {sc : Scope} {Z : Xc → Gm → Lg → Prop}
/-- for tg in xs, xs a list of the ledger that stays as it is -/
theorem sk_forO (cf : Cf X N Nc sc F0 Z) (h : EvK X F0 a Γ L fun x L1 => ∃ p ds, x = .ref p ∧ ∃ Pv : Nat → Gm → Lg → Prop, Pv 0 Γ L1 ∧ (∀ i Γ' L', Pv i Γ' L' → ∃ j, Get L' j (p, C.lst ds)) ∧
      (∀ F1, Cf X N Nc sc F1 Z → ∀ i d Γ' L', ds[i]? = some d → Pv i Γ' L' → TgK X F1 tg d Γ' L' fun Γ2 L2 => BK X F1 body Γ2 L2 { k with nx := Pv (i + 1), ct := Pv (i + 1), bk := k.nx }) ∧ (∀ Γ' L', Pv ds.length Γ' L' → k.nx Γ' L'))
    (hs : ∀ x, foldedSetIterable a X.env x = pure x := by intro _; rfl) : SK X F0 (.For tg a body [] pos) Γ L k := fun F σ H Dn E q =>
  wpS.of (ps_for cf.own cf.calm (pi_list we) wg wb hs) (h F σ H _ E fun x L1 F1 v H1 ⟨p, ds, e1, Pv, h0, hg, hb, hd⟩ E1 s1 r1 => by
    subst e1
    cases r1
    have rd : ∀ {F : Hp} {L : Lg} {H : Hp} {i : Nat} {Γ' : Gm}, Pv i Γ' L → Led X.K F L H → ∃ xs, SqL X.K H p xs ∧ Reps X.K F ds xs := fun hP l => by
      obtain ⟨j, g⟩ := hg _ _ _ hP
      obtain ⟨xs, h1, h2⟩ := l.lst g
      exact ⟨xs, .inl (.inl h1), h2⟩
    obtain ⟨xs0, hx0, _⟩ := rd h0 E1.led
    refine ⟨p, rfl, ⟨xs0, hx0⟩, fun i m σ H => ∃ F Γ L, i + m = ds.length ∧ Same F1 F ∧ Pv i Γ L ∧ At X.K F0 F Γ L σ H, ⟨ds.length, F1, Γ, L1, by omega, Same.refl F1, h0, E1⟩, ?_⟩
    rintro i m σ2 H2 ⟨F2, Γ2, L2, hm, s2, hP, E2⟩
    obtain ⟨xs, hx, rx⟩ := rd hP E2.led
    by_cases hi : i < ds.length
    · have hi' : i < xs.length := by rw [← rx.length]; exact hi
      refine .inr ⟨⟨xs, xs[i], hx, List.getElem?_eq_getElem hi'⟩, fun σ' H' => ∃ F Γ L, Same F1 F ∧ Pv (i + 1) Γ L ∧ At X.K F0 F Γ L σ' H', fun σ' H' ⟨F3, Γ3, L3, a, b, c⟩ => ⟨m - 1, by omega, F3, Γ3, L3, by omega, a, b, c⟩, ?_⟩
      rintro x H' ⟨rfl, hy⟩
      obtain ⟨d, hdi, rd'⟩ := rx.got (hy xs hx)
      refine hb F1 (cf.up E1.ge) i d Γ2 L2 hdi hP F2 σ2 H' x _ (E2.base s2) rd' fun Γ4 L4 F4 σ4 H4 h4 E4 => ?_
      have q' := q.up (F1 := F1) E1.ge
      exact h4 F4 σ4 H4 _ E4 ⟨fun Γ L F σ H h E => ⟨F, Γ, L, E.ge, h, E.low E1.ge⟩, q'.rt, q'.nx, fun Γ L F σ H h E => ⟨F, Γ, L, E.ge, h, E.low E1.ge⟩⟩
    · have e : i = ds.length := by omega
      subst e
      exact .inl ⟨⟨xs, hx, by rw [← rx.length]; exact Nat.le_refl _⟩, q.nx Γ2 L2 F2 σ2 H2 (hd Γ2 L2 hP) E2⟩)
end
theorem asl_get {L : Lg} {x : D} {ds : List D} (h : AsL L x ds) : x = .lst ds ∨ ∃ p j, x = .ref p ∧ Get L j (p, C.lst ds) := by
  cases h with
  | lst => exact .inl rfl
  | own g => exact .inr ⟨_, _, rfl, g⟩
theorem tyd_as {L : Lg} {x : D} {ds : List D} (h : AsL L x ds) : TyD L x "list" := by
  cases h with
  | lst => exact .lst
  | own g => exact .own g
/-- for tg in xs, xs a name of either kind -/
theorem sk_forN {X : Cx} {F0 : Hp} {Γ : Gm} {L : Lg} {k : Ks} {a tg : Expr} {body : List Stmt} {pos : Pos} {N Nc : List Str} {sc : Scope} {Z : Xc → Gm → Lg → Prop} {x : D} {ds : List D} (cf : Cf X N Nc sc F0 Z)
    (he : ∀ kk : D → Lg → Prop, kk x L → EvK X F0 a Γ L kk) (hx : AsL L x ds) (Pv : Nat → Gm → Lg → Prop) (h0 : Pv 0 Γ L) (hp : ∀ i Γ' L', Pv i Γ' L' → AsL L' x ds)
    (hb : ∀ F1, Cf X N Nc sc F1 Z → ∀ i d Γ' L', ds[i]? = some d → Pv i Γ' L' → TgK X F1 tg d Γ' L' fun Γ2 L2 => BK X F1 body Γ2 L2 { k with nx := Pv (i + 1), ct := Pv (i + 1), bk := k.nx }) (hd : ∀ Γ' L', Pv ds.length Γ' L' → k.nx Γ' L')
    (hs : ∀ x, foldedSetIterable a X.env x = pure x := by intro _; rfl) : SK X F0 (.For tg a body [] pos) Γ L k := by
  cases hx with
  | lst => exact sk_for cf (ei_list (he _ ⟨ds, rfl, Pv, h0, hb, hd⟩)) hs
  | own g =>
    refine sk_forO cf (he _ ⟨_, ds, rfl, Pv, h0, fun i Γ' L' hP => ?_, hb, hd⟩) hs
    have := hp i Γ' L' hP
    generalize hz : D.ref _ = z at this
    cases this with
    | lst => cases hz
    | own g2 => cases hz; exact ⟨_, g2⟩
theorem AsL.cons {L : Lg} {y : Addr × C} {x : D} {ds : List D} (h : AsL L x ds) : AsL (y :: L) x ds := by
  cases h with
  | lst => exact .lst
  | own g => exact .own (.s g)
section
variable {X : Cx} {F0 : Hp} {Γ : Gm} {L : Lg} {k : Ks} {e : Expr} {pos : Pos}
/-- return e, what the ledger has no more use for dropped -/
theorem sk_retS (h : EvK X F0 e Γ L fun d L' => ∃ L'', L''.Sublist L' ∧ k.rt d L'') : SK X F0 (.Return (some e) pos) Γ L k := fun F σ H Dn E q =>
  wpS.of (ps_ret we) (h F σ H _ E fun d L1 F1 v H1 ⟨L2, hs, h1⟩ E1 s1 r1 => q.rt d L2 F1 v H1 h1 E1.ge ⟨E1.led.sub, (hs.map _).nodup E1.led.nod, fun p hp => E1.led.ent p (hs.subset hp)⟩ r1)
end
section
variable {X : Cx} {F0 : Hp} {Γ : Gm} {L : Lg} {k : D → Lg → Prop} {pos : Pos} {N Nc : List Str} {sc : Scope} {elt tg iter : Expr} {bs : Scope}
/-- a comprehension without a test, its list to be changed -/
theorem ek_lcF (own : List (Str × Nat)) (cf : Cn X N Nc sc) (hc : X.calm = true) (ok : blkC (N ++ Nc) sc bs own = true)
    (h : EiK X F0 tg iter Γ L fun ds L1 => ∃ es : List D, LcM X F0 (N ++ Nc) sc bs own elt tg Γ L1 ds es ∧ ∀ p, k (.ref p) ((p, .lst es) :: L1))
    (hs : ∀ x, foldedSetIterable iter X.env x = pure x := by intro _; rfl) : EvK X F0 (.ListComp elt [⟨tg, iter, [], 0⟩] bs pos) Γ L k :=
  ek_lcO own cf hc ok (ei_mono h fun ds L1 ⟨es, ⟨h1, h2, h3⟩, hk⟩ => ⟨fun n acc L' => L' = L1 ∧ acc = es.take n, ⟨rfl, rfl⟩, h2, fun F1 n d acc Lc Dp hd hacc ⟨e1, e2⟩ X' cb hX' => by
    subst e1 e2
    have hn : n < es.length := by rw [h1]; exact (List.getElem?_eq_some_iff.mp hd).1
    have he : es[n]? = some es[n] := List.getElem?_eq_getElem hn
    intro F σ H v Q E r q
    refine h3 F1 n d es[n] (es.take n) Dp hd he X' cb hX' F σ H v Q E r fun Γ' L' F' σ' H' ⟨e1, h4⟩ E' s' w' => q Γ' L' F' σ' H' (fun X'' cb' hX'' => es_nil ⟨fun _ X3 cb3 hX3 => ?_, fun h => nomatch h⟩) E' s' w'
    intro F σ H Q E q
    exact h4 X3 cb3 hX3 F σ H Q E fun d L' F' v H' ⟨a, b⟩ E' s r => q d L' F' v H' ⟨Lc, by rw [a, e1], rfl, by rw [b, List.take_add_one, he]; rfl⟩ E' s r,
    fun acc L' Dp ⟨e1, e2⟩ _ => by
      subst e1 e2
      rw [List.take_of_length_le (by omega)]
      exact hk Dp⟩) hs
end
section
variable {X : Cx} {F0 : Hp} {Γ : Gm} {L : Lg} {k : D → Lg → Prop} {e : Expr}
/-- a list made new, frozen at once -/
theorem ek_frz (h : EvK X F0 e Γ L fun d L1 => ∃ p ds j L2, d = .ref p ∧ Rem L1 j (p, .lst ds) L2 ∧ k (.lst ds) L2) : EvK X F0 e Γ L k := fun F σ H Q E q =>
  h F σ H Q E fun d L1 F1 v H1 ⟨p, ds, j, L2, hd, r, hk⟩ E1 s1 rr => by
    subst hd
    cases rr
    obtain ⟨xs, l, s2, rx⟩ := E1.led.frz r
    exact q _ L2 _ _ H1 hk ⟨E1.ge.trans s2, l, E1.sl.mono s2⟩ (s1.trans s2) (.lst (.inl (.inl upd_same)) (rx.mono s2))
/-- entries of the ledger forgotten -/
theorem ek_drp (h : EvK X F0 e Γ L fun d L1 => ∃ L2, L2.Sublist L1 ∧ k d L2) : EvK X F0 e Γ L k := fun F σ H Q E q =>
  h F σ H Q E fun d L1 F1 v H1 ⟨L2, hs, h1⟩ E1 s1 r1 => q d L2 F1 v H1 h1 ⟨E1.ge, ⟨E1.led.sub, (hs.map _).nodup E1.led.nod, fun p hp => E1.led.ent p (hs.subset hp)⟩, E1.sl⟩ s1 r1
end
end Vs

set_option Elab.async false
set_option linter.all false
set_option maxRecDepth 100000
set_option maxHeartbeats 4000000
namespace Vs
open PySem PySem.Spec PyProof.Rows L2
/-! ### tuples as targets -/
def wpGs (X : Cx) (ts : List Expr) : TGs := fun vs σ H Q => ∀ pins s us, Inv X pins σ H s → Vals vs us → wpAny (model X.prog X.w) X.A (assignInOrder ((assignEach ts X.env).map (·.2)) us) (fun _ s' => ∃ σ' H', Inv X pins σ' H' s' ∧ Q σ' H') X.xe s
theorem wgs {X : Cx} {ts : List Expr} : PGs X ts (wpGs X ts) := ⟨fun pins s _ _ _ us _ I r h => h pins s us I r⟩
theorem wpGs.of {X : Cx} {ts : List Expr} {t : TGs} {vs : List V} {σ : L2.St} {H : Hp} {Q : L2.St → Hp → Prop} (p : PGs X ts t) (h : t vs σ H Q) : wpGs X ts vs σ H Q := fun pins s us I r => p.run pins s σ H vs us Q I r h
/-- names = data, one by one -/
def TnK (X : Cx) (F0 : Hp) (ts : List Expr) (ds : List D) (Γ : Gm) (L : Lg) (k : Gm → Lg → Prop) : Prop := ∀ (F : Hp) (σ : L2.St) (H : Hp) (vs : List V) (Q : L2.St → Hp → Prop), At X.K F0 F Γ L σ H → Reps X.K F ds vs →
  (∀ Γ' L' F' σ' H', k Γ' L' → At X.K F0 F' Γ' L' σ' H' → Q σ' H') → wpGs X ts vs σ H Q
def TnbK (X : Cx) (F0 : Hp) (ts : List Expr) (vs : List Nat) (ds : List D) (Γ : Gm) (L : Lg) (k : Gm → Lg → Prop) : Prop := ∀ (F : Hp) (σ : L2.St) (H : Hp) (us : List V) (Q : L2.St → Hp → Prop), At X.K F0 F Γ L σ H → Reps X.K F ds us →
  (∀ Γ' L' F' σ' H', k Γ' L' → At X.K F0 F' Γ' L' σ' H' → Same F F' → wipe σ' vs = wipe σ vs → Q σ' H') → wpGs X ts us σ H Q
section
variable {X : Cx} {F0 : Hp} {Γ : Gm} {L : Lg} {k : Gm → Lg → Prop} {es : List Expr} {ds : List D} {d : D} {pos : Pos} {N Nc : List Str} {sc bs : Scope} {x : Str} {j kk n : Nat} {vs : List Nat}
theorem tn_z (h : k Γ L) : TnK X F0 [] [] Γ L k := fun F σ H us Q E r q => by
  cases r
  exact wpGs.of pgs_nil ⟨rfl, q Γ L F σ H h E⟩
theorem tn_c (c : Cn X N Nc sc) (h : ∃ Γ', Put Γ j (some d) Γ' ∧ TnK X F0 es ds Γ' L k) (hj : N[j]? = some x := by rfl)
    (hs : (assignEach (.Name x pos :: es) X.env).map (·.2) = assign (.Name x pos) X.env :: (assignEach es X.env).map (·.2) := by rfl) : TnK X F0 (.Name x pos :: es) (d :: ds) Γ L k := fun F σ H us Q E r q => by
  obtain ⟨Γ', p, hk⟩ := h
  cases r with
  | cons r rr =>
    refine wpGs.of (pgs_cons (pg_name (i := j) (by rw [c.n]; exact c.nd) (by rw [c.n]; exact get_app hj) (by rw [c.scp]; exact c.loc x (List.mem_of_getElem? hj)) (.inl (c.fn x))) wgs hs) ⟨_, _, rfl, ?_⟩
    exact hk F _ H _ Q ⟨E.ge, E.led, E.sl.put r p⟩ rr q
theorem tg_tup (hc : X.calm = true) (h : ∃ ds, d = .tup ds ∧ ds.length = n ∧ TnK X F0 es ds Γ L k) (hn : (assignEach es X.env).length = n := by rfl) (hst : (assignEach es X.env).findIdx? (·.1) = none := by rfl) :
    TgK X F0 (.Tuple es kk pos) d Γ L k := fun F σ H v Q E r q => by
  obtain ⟨ds, rfl, hl, h⟩ := h
  cases r with
  | tup hx rx => exact wpG.of (pg_tup hc wgs hn hst) ⟨_, _, rfl, seqT E.led.sub hx, by rw [← rx.length]; exact hl, h F σ H _ Q E rx q⟩
theorem tnb_z (h : k Γ L) : TnbK X F0 [] vs [] Γ L k := fun F σ H us Q E r q => by
  cases r
  exact wpGs.of pgs_nil ⟨rfl, q Γ L F σ H h E (Same.refl F) rfl⟩
theorem tnb_c (c : Cb X N sc bs) (h : ∃ Γ', Put Γ j (some d) Γ' ∧ TnbK X F0 es vs ds Γ' L k) (hj : N[j]? = some x := by rfl) (hv : bs.names.lookup x = some .local ∨ bs.names.lookup x = some .cell := by first | exact .inl rfl | exact .inr rfl) (hm : j ∈ vs := by decide)
    (hs : (assignEach (.Name x pos :: es) X.env).map (·.2) = assign (.Name x pos) X.env :: (assignEach es X.env).map (·.2) := by rfl) : TnbK X F0 (.Name x pos :: es) vs (d :: ds) Γ L k := fun F σ H us Q E r q => by
  obtain ⟨Γ', p, hk⟩ := h
  have hl : Loc X.env.scope x ∧ (X.fn x = true ∨ X.env.scope.names.lookup x = some .local) := by
    rcases hv with z | z
    · exact ⟨.inl (c.own x z), .inr (c.own x z)⟩
    · exact ⟨.inr (c.cel x z).1, .inl (c.cel x z).2⟩
  cases r with
  | cons r rr =>
    refine wpGs.of (pgs_cons (pg_name (i := j) (by rw [c.n]; exact c.nd) (by rw [c.n]; exact hj) hl.1 hl.2) wgs hs) ⟨_, _, rfl, ?_⟩
    exact hk F _ H _ Q ⟨E.ge, E.led, E.sl.put r p⟩ rr fun Γ' L' F' σ' H' hk' E' s' w' => q Γ' L' F' σ' H' hk' E' s' (w'.trans (wipe_set hm))
theorem tb_tup (c : Cb X N sc bs) (h : ∃ ds, d = .tup ds ∧ ds.length = n ∧ TnbK X F0 es vs ds Γ L k) (hn : (assignEach es X.env).length = n := by rfl) (hst : (assignEach es X.env).findIdx? (·.1) = none := by rfl) :
    TbK X F0 (.Tuple es kk pos) vs d Γ L k := fun F σ H v Q E r q => by
  obtain ⟨ds, rfl, hl, h⟩ := h
  cases r with
  | tup hx rx => exact wpG.of (pg_tup c.calm wgs hn hst) ⟨_, _, rfl, seqT E.led.sub hx, by rw [← rx.length]; exact hl, h F σ H _ Q E rx q⟩
end
section
variable {X : Cx} {F0 : Hp} {Γ : Gm} {L : Lg} {k : Ks} {e a : Expr} {pos p tpos p2 : Pos} {tg : Expr} {elts : List Expr} {kk : Nat}
/-- a, b, .. = e -/
theorem sk_asg (h : EvK X F0 e Γ L fun d L' => TgK X F0 tg d Γ L' k.nx) (hs : swapsWithSole [tg] e pos.line X.env = pure false := by rfl) (hw : swappedStores [tg] e X.env = pure none := by rfl)
    (h1 : (assignEach [tg] X.env).map (·.2) = [assign tg X.env] := by rfl) : SK X F0 (.Assign [tg] e pos) Γ L k := fun F σ H Dn E q =>
  wpS.of (ps_asg we wg hs hw h1) (h F σ H _ E fun d L1 F1 v H1 h1 E1 s1 r1 => h1 F1 σ H1 v _ E1 r1 fun Γ' L' F' σ' H' hk E' => q.nx Γ' L' F' σ' H' hk E')
/-! enumerate -/
def enumD (ds : List D) : List D := ds.mapIdx fun i d => D.tup [.int (i : Int), d]
theorem enumD_len {ds : List D} : (enumD ds).length = ds.length := by unfold enumD; exact List.length_mapIdx
theorem enumD_get {ds : List D} {i : Nat} : (enumD ds)[i]? = ds[i]?.map fun d => D.tup [.int (i : Int), d] := by unfold enumD; exact List.getElem?_mapIdx
theorem enumD_at {ds : List D} {i : Nat} {d : D} (h : (enumD ds)[i]? = some d) : ∃ y, ds[i]? = some y ∧ d = .tup [.int (i : Int), y] := by
  rw [enumD_get] at h
  cases z : ds[i]? with
  | none => rw [z] at h; cases h
  | some y => rw [z] at h; exact ⟨y, rfl, (Option.some.inj h).symm⟩
theorem ei_enum {kl : List D → Lg → Prop} (hm : X.mg "enumerate" = none) (hg : Gl X "enumerate") (h : EvK X F0 a Γ L fun x L1 => ∃ ds, x = .lst ds ∧ kl (enumD ds) L1) (hs : starEach [a] X.env = [(false, eval a X.env)] := by rfl) :
    EiK X F0 (.Tuple elts kk tpos) (.Call (.Name "enumerate" p) [a] [] pos) Γ L kl := fun F σ H R E q =>
  wpI.of (pi_enum hg hm (pa_cons we pa_nil hs) hs) (h F σ H _ E fun x L1 F1 v H1 ⟨ds, e1, h1⟩ E1 s1 r1 => by
    subst e1
    cases r1 with
    | lst hx rx =>
      rename_i p xs
      refine ⟨p, xs, rfl, E1.led.sub.seq hx, q _ L1 F1 H1 _ h1 E1 s1 ⟨?_, ?_, ?_⟩⟩
      · intro i H F' L' hi s l
        have hi' : i < xs.length := by rw [← rx.length]; rw [enumD_len] at hi; exact hi
        exact ⟨xs, xs[i], l.sub.seq (s.seq hx), List.getElem?_eq_getElem hi'⟩
      · rintro i H x H' F' L' s l ⟨T, y, rfl, hT, rfl, hy⟩ hi
        have hx' := hy xs (l.sub.seq (s.seq hx))
        obtain ⟨d, hd, rd⟩ := rx.got hx'
        have s2 : Same F' (upd F' T (.tup [.int (i : Nat), y])) := same_new (l.free hT)
        exact ⟨.tup [.int (i : Int), d], _, by rw [enumD_get, hd]; rfl, s2, l.new hT, .tup (.inl (.inl upd_same)) (.cons .int (.cons (rd.mono (s.trans s2)) .nil))⟩
      · intro i H F' L' hi s l
        exact ⟨xs, l.sub.seq (s.seq hx), by rw [← rx.length]; rw [enumD_len] at hi; exact hi⟩)
end
end Vs

set_option Elab.async false
set_option linter.all false
set_option maxRecDepth 100000
set_option maxHeartbeats 4000000
namespace Vs
open PySem PySem.Spec PyProof.Rows L2
/-! ### list(reversed(list)) -/
section
variable {prog : Program} {w : World} {A : Around} {E : Value → Shared → Prop} {s : Shared}
theorem ext_rev {R : Result → Shared → Prop} {it l : Addr} {items : Array Value} (hh : A.handled = none) (hit : s.heap.IsRevIter it l ((items.size : Int) - 1)) (hl : s.heap.IsList l items) (hne : l ≠ it) (hn : items.size ≤ sizeLine)
    (S : Addr) (hSi : S ≠ it) (hSl : S ≠ l) (res : Value) (c₀ : Nat) (hS : s.heap.get? S = some { cls := .type "list", data := .seq #[] c₀ })
    (hR : ∀ (h' : Heap) (tk : Nat) (acc' : Array Value) (c' : Nat), (∀ b o, b ≠ S → b ≠ it → s.heap.get? b = some o → h'.get? b = some o) → h'.get? S = some { cls := .type "list", dict := none, data := .seq acc' c', slots := #[] } →
      ItemsOf (fun i v => items[items.size - 1 - i]? = some v) acc' items.size → R (.ok (.ret res)) { s with heap := h', toks := tk }) :
    wpAny (model prog w) A.in1 (Builtin.List.listExtendWith (.ref S) (.ref it) res)
      (fun fin s' => match fin with | .done f => R (.ok f) s' | .again c' => c'.quiet = true ∧ codeAny (model prog w) A c' R s') (fun e s' => R (.error e) s') s := by
  have W := (Walks.listRev (prog := prog) (w := w) (A := A.in1) hh it l hne items).toS
  have hSf : S ∉ [it, l] := by simp only [List.mem_cons, List.not_mem_nil, or_false, not_or]; exact ⟨hSi, hSl⟩
  have hT : s.TypeIs (.ref it) "list_reverseiterator" := Heap.IsRevIter.typeIs (s := s) hit
  have h1 : Builtin.List.listSameRef (.ref S) (.ref it) = false := by simp [Builtin.List.listSameRef, hSi]
  unfold Builtin.List.listExtendWith
  refine wpAny_bind (wpAny_typeOf hT ?_)
  rw [if_neg (by rw [h1]; decide)]
  refine wpAny_bind (wpAny_pyIter_revIter hit ?_)
  refine wpAny_bind (wpAny_holding ?_)
  unfold Builtin.List.listLengthHint
  refine wpAny_bind (wpAny_specialOf hT RT.nolen_lri ?_)
  show wpAny _ A.in1 (specialOf (Value.ref it) (Str.ofString "__length_hint__") >>= _) _ _ _
  refine wpAny_bind (wpAny_specialOf hT RT.hint_lri ?_)
  generalize hid : ("list_reverseiterator.__length_hint__" : String) = id0
  wp_delta
  rw [show splitId id0 = some ("list_reverseiterator", "__length_hint__") from by subst hid; decide +kernel]
  subst hid
  refine wpAny_bind (wpAny_isInstance (b := true) hT (by rw [isSubtype_type]; kernel_rfl) ?_)
  refine wpAny_pure ?_
  rw [if_neg (by decide)]
  have e0 : ((items.size : Nat) : Int) - 1 - ((0 : Nat) : Int) = (items.size : Int) - 1 := by omega
  refine wpAny_pure ⟨plainId_quiet F.plain_extend_loop _, codeAny_extend_loopS W hn _ hSf _ items.size 0 _ _ _ rfl (Nat.zero_le _) ⟨Nat.zero_le _, by rw [e0]; exact hit, hl⟩ hS (ItemsOf.nil _) fun s' acc' c' hm hS' hacc => ?_⟩
  rw [Moved.eq_with hm]
  refine hR s'.heap s'.toks acc' c' (fun b o hb hb2 e => hm.heap b o (fun hmem => ?_) e) hS' hacc
  rcases List.mem_cons.mp hmem with e' | hmem
  · exact hb e'
  · exact hb2 (List.mem_singleton.mp hmem)
theorem init_rev {R : Result → Shared → Prop} {it l : Addr} {items : Array Value} (hh : A.handled = none) (hit : s.heap.IsRevIter it l ((items.size : Int) - 1)) (hl : s.heap.IsList l items) (hne : l ≠ it) (hn : items.size ≤ sizeLine)
    (S : Addr) (hSi : S ≠ it) (hSl : S ≠ l) (hS : s.heap.get? S = some { cls := .type "list", data := .seq #[] })
    (hR : ∀ (h' : Heap) (tk : Nat) (acc' : Array Value) (c' : Nat), (∀ b o, b ≠ S → b ≠ it → s.heap.get? b = some o → h'.get? b = some o) → h'.get? S = some { cls := .type "list", dict := none, data := .seq acc' c', slots := #[] } →
      ItemsOf (fun i v => items[items.size - 1 - i]? = some v) acc' items.size → R (.ok (.ret .none)) { s with heap := h', toks := tk }) :
    wpAny (model prog w) A.in1 (Builtin.«list.__init__» ⟨[.ref S, .ref it], []⟩)
      (fun fin s' => match fin with | .done f => R (.ok f) s' | .again c' => c'.quiet = true ∧ codeAny (model prog w) A c' R s') (fun e s' => R (.error e) s') s := by
  show wpAny _ _ (do let old ← Builtin.List.listItems (.ref S); Builtin.List.listUpdate (.ref S) (fun _ => #[]); letGo old.toList.reverse; Builtin.List.listExtendWith (.ref S) (.ref it) .none) _ _ s
  refine wpAny_bind ?_
  unfold Builtin.List.listItems
  refine wpAny_bind (wpAny_seqItems hS rfl (wpAny_pure ?_))
  show wpAny _ _ (updateSeq S (fun _ => #[]) >>= fun _ => letGo (#[] : Array Value).toList.reverse >>= fun _ => Builtin.List.listExtendWith (.ref S) (.ref it) .none) _ _ s
  refine wpAny_bind (wpAny_updateSeq hS rfl ?_)
  have hS₂ := Heap.get?_update_self (Obj.mapSeq (fun _ => (#[] : Array Value))) hS rfl
  have oth : ∀ b o, b ≠ S → s.heap.get? b = some o → (s.heap.update S (Obj.mapSeq (fun _ => (#[] : Array Value)))).get? b = some o :=
    fun b o hb e => (Heap.get?_update_other _ _ (Ne.symm hb)).trans e
  refine wpAny_bind (wpAny_letGo ?_)
  obtain ⟨ol, hol, r⟩ := id hl
  refine ext_rev (s := { s with heap := s.heap.update S (Obj.mapSeq (fun _ => (#[] : Array Value))) }) hh (hit.at fun o e => oth it o (Ne.symm hSi) e) ⟨ol, oth l ol (Ne.symm hSl) hol, r⟩ hne hn S hSi hSl .none _ hS₂ fun h' tk acc' c' hk hS' hacc => ?_
  exact hR h' tk acc' c' (fun b o hb hb2 e => hk b o hb hb2 (oth b o hb e)) hS' hacc
theorem call_list_rev {Q : Value → Shared → Prop} {it l : Addr} {items : Array Value} (hh : A.handled = none) (hit : s.heap.IsRevIter it l ((items.size : Int) - 1)) (hl : s.heap.IsList l items) (hne : l ≠ it) (hn : items.size ≤ sizeLine)
    (hQ : ∀ (h' : Heap) (tk : Nat) (acc' : Array Value) (c' : Nat), (∀ b o, b ≠ it → s.heap.get? b = some o → h'.get? b = some o) →
      h'.get? s.heap.objs.size = some { cls := .type "list", dict := none, data := .seq acc' c', slots := #[] } → ItemsOf (fun i v => items[items.size - 1 - i]? = some v) acc' items.size → Q (.ref s.heap.objs.size) { s with heap := h', toks := tk }) :
    wpAny (model prog w) A (call (.type "list") [.ref it]) Q E s := by
  refine callType_codes (Q₁ := fun obj s₁ => obj = .ref s.heap.objs.size ∧ s₁ = { s with heap := s.heap.push { cls := .type "list", data := .seq #[] } }) F.called_list (F.typeCall_list_1 _) F.entry_list_init
    (code_list_new _ ⟨rfl, rfl⟩) fun obj s₁ h₁ => ?_
  obtain ⟨rfl, rfl⟩ := h₁
  have hS : (s.heap.push { cls := .type "list", data := .seq #[] }).get? s.heap.objs.size = some { cls := .type "list", data := .seq #[] } := Heap.get?_push_size _ rfl
  obtain ⟨oi, hoi, _⟩ := id hit
  obtain ⟨ol, hol, _⟩ := id hl
  have hSi : s.heap.objs.size ≠ it := Nat.ne_of_gt (Heap.lt_size hoi)
  have hSl : s.heap.objs.size ≠ l := Nat.ne_of_gt (Heap.lt_size hol)
  refine ⟨⟨_, hS, rfl⟩, F.args_list_init_2 _ _, init_rev (s := { s with heap := s.heap.push { cls := .type "list", data := .seq #[] } }) (A := A.in1) hh (hit.at fun o e => Heap.get?_push_of_some _ e) (hl.push _) hne hn _ hSi hSl hS fun h' tk acc' c' hk hS' hacc => ?_⟩
  exact ⟨rfl, hQ h' tk acc' c' (fun b o hb e => hk b o (Nat.ne_of_lt (Heap.lt_size e)) hb (Heap.get?_push_of_some _ e)) hS' hacc⟩
end
/-- list(reversed(x)), x a list: a new list -/
def tLstRev (K : PySem.W.Frag) (te : TE) : TE := fun σ H Q => te σ H fun v H1 => ∃ (a : Addr) (xs : List V), v = .ref a ∧ SqL K H1 a xs ∧ ∀ q, H1 q = none → Q (.ref q) (upd H1 q (.lst xs.reverse))
theorem pe_lstRev {X : Cx} {e : Expr} {te : TE} {p p2 pos pos2 : Pos} (hc : X.calm = true) (hg : Gl X "list") (hm : X.mg "list" = none) (hg2 : Gl X "reversed") (hm2 : X.mg "reversed" = none) (he : PE X e te)
    (hs : starEach [e] X.env = (false, eval e X.env) :: starEach [] X.env := by rfl)
    (hs2 : starEach [.Call (.Name "reversed" p2) [e] [] pos2] X.env = (false, eval (.Call (.Name "reversed" p2) [e] [] pos2) X.env) :: starEach [] X.env := by rfl) :
    PE X (.Call (.Name "list" p) [.Call (.Name "reversed" p2) [e] [] pos2] [] pos) (tLstRev X.K te) := by
  refine ⟨fun pins s σ H Q I h => ?_⟩
  refine Call_ (ld_blt I hg hm boot_list (PyProof.Rows.callWith_type1 (args_cons (Call_ (ld_blt I hg2 hm2 PyProof.Rows.boot_reversed (PyProof.Rows.callWith_type1 (args_cons (thn (he.run pins s σ H _ I h) fun u s1 ⟨v, H1, I1, r1, q1⟩ => args_nil ?_) hs) hs rfl))) hs2) hs2 rfl))
  obtain ⟨a, xs, ev, hq, q⟩ := q1
  subst ev
  obtain rfl : u = Value.ref a := r1
  obtain ⟨its, rv, p', hz⟩ := I1.list hq
  refine call_reversed_list p'.isList (args_nil ?_)
  have k0 : ∀ b o, s1.heap.get? b = some o → (s1.heap.push (revObj a ((its.toArray.size : Int) - 1))).get? b = some o := fun b o e => Heap.get?_push_of_some _ e
  have I2 : Inv X pins σ H1 { s1 with heap := s1.heap.push (revObj a ((its.toArray.size : Int) - 1)) } := I1.kept (t' := s1.toks) k0
  obtain ⟨f0, f1, f2, f3, f4, f5⟩ := I1.fpOk (H' := H1) (b := s1.heap.objs.size) (Nat.le_refl _) (I1.hok.fresh (Nat.le_refl _))
  have hl := p'.isList
  obtain ⟨ol, hol, _⟩ := id hl
  have hne : a ≠ s1.heap.objs.size := Nat.ne_of_lt (Heap.lt_size hol)
  have hn : its.toArray.size ≤ sizeLine := by rw [List.size_toArray, ← rv.length]; exact hz
  have hnew : (s1.heap.push (revObj a ((its.toArray.size : Int) - 1))).objs.size = s1.heap.objs.size + 1 := by simp [Heap.push]
  have hfr : s1.heap.objs.size ≤ (s1.heap.push (revObj a ((its.toArray.size : Int) - 1))).objs.size := by rw [hnew]; exact Nat.le_succ _
  refine call_list_rev (s := { s1 with heap := s1.heap.push (revObj a ((its.toArray.size : Int) - 1)) }) (I1.ok.hd hc) ⟨_, Heap.get?_push_size _ rfl, rfl, rfl⟩ (hl.push _) hne hn fun h' tk acc c' hk hS' hi => ?_
  have h9 : Inv X pins σ (upd H1 (s1.heap.push (revObj a ((its.toArray.size : Int) - 1))).objs.size (.lst xs.reverse)) { s1 with heap := h', toks := tk } :=
    I2.turnedNew (t' := tk) (ch := [s1.heap.objs.size]) (fun b o hb e => hk b o (fun z => hb (by simp [z])) e) (fun b hb => by
      have e : b = s1.heap.objs.size := by simpa using hb
      subst e
      exact ⟨f0, f1, f2, f3, f4, f5⟩) (Nat.le_refl _) (show ObjOk X.prog X.w _ _ _ (.lst xs.reverse) from ⟨by rw [List.length_reverse]; exact hz, acc.toList, c', RT.vals_rev rv hi, by rw [Array.toArray_toList]; exact hS'⟩)
  exact ⟨.ref (s1.heap.push (revObj a ((its.toArray.size : Int) - 1))).objs.size, _, h9, rfl, q _ (I2.hok.fresh (Nat.le_refl _))⟩
section
variable {X : Cx} {F0 : Hp} {Γ : Gm} {L : Lg} {k : D → Lg → Prop} {e : Expr} {pos p p2 pos2 : Pos}
theorem AsL.sq {K : PySem.W.Frag} {F H : Hp} {L : Lg} {x : D} {ds : List D} {v : V} (a : AsL L x ds) (l : Led K F L H) (r : Rep K F x v) : ∃ p xs, v = .ref p ∧ SqL K H p xs ∧ Reps K F ds xs := a.read l r
/-- list(reversed(xs)), the new list to be changed -/
theorem ek_revO (hc : X.calm = true) (hm : X.mg "list" = none) (hg : Gl X "list") (hm2 : X.mg "reversed" = none) (hg2 : Gl X "reversed") (h : EvK X F0 e Γ L fun x L1 => ∃ ds, AsL L1 x ds ∧ ∀ p, k (.ref p) ((p, .lst ds.reverse) :: L1))
    (hs : starEach [e] X.env = (false, eval e X.env) :: starEach [] X.env := by rfl)
    (hs2 : starEach [.Call (.Name "reversed" p2) [e] [] pos2] X.env = (false, eval (.Call (.Name "reversed" p2) [e] [] pos2) X.env) :: starEach [] X.env := by rfl) : EvK X F0 (.Call (.Name "list" p) [.Call (.Name "reversed" p2) [e] [] pos2] [] pos) Γ L k := fun F σ H Q E q =>
  wpE.of (pe_lstRev hc hg hm hg2 hm2 we hs hs2) (h F σ H _ E fun x L1 F1 v H1 ⟨ds, a, h1⟩ E1 s1 r1 => by
    obtain ⟨p, xs, rfl, hx, rx⟩ := a.read E1.led r1
    exact ⟨p, xs, rfl, hx, fun n hn => q _ _ F1 _ _ (h1 n) ⟨E1.ge, E1.led.newL hn rx.rev, E1.sl⟩ s1 .ref⟩)
end
end Vs

set_option Elab.async false
set_option linter.all false
set_option maxRecDepth 100000
set_option maxHeartbeats 4000000
namespace Vs
open PySem PySem.Spec PyProof.Rows L2
/-! ### tuples -/
section
variable {X : Cx} {F0 : Hp} {Γ : Gm} {L : Lg} {k : D → Lg → Prop} {e a b : Expr} {lo hi : Option Expr} {pos p p2 p3 : Pos}
/-- tuple(xs) -/
theorem ek_tupOf (hm : X.mg "tuple" = none) (hg : Gl X "tuple") (h : EvK X F0 e Γ L fun x L1 => ∃ ds, (AsL L1 x ds ∨ x = .tup ds) ∧ k (.tup ds) L1)
    (na : starEach [e] X.env = (false, eval e X.env) :: starEach [] X.env := by rfl) : EvK X F0 (.Call (.Name "tuple" p) [e] [] pos) Γ L k := fun F σ H Q E q =>
  wpE.of (pe_tupleOf hg hm we na) (h F σ H _ E fun x L1 F1 v H1 ⟨ds, a, h1⟩ E1 s1 r1 => by
    rcases a with a | rfl
    · obtain ⟨p, xs, rfl, hx, rx⟩ := a.read E1.led r1
      refine .inl ⟨p, xs, rfl, hx, fun n hn => ?_⟩
      have s2 : Same F1 (upd F1 n (.tup xs)) := same_new (E1.led.free hn)
      exact q _ L1 _ _ _ h1 (E1.new hn) (s1.trans s2) (.tup (.inl (.inl upd_same)) (rx.mono s2))
    · cases r1 with
      | tup hx rx => exact .inr ⟨_, _, rfl, seqT E1.led.sub hx, q _ L1 F1 _ H1 h1 E1 s1 (.tup hx rx)⟩)
/-- s + t, tuples -/
theorem ek_catT (h : EvK X F0 a Γ L fun x L1 => EvK X F0 b Γ L1 fun y L2 => ∃ ds es, x = .tup ds ∧ y = .tup es ∧ ds.length + es.length ≤ sizeLine ∧ k (.tup (ds ++ es)) L2) : EvK X F0 (.BinOp a .Add b pos) Γ L k := fun F σ H Q E q =>
  wpE.of (pe_op op_catA we we) (h F σ H _ E fun x L1 F1 v H1 h1 E1 s1 r1 => h1 F1 σ H1 _ E1 fun y L2 F2 u H2 ⟨ds, es, e1, e2, hz, h2⟩ E2 s2 r2 => by
    subst e1 e2
    have r1' := r1.mono s2
    cases r1' with
    | tup hx rx =>
      cases r2 with
      | tup hy ry =>
        refine ⟨_, _, _, _, rfl, rfl, seqT E2.led.sub hx, seqT E2.led.sub hy, by rw [← rx.length, ← ry.length]; exact hz, fun z => ?_, fun _ z => ?_, fun _ _ n hn => ?_⟩
        · subst z
          cases rx
          exact q _ L2 F2 _ H2 h2 E2 (s1.trans s2) (.tup hy ry)
        · subst z
          cases ry
          rw [List.append_nil] at h2
          exact q _ L2 F2 _ H2 h2 E2 (s1.trans s2) (.tup hx rx)
        · exact q _ L2 _ _ _ h2 (E2.new hn) (s1.trans (s2.trans (same_new (E2.led.free hn)))) (.tup (.inl (.inl upd_same)) ((rx.append ry).mono (same_new (E2.led.free hn)))))
theorem cut_all {xs : List D} {lo hi : Option Int} (h : HT.sIx xs.length 0 lo = 0 ∧ HT.sIx xs.length xs.length hi = xs.length) : cutD xs lo hi = xs := by
  unfold cutD
  rw [h.1, h.2, List.drop_zero, Nat.sub_zero, List.take_of_length_le (Nat.le_refl _)]
/-- t[i:j], a tuple -/
theorem ek_slT (h : EvK X F0 a Γ L fun x L1 => EoK X F0 lo Γ L1 fun i L2 => EoK X F0 hi Γ L2 fun j L3 => ∃ ds, x = .tup ds ∧ k (.tup (cutD ds i j)) L3) : EvK X F0 (.Subscript a (.Slice lo hi none p2) pos) Γ L k := fun F σ H Q E q =>
  wpE.of (pe_slice sl_tupA we wo wo) (h F σ H _ E fun x L1 F1 v H1 h1 E1 s1 r1 => h1 F1 σ H1 _ E1 fun i L2 F2 H2 h2 E2 s2 => h2 F2 σ H2 _ E2 fun j L3 F3 H3 ⟨ds, e1, h3⟩ E3 s3 => by
    subst e1
    have r1' := r1.mono (s2.trans s3)
    cases r1' with
    | tup hx rx =>
      refine ⟨_, _, rfl, seqT E3.led.sub hx, fun z => ?_, fun z n hn => ?_⟩
      · rw [← rx.length] at z
        rw [cut_all z] at h3
        exact q _ L3 F3 _ H3 h3 E3 (s1.trans (s2.trans s3)) (.tup hx rx)
      · exact q _ L3 _ _ _ h3 (E3.new hn) (s1.trans (s2.trans (s3.trans (same_new (E3.led.free hn))))) (.tup (.inl (.inl upd_same)) (rx.cut.mono (same_new (E3.led.free hn)))))
theorem rgV_reps {K : PySem.W.Frag} {F : Hp} {a b : Int} : Reps K F (rangeD a (b - a).toNat) (rgV a b) := by
  unfold rangeD rgV
  generalize (b - a).toNat = n
  have g : ∀ l : List Nat, Reps K F (l.map fun (i : Nat) => D.int (a + (i : Int))) (l.map fun (i : Nat) => V.int (a + (i : Nat))) := fun l => by
    induction l with
    | nil => exact .nil
    | cons x l ih => exact .cons .int ih
  exact g _
/-- list(range(a, b)) -/
theorem ek_listR2 (hc : X.calm = true) (hm : X.mg "list" = none) (hg : Gl X "list") (hm2 : X.mg "range" = none) (hg2 : Gl X "range") (h : EvK X F0 a Γ L fun x L1 => ∃ i, x = .int i ∧ EvK X F0 b Γ L1 fun y L2 => ∃ j, y = .int j ∧ RgOk i j ∧ k (.lst (rangeD i (j - i).toNat)) L2)
    (na : starEach [.Call (.Name "range" p2) [a, b] [] p3] X.env = (false, eval (.Call (.Name "range" p2) [a, b] [] p3) X.env) :: starEach [] X.env := by rfl)
    (na2 : starEach [a, b] X.env = (false, eval a X.env) :: starEach [b] X.env := by rfl) (nb : starEach [b] X.env = (false, eval b X.env) :: starEach [] X.env := by rfl) (hp : (backTo p3 (starEach [b] X.env)).any (·.1) = false := by rfl) :
    EvK X F0 (.Call (.Name "list" p) [.Call (.Name "range" p2) [a, b] [] p3] [] pos) Γ L k := fun F σ H Q E q =>
  wpE.of (pe_listRg hc hg hm (prg_2 hg2 hm2 we we na2 nb hp) na) (h F σ H _ E fun x L1 F1 v H1 ⟨i, e1, h1⟩ E1 s1 r1 => h1 F1 σ H1 _ E1 fun y L2 F2 u H2 ⟨j, e2, hr, h2⟩ E2 s2 r2 => by
    subst e1 e2
    cases r1
    cases r2
    refine ⟨i, j, rfl, rfl, hr, fun n hn => ?_⟩
    exact q _ L2 _ _ _ h2 (E2.new hn) (s1.trans (s2.trans (same_new (E2.led.free hn)))) (.lst (.inl (.inl upd_same)) rgV_reps))
theorem ek_listR1 (hc : X.calm = true) (hm : X.mg "list" = none) (hg : Gl X "list") (hm2 : X.mg "range" = none) (hg2 : Gl X "range") (h : EvK X F0 b Γ L fun y L2 => ∃ j, y = .int j ∧ RgOk 0 j ∧ k (.lst (rangeD 0 j.toNat)) L2)
    (na : starEach [.Call (.Name "range" p2) [b] [] p3] X.env = (false, eval (.Call (.Name "range" p2) [b] [] p3) X.env) :: starEach [] X.env := by rfl)
    (nb : starEach [b] X.env = (false, eval b X.env) :: starEach [] X.env := by rfl) :
    EvK X F0 (.Call (.Name "list" p) [.Call (.Name "range" p2) [b] [] p3] [] pos) Γ L k := fun F σ H Q E q =>
  wpE.of (pe_listRg hc hg hm (prg_1 hg2 hm2 we nb) na) (h F σ H _ E fun y L2 F2 u H2 ⟨j, e2, hr, h2⟩ E2 s2 r2 => by
    subst e2
    cases r2
    refine ⟨j, rfl, hr, fun n hn => ?_⟩
    have h3 : k (.lst (rangeD 0 (j - 0).toNat)) L2 := by rw [Int.sub_zero]; exact h2
    exact q _ L2 _ _ _ h3 (E2.new hn) (s2.trans (same_new (E2.led.free hn))) (.lst (.inl (.inl upd_same)) rgV_reps))
end
end Vs

set_option Elab.async false
set_option linter.all false
set_option maxRecDepth 100000
set_option maxHeartbeats 4000000
namespace Vs
open PySem PySem.Spec PyProof.Rows L2
/-! ### ranges as values, x in .. -/
section
variable {X : Cx} {F0 : Hp} {Γ : Gm} {L : Lg} {k : D → Lg → Prop} {kt : Bool → Lg → Prop} {e a b c o : Expr} {es rest : List Expr} {pos p2 apos cpos : Pos}
theorem ek_rng2 {p : Pos} (hm : X.mg "range" = none) (hg : Gl X "range") (h : EvK X F0 a Γ L fun x L1 => ∃ i, x = .int i ∧ EvK X F0 b Γ L1 fun y L2 => ∃ j, y = .int j ∧ k (.rng i j) L2)
    (he : starEach [a, b] X.env = (false, eval a X.env) :: starEach [b] X.env := by rfl) (he2 : starEach [b] X.env = (false, eval b X.env) :: starEach [] X.env := by rfl) (hpl : (backTo pos (starEach [b] X.env)).any (·.1) = false := by rfl) :
    EvK X F0 (.Call (.Name "range" p) [a, b] [] pos) Γ L k := fun F σ H Q E q =>
  wpE.of (pe_callTy cr_range2 hg hm (by decide +kernel) (pa_cons we (pa_cons we pa_nil he2) he) (by decide) (by decide) he hpl) (h F σ H _ E fun x L1 F1 v H1 ⟨i, e1, h1⟩ E1 s1 r1 => h1 F1 σ H1 _ E1 fun y L2 F2 u H2 ⟨j, e2, h2⟩ E2 s2 r2 => by
    subst e1 e2
    cases r1
    cases r2
    exact ⟨i, j, rfl, fun p hp => q _ L2 _ _ _ h2 (E2.new hp) (s1.trans (s2.trans (same_new (E2.led.free hp)))) (.rng upd_same)⟩)
theorem op_notin_rng : OpR X (compareOp .NotIn) (fun x y H Q => ∃ i a lo hi, x = V.int i ∧ y = V.ref a ∧ H a = some (.rng lo hi) ∧ Q (.bl (!decide (lo ≤ i ∧ i < hi))) H) := by
  intro pins s σ H x y v u Q I rx ry h
  obtain ⟨i, a, lo, hi, rfl, rfl, ha, q⟩ := h
  obtain ⟨k, rfl⟩ := rx
  obtain rfl : u = Value.ref a := ry
  obtain ⟨t1, t2, t3, ho⟩ := I.hok a _ ha
  show wpAny _ _ (do return Value.bool (!(← contains (Value.ref a) (Value.int i k)))) _ _ s
  refine wpAny_bind (wpAny_contains_slot (T := "range") ⟨_, ho, rfl⟩ PySem.F.slot_range_contains (call_meets PySem.F.slot_range_contains ⟨_, ho, rfl⟩ PySem.F.entry_range_contains (PySem.F.args_range_contains_2 _ _) (q_contains a lo hi i t1 t2 t3 k)
    ⟨ho, wpAny_truthy_bool (wpAny_pure ⟨.bl _, H, I, rfl, ?_⟩)⟩))
  rw [place1]
  exact q
theorem rd_rng {op : CmpOp} {g : Bool → Bool} (h : EvK X F0 a Γ L fun x L1 => ∃ i, x = .int i ∧ EvK X F0 b Γ L1 fun y L2 => ∃ lo hi, y = .rng lo hi ∧ k (.bl (g (decide (lo ≤ i ∧ i < hi)))) L2) :
    RdK X F0 (tOp (fun x y H Q => ∃ i a lo hi, x = V.int i ∧ y = V.ref a ∧ H a = some (.rng lo hi) ∧ Q (.bl (g (decide (lo ≤ i ∧ i < hi)))) H) (wpE X a) (wpE X b)) Γ L k := fun F σ H Q E q =>
  h F σ H _ E fun x L1 F1 v H1 ⟨i, e1, h1⟩ E1 s1 r1 => h1 F1 σ H1 _ E1 fun y L2 F2 u H2 ⟨lo, hi, e2, h2⟩ E2 s2 r2 => by
    subst e1 e2
    cases r1
    cases r2 with
    | rng hr => exact ⟨i, _, lo, hi, rfl, rfl, E2.led.sub _ _ hr, q _ L2 F2 _ H2 h2 E2 (s1.trans s2) .bl⟩
theorem ek_inR (h : EvK X F0 a Γ L fun x L1 => ∃ i, x = .int i ∧ EvK X F0 b Γ L1 fun y L2 => ∃ lo hi, y = .rng lo hi ∧ k (.bl (decide (lo ≤ i ∧ i < hi))) L2) (hm : behindInMarks .In b = false := by rfl) : EvK X F0 (.Compare a [.In] [b] pos) Γ L k := (rd_rng (op := .In) (g := id) h).ev (pe_cmpR op_in_rng we we hm)
theorem ek_notinR (h : EvK X F0 a Γ L fun x L1 => ∃ i, x = .int i ∧ EvK X F0 b Γ L1 fun y L2 => ∃ lo hi, y = .rng lo hi ∧ k (.bl (!decide (lo ≤ i ∧ i < hi))) L2) (hm : behindInMarks .NotIn b = false := by rfl) : EvK X F0 (.Compare a [.NotIn] [b] pos) Γ L k := (rd_rng (op := .NotIn) (g := (!·)) h).ev (pe_cmpR op_notin_rng we we hm)
/-- a test is the value's -/
theorem evk_mono {k k' : D → Lg → Prop} (h : EvK X F0 e Γ L k) (hk : ∀ d L', k d L' → k' d L') : EvK X F0 e Γ L k' := fun F σ H Q E q => h F σ H Q E fun d L' F' v H' h1 => q d L' F' v H' (hk d L' h1)
theorem et_inR (h : EvK X F0 a Γ L fun x L1 => ∃ i, x = .int i ∧ EvK X F0 b Γ L1 fun y L2 => ∃ lo hi, y = .rng lo hi ∧ ∃ t, D.bl (decide (lo ≤ i ∧ i < hi)) = .bl t ∧ kt t L2) (hm : behindInMarks .In b = false := by rfl) : EtK X F0 (.Compare a [.In] [b] pos) Γ L kt := (rd_rng (op := .In) (g := id) (k := fun d L2 => ∃ t, d = .bl t ∧ kt t L2) h).tst (pt_cmpR op_in_rng we we hm)
theorem et_notinR (h : EvK X F0 a Γ L fun x L1 => ∃ i, x = .int i ∧ EvK X F0 b Γ L1 fun y L2 => ∃ lo hi, y = .rng lo hi ∧ ∃ t, D.bl (!decide (lo ≤ i ∧ i < hi)) = .bl t ∧ kt t L2) (hm : behindInMarks .NotIn b = false := by rfl) : EtK X F0 (.Compare a [.NotIn] [b] pos) Γ L kt := (rd_rng (op := .NotIn) (g := (!·)) (k := fun d L2 => ∃ t, d = .bl t ∧ kt t L2) h).tst (pt_cmpR op_notin_rng we we hm)
/-! x in xs, numbers -/
theorem inV_ints {i : Int} : ∀ {ns : List Int}, inV (.int i) (ns.map V.int) = decide (i ∈ ns)
  | [] => by simp [inV]
  | n :: ns => by
    have ih := inV_ints (i := i) (ns := ns)
    unfold inV at ih ⊢
    rw [List.map_cons, List.any_cons, ih]
    show ((n == i) || decide (i ∈ ns)) = decide (i ∈ n :: ns)
    by_cases h : n = i
    · subst h; simp
    · have h2 : ¬ i = n := fun z => h z.symm
      simp [h, h2]
theorem flat_ints : ∀ {ns : List Int}, (ns.map V.int).all flatV = true
  | [] => rfl
  | n :: ns => by rw [List.map_cons, List.all_cons, flat_ints]; rfl
/-- a list or a tuple -/
def AsS (L : Lg) (x : D) (ds : List D) : Prop := AsL L x ds ∨ x = .tup ds
theorem AsS.read {K : PySem.W.Frag} {F H : Hp} {L : Lg} {x : D} {v : V} {ds : List D} (a : AsS L x ds) (l : Led K F L H) (r : Rep K F x v) : ∃ p xs, v = .ref p ∧ (SqL K H p xs ∨ SqT K H p xs) ∧ Reps K F ds xs := by
  rcases a with a | rfl
  · obtain ⟨p, xs, h1, h2, h3⟩ := a.read l r
    exact ⟨p, xs, h1, .inl h2, h3⟩
  · cases r with
    | tup hx rx => exact ⟨_, _, rfl, .inr (seqT l.sub hx), rx⟩
theorem rd_inI {neg : Bool} (h : EvK X F0 a Γ L fun x L1 => ∃ i, x = .int i ∧ EvK X F0 b Γ L1 fun y L2 => ∃ ns, AsS L2 y (dI ns) ∧ k (.bl (if neg then !decide (i ∈ ns) else decide (i ∈ ns))) L2) : RdK X F0 (tOp (rIn X.K neg) (wpE X a) (wpE X b)) Γ L k := fun F σ H Q E q =>
  h F σ H _ E fun x L1 F1 v H1 ⟨i, e1, h1⟩ E1 s1 r1 => h1 F1 σ H1 _ E1 fun y L2 F2 u H2 ⟨ns, as, h2⟩ E2 s2 r2 => by
    subst e1
    cases r1
    obtain ⟨p, xs, rfl, hx, rx⟩ := as.read E2.led r2
    have e := il_reps rx
    subst e
    refine ⟨p, _, rfl, hx, rfl, flat_ints, ?_⟩
    rw [inV_ints]
    exact q _ L2 F2 _ H2 h2 E2 (s1.trans s2) .bl
theorem ek_inI (h : EvK X F0 a Γ L fun x L1 => ∃ i, x = .int i ∧ EvK X F0 b Γ L1 fun y L2 => ∃ ns, AsS L2 y (dI ns) ∧ k (.bl (decide (i ∈ ns))) L2) (hm : behindInMarks .In b = false := by rfl) : EvK X F0 (.Compare a [.In] [b] pos) Γ L k := (rd_inI (neg := false) h).ev (pe_cmpR op_in_seq we we hm)
theorem ek_notinI (h : EvK X F0 a Γ L fun x L1 => ∃ i, x = .int i ∧ EvK X F0 b Γ L1 fun y L2 => ∃ ns, AsS L2 y (dI ns) ∧ k (.bl (!decide (i ∈ ns))) L2) (hm : behindInMarks .NotIn b = false := by rfl) : EvK X F0 (.Compare a [.NotIn] [b] pos) Γ L k := (rd_inI (neg := true) h).ev (pe_cmpR op_notIn_seq we we hm)
theorem et_inI (h : EvK X F0 a Γ L fun x L1 => ∃ i, x = .int i ∧ EvK X F0 b Γ L1 fun y L2 => ∃ ns, AsS L2 y (dI ns) ∧ ∃ t, D.bl (decide (i ∈ ns)) = .bl t ∧ kt t L2) (hm : behindInMarks .In b = false := by rfl) : EtK X F0 (.Compare a [.In] [b] pos) Γ L kt := (rd_inI (neg := false) (k := fun d L2 => ∃ t, d = .bl t ∧ kt t L2) h).tst (pt_cmpR op_in_seq we we hm)
theorem et_notinI (h : EvK X F0 a Γ L fun x L1 => ∃ i, x = .int i ∧ EvK X F0 b Γ L1 fun y L2 => ∃ ns, AsS L2 y (dI ns) ∧ ∃ t, D.bl (!decide (i ∈ ns)) = .bl t ∧ kt t L2) (hm : behindInMarks .NotIn b = false := by rfl) : EtK X F0 (.Compare a [.NotIn] [b] pos) Γ L kt := (rd_inI (neg := true) (k := fun d L2 => ∃ t, d = .bl t ∧ kt t L2) h).tst (pt_cmpR op_notIn_seq we we hm)
/-- x in xs, data of any depth -/
theorem rd_inD (h : EvK X F0 a Γ L fun x L1 => EvK X F0 b Γ L1 fun y L2 => ∃ d ds, Dpd L2 x d ∧ Dpd L2 y (.list ds) ∧ SeqAt.shaped d = true ∧ SeqAt.shaped (.list ds) = true ∧ k (.bl (ds.any fun z => PyData.eqv z d)) L2) : RdK X F0 (tOp (rInD X.K) (wpE X a) (wpE X b)) Γ L k := fun F σ H Q E q =>
  h F σ H _ E fun x L1 F1 v H1 h1 E1 s1 r1 => h1 F1 σ H1 _ E1 fun y L2 F2 u H2 ⟨d, ds, d1, d2, z1, z2, h2⟩ E2 s2 r2 =>
    ⟨d, ds, d1.dp E2.led (r1.mono s2), d2.dp E2.led r2, z1, z2, q _ L2 F2 _ H2 h2 E2 (s1.trans s2) .bl⟩
theorem rd_notinD (h : EvK X F0 a Γ L fun x L1 => EvK X F0 b Γ L1 fun y L2 => ∃ d ds, Dpd L2 x d ∧ Dpd L2 y (.list ds) ∧ SeqAt.shaped d = true ∧ SeqAt.shaped (.list ds) = true ∧ k (.bl (!ds.any fun z => PyData.eqv z d)) L2) : RdK X F0 (tOp (rNotInD X.K) (wpE X a) (wpE X b)) Γ L k := fun F σ H Q E q =>
  h F σ H _ E fun x L1 F1 v H1 h1 E1 s1 r1 => h1 F1 σ H1 _ E1 fun y L2 F2 u H2 ⟨d, ds, d1, d2, z1, z2, h2⟩ E2 s2 r2 =>
    ⟨d, ds, d1.dp E2.led (r1.mono s2), d2.dp E2.led r2, z1, z2, q _ L2 F2 _ H2 h2 E2 (s1.trans s2) .bl⟩
theorem ek_inD (hu : X.A.units + 65 < cLine) (h : EvK X F0 a Γ L fun x L1 => EvK X F0 b Γ L1 fun y L2 => ∃ d ds, Dpd L2 x d ∧ Dpd L2 y (.list ds) ∧ SeqAt.shaped d = true ∧ SeqAt.shaped (.list ds) = true ∧ k (.bl (ds.any fun z => PyData.eqv z d)) L2) (hm : behindInMarks .In b = false := by rfl) : EvK X F0 (.Compare a [.In] [b] pos) Γ L k := (rd_inD h).ev (pe_cmpR (op_inD hu) we we hm)
theorem ek_notinD (hu : X.A.units + 65 < cLine) (h : EvK X F0 a Γ L fun x L1 => EvK X F0 b Γ L1 fun y L2 => ∃ d ds, Dpd L2 x d ∧ Dpd L2 y (.list ds) ∧ SeqAt.shaped d = true ∧ SeqAt.shaped (.list ds) = true ∧ k (.bl (!ds.any fun z => PyData.eqv z d)) L2) (hm : behindInMarks .NotIn b = false := by rfl) : EvK X F0 (.Compare a [.NotIn] [b] pos) Γ L k := (rd_notinD h).ev (pe_cmpR (op_notInD hu) we we hm)
theorem et_inD (hu : X.A.units + 65 < cLine) (h : EvK X F0 a Γ L fun x L1 => EvK X F0 b Γ L1 fun y L2 => ∃ d ds, Dpd L2 x d ∧ Dpd L2 y (.list ds) ∧ SeqAt.shaped d = true ∧ SeqAt.shaped (.list ds) = true ∧ ∃ t, D.bl (ds.any fun z => PyData.eqv z d) = .bl t ∧ kt t L2) (hm : behindInMarks .In b = false := by rfl) : EtK X F0 (.Compare a [.In] [b] pos) Γ L kt := (rd_inD (k := fun d L2 => ∃ t, d = .bl t ∧ kt t L2) h).tst (pt_cmpR (op_inD hu) we we hm)
theorem et_notinD (hu : X.A.units + 65 < cLine) (h : EvK X F0 a Γ L fun x L1 => EvK X F0 b Γ L1 fun y L2 => ∃ d ds, Dpd L2 x d ∧ Dpd L2 y (.list ds) ∧ SeqAt.shaped d = true ∧ SeqAt.shaped (.list ds) = true ∧ ∃ t, D.bl (!ds.any fun z => PyData.eqv z d) = .bl t ∧ kt t L2) (hm : behindInMarks .NotIn b = false := by rfl) : EtK X F0 (.Compare a [.NotIn] [b] pos) Γ L kt := (rd_notinD (k := fun d L2 => ∃ t, d = .bl t ∧ kt t L2) h).tst (pt_cmpR (op_notInD hu) we we hm)
/-! min, max of a list of numbers -/
def minI (ns : List Int) : Int := ns.min?.getD 0
def maxI (ns : List Int) : Int := ns.max?.getD 0
theorem minI_at {ns : List Int} {m : Int} (h : m ∈ ns) (h2 : ∀ y ∈ ns, m ≤ y) : minI ns = m := by
  unfold minI
  rw [List.min?_eq_some_iff.mpr ⟨h, h2⟩]
  rfl
theorem maxI_at {ns : List Int} {m : Int} (h : m ∈ ns) (h2 : ∀ y ∈ ns, y ≤ m) : maxI ns = m := by
  unfold maxI
  rw [List.max?_eq_some_iff.mpr ⟨h, h2⟩]
  rfl
theorem minI_ok {ns : List Int} (h : 0 < ns.length) : minI ns ∈ ns ∧ ∀ y ∈ ns, minI ns ≤ y := by
  cases e : ns.min? with
  | none => rw [List.min?_eq_none_iff] at e; subst e; exact absurd h (Nat.lt_irrefl _)
  | some m =>
    have e2 : minI ns = m := by unfold minI; rw [e]; rfl
    rw [e2]
    exact List.min?_eq_some_iff.mp e
theorem maxI_ok {ns : List Int} (h : 0 < ns.length) : maxI ns ∈ ns ∧ ∀ y ∈ ns, y ≤ maxI ns := by
  cases e : ns.max? with
  | none => rw [List.max?_eq_none_iff] at e; subst e; exact absurd h (Nat.lt_irrefl _)
  | some m =>
    have e2 : maxI ns = m := by unfold maxI; rw [e]; rfl
    rw [e2]
    exact List.max?_eq_some_iff.mp e
theorem ek_minL {p : Pos} (hc : X.calm = true) (hm : X.mg "min" = none) (hg : Gl X "min") (h : EvK X F0 e Γ L fun x L1 => ∃ ns : List Int, AsL L1 x (dI ns) ∧ 0 < ns.length ∧ k (.int (minI ns)) L1)
    (he : starEach [e] X.env = (false, eval e X.env) :: starEach [] X.env := by rfl) (hpl : (backTo pos (starEach [] X.env)).any (·.1) = false := by rfl) : EvK X F0 (.Call (.Name "min" p) [e] [] pos) Γ L k := fun F σ H Q E q =>
  wpE.of (pe_callB (cr_min hc) hg hm (by decide +kernel) (pa_cons we pa_nil he) (by decide) (by decide) he hpl) (h F σ H _ E fun x L1 F1 v H1 ⟨ns, a, hl, h1⟩ E1 s1 r1 => by
    obtain ⟨p, xs, rfl, hx, rx⟩ := a.read E1.led r1
    have e := il_reps rx
    subst e
    exact ⟨p, ns, rfl, hx, hl, fun m m1 m2 => by rw [minI_at m1 m2] at h1; exact q _ L1 F1 _ H1 h1 E1 s1 .int⟩)
theorem ek_maxL {p : Pos} (hc : X.calm = true) (hm : X.mg "max" = none) (hg : Gl X "max") (h : EvK X F0 e Γ L fun x L1 => ∃ ns : List Int, AsL L1 x (dI ns) ∧ 0 < ns.length ∧ k (.int (maxI ns)) L1)
    (he : starEach [e] X.env = (false, eval e X.env) :: starEach [] X.env := by rfl) (hpl : (backTo pos (starEach [] X.env)).any (·.1) = false := by rfl) : EvK X F0 (.Call (.Name "max" p) [e] [] pos) Γ L k := fun F σ H Q E q =>
  wpE.of (pe_callB (cr_max hc) hg hm (by decide +kernel) (pa_cons we pa_nil he) (by decide) (by decide) he hpl) (h F σ H _ E fun x L1 F1 v H1 ⟨ns, a, hl, h1⟩ E1 s1 r1 => by
    obtain ⟨p, xs, rfl, hx, rx⟩ := a.read E1.led r1
    have e := il_reps rx
    subst e
    exact ⟨p, ns, rfl, hx, hl, fun m m1 m2 => by rw [maxI_at m1 m2] at h1; exact q _ L1 F1 _ H1 h1 E1 s1 .int⟩)
end
/-! ### xs.extend, xs.clear, xs.pop -/
theorem q_extendL (l : Addr) (items : Array Value) (n : Nat) (b : Addr) (items2 : Array Value) (n2 : Nat) (dd2 : Option Addr) (sl2 : Array (Option Value)) (hc0 : ¬(!items.isEmpty && Builtin.List.listTooLong (items.size + items2.size)) = true) (hc1 : items.size ≤ sizeLine) (hs2 : items.size + items2.size ≤ sizeLine + 1) :
    Meets (Builtin.«list.extend» ⟨[.ref l, .ref b], []⟩) (fun _ R s => s.heap.get? l = some { cls := .type "list", dict := none, data := .seq items n, slots := #[] } ∧ s.heap.get? b = some { cls := .type "list", dict := dd2, data := .seq items2 n2, slots := sl2 } ∧ R (.ok (.ret Value.none)) { s with heap := s.heap.update l (Obj.mapSeq fun x => x ++ items2), toks := s.toks }) :=
  .of_wp fun prog w A R s h => by
    obtain ⟨hp, g, d, tk, os⟩ := s; obtain ⟨hl, hb, h⟩ := h; have f1 := AutoSeq1.idx_int; have f2 := AutoSeq1.sub_tuple_tuple; have f3 := AutoSeq1.sub_list_list; have f4 := AutoSeq1.sub_tuple_list; have f5 := AutoSeq1.sub_list_tuple;
    have hz' : (items ++ items2).size ≤ sizeLine + 1 := by rw [Array.size_append]; exact hs2
    wp_walk using (wpAny_updateSeq hl rfl (hz := hc1) (_hz' := hz')), wpAny_loadPart' hl, wpAny_loadPart' hb; exact ⟨_, rfl, h⟩
theorem q_extendT (l : Addr) (items : Array Value) (n : Nat) (b : Addr) (items2 : Array Value) (n2 : Nat) (dd2 : Option Addr) (sl2 : Array (Option Value)) (hc0 : ¬(!items.isEmpty && Builtin.List.listTooLong (items.size + items2.size)) = true) (hc1 : items.size ≤ sizeLine) (hs2 : items.size + items2.size ≤ sizeLine + 1) :
    Meets (Builtin.«list.extend» ⟨[.ref l, .ref b], []⟩) (fun _ R s => s.heap.get? l = some { cls := .type "list", dict := none, data := .seq items n, slots := #[] } ∧ s.heap.get? b = some { cls := .type "tuple", dict := dd2, data := .seq items2 n2, slots := sl2 } ∧ R (.ok (.ret Value.none)) { s with heap := s.heap.update l (Obj.mapSeq fun x => x ++ items2), toks := s.toks }) :=
  .of_wp fun prog w A R s h => by
    obtain ⟨hp, g, d, tk, os⟩ := s; obtain ⟨hl, hb, h⟩ := h; have f1 := AutoSeq1.idx_int; have f2 := AutoSeq1.sub_tuple_tuple; have f3 := AutoSeq1.sub_list_list; have f4 := AutoSeq1.sub_tuple_list; have f5 := AutoSeq1.sub_list_tuple;
    have hz' : (items ++ items2).size ≤ sizeLine + 1 := by rw [Array.size_append]; exact hs2
    wp_walk using (wpAny_updateSeq hl rfl (hz := hc1) (_hz' := hz')), wpAny_loadPart' hl, wpAny_loadPart' hb; exact ⟨_, rfl, h⟩
def rExtQ (K : PySem.W.Frag) : V → List V → Hp → VK → Prop := fun x vs H Q => ∃ l b xs zs, x = .ref l ∧ vs = [.ref b] ∧ H l = some (.lst xs) ∧ (SqL K H b zs ∨ SqT K H b zs) ∧ xs.length + zs.length ≤ sizeLine ∧ Q .non (upd H l (.lst (xs ++ zs)))
theorem mt_extendQ {X : Cx} : MtM X "list.extend" (rExtQ X.K) := by
  intro pins s σ H x vs v us Q I rx rv h
  obtain ⟨l, b, xs, zs, rfl, rfl, hH, hB, hz, q⟩ := h
  cases rx
  obtain ⟨u, rfl, ru⟩ := rv.one
  cases ru
  obtain ⟨z, its, n, r, hl, e⟩ := I.lstM hH
  rcases hB with hB | hB
  · obtain ⟨its2, r2, ⟨o2, n2, g2, c2, d2, e2⟩, hl2⟩ := I.list hB
    obtain ⟨oc2, od2, dt2, sl2⟩ := o2
    dsimp only at c2 e2
    subst c2 e2
    have hn2 := r2.length
    have hsz : its.toArray.size + its2.toArray.size ≤ sizeLine := by rw [List.size_toArray, List.size_toArray]; omega
    have hlong : ¬ (!its.toArray.isEmpty && Builtin.List.listTooLong (its.toArray.size + its2.toArray.size)) = true := by
      rw [notLongL hsz, Bool.and_false]
      exact Bool.false_ne_true
    refine call_meets PySem.F.slot_list_extend ⟨_, e, rfl⟩ PySem.F.entry_list_extend (PySem.F.args_list_extend_2 _ _)
      (q_extendL l its.toArray n b its2.toArray n2 od2 sl2 hlong (by rw [List.size_toArray]; omega) (by omega)) ⟨e, g2, ?_⟩
    refine ⟨.non, _, I.lset (its' := its ++ its2) hH e (by simp) (r.append r2) ?_, rfl, q⟩
    rw [List.length_append]
    omega
  · obtain ⟨its2, r2, ⟨o2, g2, c2, n2, e2⟩, hl2⟩ := I.tuple hB
    obtain ⟨oc2, od2, dt2, sl2⟩ := o2
    dsimp only at c2 e2
    subst c2 e2
    have hn2 := r2.length
    have hsz : its.toArray.size + its2.toArray.size ≤ sizeLine := by rw [List.size_toArray, List.size_toArray]; omega
    have hlong : ¬ (!its.toArray.isEmpty && Builtin.List.listTooLong (its.toArray.size + its2.toArray.size)) = true := by
      rw [notLongL hsz, Bool.and_false]
      exact Bool.false_ne_true
    refine call_meets PySem.F.slot_list_extend ⟨_, e, rfl⟩ PySem.F.entry_list_extend (PySem.F.args_list_extend_2 _ _)
      (q_extendT l its.toArray n b its2.toArray n2 od2 sl2 hlong (by rw [List.size_toArray]; omega) (by omega)) ⟨e, g2, ?_⟩
    refine ⟨.non, _, I.lset (its' := its ++ its2) hH e (by simp) (r.append r2) ?_, rfl, q⟩
    rw [List.length_append]
    omega
theorem Reps.erase {K : PySem.W.Frag} {F : Hp} : ∀ {ds : List D} {vs : List V} (i : Nat), Reps K F ds vs → Reps K F (ds.eraseIdx i) (vs.eraseIdx i)
  | _, _, _, .nil => .nil
  | _, _, 0, .cons _ t => t
  | _, _, i + 1, .cons q t => .cons q (Reps.erase i t)
section
variable {X : Cx} {F0 : Hp} {Γ : Gm} {L : Lg} {k : D → Lg → Prop} {e o : Expr} {apos cpos : Pos}
/-- xs.extend(e) -/
theorem ek_ext (h : EvK X F0 o Γ L fun x L1 => ∃ p ds1, x = .ref p ∧ AsL L1 x ds1 ∧ EvK X F0 e Γ L1 fun y L2 => ∃ ds es j L3, Get L2 j (p, C.lst ds) ∧ AsS L2 y es ∧ Put L2 j (p, C.lst (ds ++ es)) L3 ∧ ds.length + es.length ≤ sizeLine ∧ k .non L3)
    (hbase : attributeBase o "extend" X.env (eval o X.env) = eval o X.env := by rfl)
    (hfew : ((backTo cpos (starEach [e] X.env)).all (fun x => !x.1) && (backToKw cpos (keywordEach [] X.env)).all (fun x => x.1.isSome)
      && decide (([e] : List Expr).length + ([] : List Keyword).length + (if ([] : List Keyword).isEmpty then 0 else 1) < 30)) = true := by rfl)
    (hline : (apos.endLine == cpos.line) = true := by rfl) (hs : starEach [e] X.env = (false, eval e X.env) :: starEach [] X.env := by rfl) (hplain : (backTo cpos (starEach [] X.env)).any (·.1) = false := by rfl) :
    EvK X F0 (.Call (.Attribute o "extend" apos) [e] [] cpos) Γ L k := fun F σ H Q E q =>
  wpE.of (pe_bm PySem.F.plainAttrs_list PySem.F.slot_list_extend PySem.F.type_list_extend mt_extendQ we (pa_cons we pa_nil hs) hbase hfew hline hs hplain)
    (h F σ H _ E fun x L1 F1 v H1 ⟨p, ds1, e1, a1, h1⟩ E1 s1 r1 => by
      subst e1
      obtain ⟨p', xs1, ev, hx1, _⟩ := a1.read E1.led r1
      cases r1
      refine ⟨?_, ?_⟩
      · cases ev
        exact .inl ⟨rfl, xs1, hx1⟩
      · refine h1 F1 σ H1 _ E1 fun y L2 F2 u H2 ⟨ds, es, j, L3, g, as, pt, hz, h2⟩ E2 s2 r2 => ?_
        obtain ⟨xs, hx, rx⟩ := E2.led.lst g
        obtain ⟨b, zs, rfl, hb, rz⟩ := as.read E2.led r2
        refine ⟨p, b, xs, zs, rfl, rfl, hx, hb, by rw [← rx.length, ← rz.length]; exact hz, ?_⟩
        exact q _ L3 F2 _ _ h2 (E2.to (Same.refl F2) (E2.led.put g pt ⟨_, upd_same, rx.append rz⟩)) (s1.trans s2) .non)
/-- xs.clear() -/
theorem ek_clear (h : EvK X F0 o Γ L fun x L1 => ∃ p ds j L2, x = .ref p ∧ Get L1 j (p, C.lst ds) ∧ Put L1 j (p, C.lst []) L2 ∧ k .non L2)
    (hbase : attributeBase o "clear" X.env (eval o X.env) = eval o X.env := by rfl) (hline : (apos.endLine == cpos.line) = true := by rfl) :
    EvK X F0 (.Call (.Attribute o "clear" apos) [] [] cpos) Γ L k := fun F σ H Q E q =>
  wpE.of (pe_bm0 PySem.F.plainAttrs_list PySem.F.slot_list_clear PySem.F.type_list_clear mt_clear we hbase hline)
    (h F σ H _ E fun x L1 F1 v H1 ⟨p, ds, j, L2, e1, g, pt, h1⟩ E1 s1 r1 => by
      subst e1
      obtain ⟨xs, hx, rx⟩ := E1.led.lst g
      cases r1
      exact ⟨.inl ⟨rfl, xs, .inl (.inl hx)⟩, p, xs, rfl, rfl, hx, q _ L2 F1 _ _ h1 (E1.to (Same.refl F1) (E1.led.put g pt ⟨_, upd_same, .nil⟩)) s1 .non⟩)
/-- xs.pop(i) -/
theorem ek_popAt (h : EvK X F0 o Γ L fun x L1 => ∃ p ds1, x = .ref p ∧ AsL L1 x ds1 ∧ EvK X F0 e Γ L1 fun y L2 => ∃ ds j L3 i n d, y = .int i ∧ Get L2 j (p, C.lst ds) ∧ ixN ds.length i = some n ∧ ds[n]? = some d ∧ ds.length ≤ 1000000 ∧ Put L2 j (p, C.lst (ds.eraseIdx n)) L3 ∧ k d L3)
    (hbase : attributeBase o "pop" X.env (eval o X.env) = eval o X.env := by rfl)
    (hfew : ((backTo cpos (starEach [e] X.env)).all (fun x => !x.1) && (backToKw cpos (keywordEach [] X.env)).all (fun x => x.1.isSome)
      && decide (([e] : List Expr).length + ([] : List Keyword).length + (if ([] : List Keyword).isEmpty then 0 else 1) < 30)) = true := by rfl)
    (hline : (apos.endLine == cpos.line) = true := by rfl) (hs : starEach [e] X.env = (false, eval e X.env) :: starEach [] X.env := by rfl) (hplain : (backTo cpos (starEach [] X.env)).any (·.1) = false := by rfl) :
    EvK X F0 (.Call (.Attribute o "pop" apos) [e] [] cpos) Γ L k := fun F σ H Q E q =>
  wpE.of (pe_bm PySem.F.plainAttrs_list PySem.F.slot_list_pop PySem.F.type_list_pop mt_popAt we (pa_cons we pa_nil hs) hbase hfew hline hs hplain)
    (h F σ H _ E fun x L1 F1 v H1 ⟨p, ds1, e1, a1, h1⟩ E1 s1 r1 => by
      subst e1
      obtain ⟨p', xs1, ev, hx1, _⟩ := a1.read E1.led r1
      cases r1
      refine ⟨?_, ?_⟩
      · cases ev
        exact .inl ⟨rfl, xs1, hx1⟩
      · refine h1 F1 σ H1 _ E1 fun y L2 F2 u H2 ⟨ds, j, L3, i, n, d, e2, g, hi, hd, hz, pt, h2⟩ E2 s2 r2 => ?_
        subst e2
        cases r2
        obtain ⟨xs, hx, rx⟩ := E2.led.lst g
        obtain ⟨i1, i2, i3, i4⟩ := ixN_seq hi
        obtain ⟨w, hw, rw_⟩ := rx.get hd
        rw [rx.length] at i1 i3 i4 hz
        exact ⟨p, xs, i, n, w, rfl, rfl, hx, by omega, by omega, i1, hw, q d L3 F2 _ _ h2 (E2.to (Same.refl F2) (E2.led.put g pt ⟨_, upd_same, rx.erase n⟩)) (s1.trans s2) rw_⟩)
end
end Vs

set_option Elab.async false
set_option linter.all false
set_option maxRecDepth 100000
set_option maxHeartbeats 4000000
namespace Vs
open PySem PySem.Spec PyProof.Rows L2
/-! ### fields and dicts as lists of pairs -/
/-- what stands at a key -/
def atK {κ α : Type} [DecidableEq κ] (k : κ) : List (κ × α) → Option α
  | [] => none
  | (j, x) :: r => if j = k then some x else atK k r
/-- put at a key: in its place, or at the end -/
def putA {κ α : Type} [DecidableEq κ] (k : κ) (v : α) : List (κ × α) → List (κ × α)
  | [] => [(k, v)]
  | (j, x) :: r => if j = k then (j, v) :: r else (j, x) :: putA k v r
def dropA {κ α : Type} [DecidableEq κ] (k : κ) (kvs : List (κ × α)) : List (κ × α) := kvs.filter fun kv => decide (kv.1 ≠ k)
theorem atK_put {κ α : Type} [DecidableEq κ] {k j : κ} {v : α} : ∀ {r : List (κ × α)}, atK j (putA k v r) = if k = j then some v else atK j r
  | [] => by
    show (if k = j then some v else none) = _
    rfl
  | (i, x) :: r => by
    unfold putA
    by_cases hi : i = k
    · rw [if_pos hi]
      subst hi
      show (if i = j then some v else atK j r) = if i = j then some v else if i = j then some x else atK j r
      by_cases h : i = j <;> simp [h]
    · rw [if_neg hi]
      show (if i = j then some x else atK j (putA k v r)) = if k = j then some v else if i = j then some x else atK j r
      rw [atK_put]
      by_cases h : i = j
      · subst h
        rw [if_pos rfl, if_pos rfl, if_neg (fun z => hi z.symm)]
      · rw [if_neg h, if_neg h]
section
variable {K : PySem.W.Frag} {F : Hp}
theorem RepP.lookup {f : Str} {d : D} : ∀ {fs : List (Str × D)} {ps : List (Str × V)}, RepP K F fs ps → atK f fs = some d → ∃ v, ps.lookup f = some v ∧ Rep K F d v
  | _, _, .nil, h => nomatch h
  | (g, y) :: fs, (_, u) :: ps, .cons r t, h => by
    unfold atK at h
    by_cases hg : g = f
    · rw [if_pos hg] at h
      have hb : (f == g) = true := beq_iff_eq.mpr hg.symm
      refine ⟨u, ?_, by rw [← Option.some.inj h]; exact r⟩
      rw [List.lookup_cons, hb]
    · rw [if_neg hg] at h
      obtain ⟨v, h1, h2⟩ := t.lookup h
      have hb : (f == g) = false := beq_eq_false_iff_ne.mpr fun z => hg z.symm
      refine ⟨v, ?_, h2⟩
      rw [List.lookup_cons, hb]
      exact h1
theorem RepP.none {f : Str} : ∀ {fs : List (Str × D)} {ps : List (Str × V)}, RepP K F fs ps → atK f fs = .none → ps.lookup f = .none
  | _, _, .nil, _ => rfl
  | (g, y) :: fs, (_, u) :: ps, .cons r t, h => by
    unfold atK at h
    by_cases hg : g = f
    · rw [if_pos hg] at h
      cases h
    · rw [if_neg hg] at h
      have hb : (f == g) = false := beq_eq_false_iff_ne.mpr fun z => hg z.symm
      rw [List.lookup_cons, hb]
      exact t.none h
theorem RepP.putF {f : Str} {d : D} {v : V} (rd : Rep K F d v) : ∀ {fs : List (Str × D)} {ps : List (Str × V)}, RepP K F fs ps → RepP K F (putA f d fs) (L2.putF f v ps)
  | _, _, .nil => .cons rd .nil
  | (g, y) :: fs, (_, u) :: ps, .cons r t => by
    unfold putA L2.putF
    by_cases hg : g = f
    · rw [if_pos hg, if_pos hg]
      exact .cons rd t
    · rw [if_neg hg, if_neg hg]
      exact .cons r (t.putF rd)
theorem RepP.length {κ : Type} : ∀ {fs : List (κ × D)} {ps : List (κ × V)}, RepP K F fs ps → fs.length = ps.length
  | _, _, .nil => rfl
  | _, _, .cons _ t => congrArg (· + 1) t.length
variable {κ : Type} [DecidableEq κ]
theorem RepP.val {k : κ} : ∀ {fs : List (κ × D)} {ps : List (κ × V)}, RepP K F fs ps → (∀ d, atK k fs = some d → ∃ v, valV ps k = some v ∧ Rep K F d v) ∧ (atK k fs = .none → valV ps k = .none)
  | _, _, .nil => ⟨fun _ h => (nomatch h), fun _ => rfl⟩
  | (g, y) :: fs, (_, u) :: ps, .cons r t => by
    obtain ⟨h1, h2⟩ := RepP.val (k := k) t
    by_cases hg : g = k
    · refine ⟨fun d h => ?_, fun h => ?_⟩
      · unfold atK at h
        rw [if_pos hg] at h
        exact ⟨u, valV_pos (p := (g, u)) hg, by rw [← Option.some.inj h]; exact r⟩
      · unfold atK at h
        rw [if_pos hg] at h
        cases h
    · refine ⟨fun d h => ?_, fun h => ?_⟩
      · unfold atK at h
        rw [if_neg hg] at h
        obtain ⟨v, h3, h4⟩ := h1 d h
        exact ⟨v, (valV_neg (p := (g, u)) hg).trans h3, h4⟩
      · unfold atK at h
        rw [if_neg hg] at h
        exact (valV_neg (p := (g, u)) hg).trans (h2 h)
/-- as the dict itself does it -/
def putB (kvs : List (κ × D)) (k : κ) (v : D) : List (κ × D) := if (kvs.any fun kv => decide (kv.1 = k)) = true then kvs.map (fun kv => if kv.1 = k then (kv.1, v) else kv) else kvs ++ [(k, v)]
theorem RepP.any {k : κ} : ∀ {fs : List (κ × D)} {ps : List (κ × V)}, RepP K F fs ps → (fs.any fun kv => decide (kv.1 = k)) = (ps.any fun kv => decide (kv.1 = k))
  | _, _, .nil => rfl
  | (g, y) :: fs, (_, u) :: ps, .cons r t => by rw [List.any_cons, List.any_cons, t.any]
theorem RepP.app {fs gs : List (κ × D)} {ps qs : List (κ × V)} (h : RepP K F fs ps) (h2 : RepP K F gs qs) : RepP K F (fs ++ gs) (ps ++ qs) := by
  induction h with
  | nil => exact h2
  | cons r t ih => exact .cons r ih
theorem RepP.mapK {k : κ} {d : D} {v : V} (rd : Rep K F d v) : ∀ {fs : List (κ × D)} {ps : List (κ × V)}, RepP K F fs ps → RepP K F (fs.map fun kv => if kv.1 = k then (kv.1, d) else kv) (ps.map fun kv => if kv.1 = k then (kv.1, v) else kv)
  | _, _, .nil => .nil
  | (g, y) :: fs, (_, u) :: ps, .cons r t => by
    rw [List.map_cons, List.map_cons]
    by_cases hg : g = k
    · simp only [hg, if_true]
      exact .cons rd (RepP.mapK rd t)
    · simp only [hg, if_false]
      exact .cons r (RepP.mapK rd t)
theorem RepP.putK {k : κ} {d : D} {v : V} (rd : Rep K F d v) {fs : List (κ × D)} {ps : List (κ × V)} (h : RepP K F fs ps) : RepP K F (putB fs k d) (L2.putK ps k v) := by
  unfold putB L2.putK
  rw [h.any (k := k)]
  split
  · exact h.mapK rd
  · exact h.app (.cons rd .nil)
theorem RepP.drop {k : κ} : ∀ {fs : List (κ × D)} {ps : List (κ × V)}, RepP K F fs ps → RepP K F (dropA k fs) (dropK ps k)
  | _, _, .nil => .nil
  | (g, y) :: fs, (_, u) :: ps, .cons r t => by
    have ih := RepP.drop (k := k) t
    unfold dropA L2.dropK at ih ⊢
    rw [List.filter_cons, List.filter_cons]
    by_cases hg : g = k
    · simp only [hg, ne_eq, not_true, decide_false, Bool.false_eq_true, if_false]
      simpa using ih
    · simp only [hg, ne_eq, not_false_iff, decide_true, if_true]
      exact .cons r (by simpa using ih)
end
/-- a dict's keys are unlike -/
def Nd {κ α : Type} (kvs : List (κ × α)) : Prop := (kvs.map (·.1)).Nodup
theorem Led.new2 {K : PySem.W.Frag} {F : Hp} {L : Lg} {H : Hp} {x dx : Addr} {Cc : Addr} (e : Led K F L H) (h : H x = none) (hd : H dx = none) (ne : dx ≠ x) : Led K F ((x, .obj Cc []) :: L) (upd (upd H dx (.own x)) x (.ins Cc dx [])) := by
  have nx := e.nofr h
  have nd := e.nofr hd
  refine ⟨fun b u z => ?_, ?_, fun p hp => ?_⟩
  · have n1 : b ≠ x := ne_of_none (e.sub b u z) h
    have n2 : b ≠ dx := ne_of_none (e.sub b u z) hd
    rw [upd_ne n1, upd_ne n2]
    exact e.sub b u z
  · rw [List.map_cons]
    refine List.nodup_cons.mpr ⟨fun z => ?_, e.nod⟩
    obtain ⟨p, hp, z⟩ := List.mem_map.mp z
    exact nx p hp z
  · rcases List.mem_cons.mp hp with rfl | hp
    · exact ⟨e.free h, dx, [], upd_same, .nil⟩
    · obtain ⟨h1, h2⟩ := e.ent p hp
      exact ⟨h1, h2.mono (Same.refl F) ((upd_ne (nx p hp)).trans (upd_ne (nd p hp)))⟩
/-! calls that may raise, at the slots -/
section
variable {X : Cx} {k : Nat} {f Cl : Addr} {fd : FuncData} {ps : List Str} {sp : Sp} {E : L2.St → XK} {x m : Str} {p pos apos : Pos} {e o : Expr} {es : List Expr} {ta : TE} {t : TA}
def tMethS (Cl : Addr) (m : Str) (sp : Sp) (E : L2.St → XK) (ta : TE) (t : TA) : TE := fun σ H Q => ta σ H fun x H1 => ∃ a dx fs, x = .ref a ∧ H1 a = some (.ins Cl dx fs) ∧ fs.lookup m = none ∧ t σ H1 fun vs H2 => sp (x :: vs) H2 Q (E σ)
def tMakeS (Cl : Addr) (sp : Sp) (E : L2.St → XK) (t : TA) : TE := fun σ H Q => t σ H fun vs H1 => ∀ x dx, H1 x = none → H1 dx = none → dx ≠ x → sp (.ref x :: vs) (upd (upd H1 dx (.own x)) x (.ins Cl dx [])) (fun v H2 => v = .non ∧ Q (.ref x) H2) (E σ)
theorem pe_methS {pl : Sem Bool} (he : PE X o ta) (c : Cls X.K Cl) (hm : Meth X.K Cl m f) (F : FnOk X.prog X.w X.K X.mg X.base (L2N.CX X.prog X.w) k f fd ps sp) (hr : Room k X.A) (hb : Binds X.K fd ps []) (hx : ∀ σ, PassesAt (L2N.CX X.prog X.w) X σ (E σ)) (ha : PA X (e :: es) t)
    (hst : starEach (e :: es) X.env = (false, eval e X.env) :: starEach es X.env := by rfl) (hpl : (backTo pos (starEach es X.env)).any (·.1) = false := by rfl)
    (ht : eval (.Call (.Attribute o m apos) (e :: es) [] pos) X.env = (do
      let ov ← eval o X.env
      standAt apos.atName
      let (f, first) ← holding [ov] (getMethod ov m pl)
      callWith pos f first (backTo pos (starEach (e :: es) X.env)) (backToKw pos (keywordEach [] X.env))) := by rfl) :
    PE X (.Call (.Attribute o m apos) (e :: es) [] pos) (tMethS Cl m sp E ta t) := by
  refine ⟨fun pins s σ H Q I h => ?_⟩
  refine PySem.W.methodCall_KW (pl := pl) (thn (he.run pins s σ H _ I h) fun u s1 ⟨x, H1, I1, rx, a, dx, fs, ex, ea, l, q⟩ => ?_) ht
  subst ex
  obtain rfl : u = Value.ref a := rx
  refine getmeth_ok I1 ea c hm l ?_
  refine PySem.W.callWith_K (first := [.ref a]) (h₀ := X.base) I.ok.mod.kin hm.kp (thn (ha.run pos pins s1 σ H1 _ I1 q) fun us s2 ⟨vs, H2, I2, r, q2⟩ => ⟨I2.kIn, ?_⟩) hst hpl
  exact run_fnS (us := .ref a :: us) (vs := .ref a :: vs) F hr hb (hx σ) I2 (.cons rfl r) q2
theorem pe_meth0S {pl : Sem Bool} (he : PE X o ta) (c : Cls X.K Cl) (hm : Meth X.K Cl m f) (F : FnOk X.prog X.w X.K X.mg X.base (L2N.CX X.prog X.w) k f fd ps sp) (hr : Room k X.A) (hb : Binds X.K fd ps []) (hx : ∀ σ, PassesAt (L2N.CX X.prog X.w) X σ (E σ))
    (ht : eval (.Call (.Attribute o m apos) [] [] pos) X.env = (do
      let ov ← eval o X.env
      standAt apos.atName
      let (f, first) ← holding [ov] (getMethod ov m pl)
      callWith pos f first (backTo pos (starEach [] X.env)) (backToKw pos (keywordEach [] X.env))) := by rfl) :
    PE X (.Call (.Attribute o m apos) [] [] pos) (tMethS Cl m sp E ta tNil) := by
  refine ⟨fun pins s σ H Q I h => ?_⟩
  refine PySem.W.methodCall_KW (pl := pl) (thn (he.run pins s σ H _ I h) fun u s1 ⟨x, H1, I1, rx, a, dx, fs, ex, ea, l, q⟩ => ?_) ht
  subst ex
  obtain rfl : u = Value.ref a := rx
  refine getmeth_ok I1 ea c hm l ?_
  exact PySem.W.callWith_K0 (first := [.ref a]) I1.kIn hm.kp (run_fnS (us := [.ref a]) (vs := [.ref a]) F hr hb (hx σ) I1 (.cons rfl .nil) q)
theorem run_makeS {pins : List (Addr × Obj)} {σ : L2.St} {H : Hp} {s : Shared} {Q : VK} {us : List Value} {vs : List V} (M : L2.Mk X.K Cl f) (F : FnOk X.prog X.w X.K X.mg X.base (L2N.CX X.prog X.w) k f fd ps sp) (hr : Room (k + 1) X.A) (hb : Binds X.K fd ps [])
    (hx : PassesAt (L2N.CX X.prog X.w) X σ (E σ)) (I : Inv X pins σ H s) (r : Vals vs us)
    (h : ∀ x dx, H x = none → H dx = none → dx ≠ x → sp (.ref x :: vs) (upd (upd H dx (.own x)) x (.ins Cl dx [])) (fun v H2 => v = .non ∧ Q (.ref x) H2) (E σ)) :
    wpAny (model X.prog X.w) X.A (call (.ref Cl) us) (EP X pins σ Q) X.xe s := by
  have hq := h (s.heap.objs.size + 1) s.heap.objs.size (I.hok.fresh (Nat.le_succ _)) (I.hok.fresh (Nat.le_refl _)) (Nat.ne_of_lt (Nat.lt_succ_self _))
  have I2 := Inv.made (C := Cl) I
  have r2 : Vals (V.ref (s.heap.objs.size + 1) :: vs) (Value.ref (s.heap.objs.size + 1) :: us) := .cons rfl r
  have hl : (Value.ref (s.heap.objs.size + 1) :: us).length = ps.length := by
    have e := r2.length
    rw [F.len _ _ _ _ hq] at e
    exact e.symm
  have b := hb _ (Value.ref (s.heap.objs.size + 1) :: us) I2.kIn (by rw [List.append_nil]; exact hl)
  rw [List.append_nil] at b
  refine wpAny_call (make_map (f := f) I.kIn M.makes M.init (beq_iff_eq.mp M.fn) (codeAny_mono (F.run _ X.stack _ _ ⟨Value.ref (s.heap.objs.size + 1) :: us, []⟩ (Value.ref (s.heap.objs.size + 1) :: us) _ _ (E σ) (hr.make Cl us [])
    (I2.env0.make Cl us []) b r2 hq) fun r s' hq' => ?_))
  cases r with
  | error e => exact hx pins _ _ e s' I2 hq'
  | ok fl =>
    cases fl with
    | ret u =>
      obtain ⟨v, H', I3, rv, ev, q3⟩ := I2.after hq'
      subst ev
      exact ⟨rv, ⟨V.ref (s.heap.objs.size + 1), H', I3, rfl, q3⟩⟩
    | next => exact False.elim hq'
    | brk => exact False.elim hq'
    | cont => exact False.elim hq'
theorem pe_makeS (M : L2.Mk X.K Cl f) (F : FnOk X.prog X.w X.K X.mg X.base (L2N.CX X.prog X.w) k f fd ps sp) (hr : Room (k + 1) X.A) (hg : Gl X x) (hm : X.mg x = some (.ref Cl)) (hb : Binds X.K fd ps []) (hx : ∀ σ, PassesAt (L2N.CX X.prog X.w) X σ (E σ))
    (ha : PA X (e :: es) t) (hdb : (x == ("__debug__" : Str)) = false := by decide) (he : starEach (e :: es) X.env = (false, eval e X.env) :: starEach es X.env := by rfl) (hpl : (backTo pos (starEach es X.env)).any (·.1) = false := by rfl) :
    PE X (.Call (.Name x p) (e :: es) [] pos) (tMakeS Cl sp E t) := by
  refine ⟨fun pins s σ H Q I h => ?_⟩
  refine wpAny_Call_Name_kw (ld_glob I hg hm ?_ hdb)
  refine PySem.W.callWith_K (h₀ := X.base) I.ok.mod.kin M.kp (thn (ha.run pos pins s σ H _ I h) fun us s1 ⟨vs, H1, I1, r, q⟩ => ⟨I1.kIn, ?_⟩) he hpl
  exact run_makeS M F hr hb (hx σ) I1 r q
theorem pe_make0S (M : L2.Mk X.K Cl f) (F : FnOk X.prog X.w X.K X.mg X.base (L2N.CX X.prog X.w) k f fd ps sp) (hr : Room (k + 1) X.A) (hg : Gl X x) (hm : X.mg x = some (.ref Cl)) (hb : Binds X.K fd ps []) (hx : ∀ σ, PassesAt (L2N.CX X.prog X.w) X σ (E σ))
    (hdb : (x == ("__debug__" : Str)) = false := by decide) : PE X (.Call (.Name x p) [] [] pos) (tMakeS Cl sp E tNil) := by
  refine ⟨fun pins s σ H Q I h => ?_⟩
  refine wpAny_Call_Name_kw (ld_glob I hg hm ?_ hdb)
  exact PySem.W.callWith_K0 I.kIn M.kp (run_makeS (us := []) M F hr hb (hx σ) I .nil h)
end
/-- a method of the class at Cl -/
structure Met (P : Program) (w : World) (K : PySem.W.Frag) (mg : Str → Option Value) (base : Heap) (n : Nat) (Cl : Addr) (m : Str) (ps : List Str) (S : SpD) : Prop where
  cl : Cls K Cl
  ex : ∃ f fd, Meth K Cl m f ∧ Binds K fd ps [] ∧ FnOk P w K mg base (L2N.CX P w) n f fd ps (spOf K S)
abbrev MetX (X : Cx) (n : Nat) (Cl : Addr) (m : Str) (ps : List Str) (S : SpD) : Prop := Met X.prog X.w X.K X.mg X.base n Cl m ps S
/-- the class x can be made by its __init__ -/
structure Mkr (P : Program) (w : World) (K : PySem.W.Frag) (mg : Str → Option Value) (base : Heap) (n : Nat) (x : Str) (Cl : Addr) (ps : List Str) (S : SpD) : Prop where
  gm : mg x = some (.ref Cl)
  ex : ∃ f fd, L2.Mk K Cl f ∧ Binds K fd ps [] ∧ FnOk P w K mg base (L2N.CX P w) n f fd ps (spOf K S)
abbrev MkX (X : Cx) (n : Nat) (x : Str) (Cl : Addr) (ps : List Str) (S : SpD) : Prop := Mkr X.prog X.w X.K X.mg X.base n x Cl ps S
theorem Met.imp {P : Program} {w : World} {K : PySem.W.Frag} {mg : Str → Option Value} {base : Heap} {n : Nat} {Cl : Addr} {m : Str} {ps : List Str} {S S' : SpD} (G : Met P w K mg base n Cl m ps S) (h : ∀ ds L q e, S' ds L q e → S ds L q e) : Met P w K mg base n Cl m ps S' := by
  obtain ⟨f, fd, h1, h3, F⟩ := G.ex
  exact ⟨G.cl, f, fd, h1, h3, F.imp fun vs H Q E ⟨F, ds, L, q, e, l, r, s, k1, k2⟩ => ⟨F, ds, L, q, e, l, r, h ds L q e s, k1, k2⟩⟩
theorem Mkr.imp {P : Program} {w : World} {K : PySem.W.Frag} {mg : Str → Option Value} {base : Heap} {n : Nat} {x : Str} {Cl : Addr} {ps : List Str} {S S' : SpD} (G : Mkr P w K mg base n x Cl ps S) (h : ∀ ds L q e, S' ds L q e → S ds L q e) : Mkr P w K mg base n x Cl ps S' := by
  obtain ⟨f, fd, h1, h3, F⟩ := G.ex
  exact ⟨G.gm, f, fd, h1, h3, F.imp fun vs H Q E ⟨F, ds, L, q, e, l, r, s, k1, k2⟩ => ⟨F, ds, L, q, e, l, r, h ds L q e s, k1, k2⟩⟩
section
variable {X : Cx} {F0 : Hp} {Γ : Gm} {L : Lg} {k : D → Lg → Prop} {ka : List D → Lg → Prop} {kt : Bool → Lg → Prop} {e a b c o i : Expr} {es rest : List Expr} {pos p2 apos cpos p' : Pos} {N Nc : List Str} {sc : Scope} {Z : Xc → Gm → Lg → Prop}
/-- o.f -/
theorem ek_fld {f : Str} {Cl : Addr} (cl : Cls X.K Cl) (na : NoAttr X.K Cl f) (h : EvK X F0 o Γ L fun x L1 => ∃ p fs j d, x = .ref p ∧ Get L1 j (p, C.obj Cl fs) ∧ atK f fs = some d ∧ k d L1)
    (hb : attributeBase o f X.env (eval o X.env) = eval o X.env := by rfl) : EvK X F0 (.Attribute o f pos) Γ L k := fun F σ H Q E q =>
  wpE.of (pe_fld we hb) (h F σ H _ E fun x L1 F1 v H1 ⟨p, fs, j, d, e1, g, hl, h1⟩ E1 s1 r1 => by
    subst e1
    cases r1
    obtain ⟨_, dx, ps, h2, h3⟩ := E1.led.ent _ g.mem
    obtain ⟨u, h4, h5⟩ := h3.lookup hl
    exact ⟨p, Cl, dx, ps, u, rfl, h2, cl, na, h4, q d L1 F1 u H1 h1 E1 s1 h5⟩)
/-- o.f = e -/
theorem sk_fld {f : Str} {Cl : Addr} {ks : Ks} (cl : Cls X.K Cl) (na : NoAttr X.K Cl f) (h : EvK X F0 e Γ L fun y L1 => EvK X F0 o Γ L1 fun x L2 => ∃ p fs j L3, x = .ref p ∧ Get L2 j (p, C.obj Cl fs) ∧ fs.length < 1000 ∧ Put L2 j (p, C.obj Cl (putA f y fs)) L3 ∧ ks.nx Γ L3)
    (hs : swapsWith e (some (.Attribute o f p')) pos.line X.env = pure false := by rfl) : SK X F0 (.Assign [.Attribute o f p'] e pos) Γ L ks := fun F σ H Dn E q =>
  wpS.of (ps_fld we we hs) (h F σ H _ E fun y L1 F1 v H1 h1 E1 s1 r1 => h1 F1 σ H1 _ E1 fun x L2 F2 u H2 ⟨p, fs, j, L3, e1, g, hz, pt, h2⟩ E2 s2 r2 => by
    subst e1
    cases r2
    obtain ⟨_, dx, ps, h3, h4⟩ := E2.led.ent _ g.mem
    exact ⟨p, Cl, dx, ps, rfl, h3, cl, na, by rw [← h4.length]; exact hz, q.nx Γ L3 F2 σ _ h2 (E2.to (Same.refl F2) (E2.led.put g pt ⟨dx, _, upd_same, h4.putF (r1.mono s2)⟩))⟩)
/-- o.m(e, ..) -/
theorem ek_meth {m : Str} {Cl : Addr} {n : Nat} {ps : List Str} {S : SpD} {pl : Sem Bool} (tk : L2N.Takes X (ZW X.K F0 Z)) (G : MetX X n Cl m ps S) (hr : Room n X.A)
    (h : EvK X F0 o Γ L fun x L1 => ∃ p fs j, x = .ref p ∧ Get L1 j (p, C.obj Cl fs) ∧ atK m fs = none ∧ EaK X F0 (e :: es) Γ L1 fun ds L2 => S (.ref p :: ds) L2 k fun x L3 => Z x Γ L3)
    (hst : starEach (e :: es) X.env = (false, eval e X.env) :: starEach es X.env := by rfl) (hpl : (backTo pos (starEach es X.env)).any (·.1) = false := by rfl)
    (ht : eval (.Call (.Attribute o m apos) (e :: es) [] pos) X.env = (do
      let ov ← eval o X.env
      standAt apos.atName
      let (f, first) ← holding [ov] (getMethod ov m pl)
      callWith pos f first (backTo pos (starEach (e :: es) X.env)) (backToKw pos (keywordEach [] X.env))) := by rfl) :
    EvK X F0 (.Call (.Attribute o m apos) (e :: es) [] pos) Γ L k := fun F σ H Q E q => by
  obtain ⟨f, fd, hm, hb, G2⟩ := G.ex
  refine wpE.of (pe_methS (pl := pl) (E := L2.WE (ZW X.K F0 Z)) we G.cl hm G2 hr hb (fun σ => L2N.passAt tk σ) wa hst hpl ht) ?_
  refine h F σ H _ E fun x L1 F1 v H1 ⟨p, fs, j, e1, g, ha, h1⟩ E1 s1 r1 => ?_
  subst e1
  cases r1
  obtain ⟨_, dx, qs, h3, h4⟩ := E1.led.ent _ g.mem
  refine ⟨p, dx, qs, rfl, h3, h4.none ha, h1 F1 σ H1 _ E1 fun ds L2 F2 vs H2 h2 E2 s2 r2 => ?_⟩
  exact ⟨F2, .ref p :: ds, L2, k, fun x L3 => Z x Γ L3, E2.led, .cons .ref r2, h2, fun r L' F' v H' hq s3 l3 r3 => q r L' F' v H' hq ⟨E2.ge.trans s3, l3, E2.sl.mono s3⟩ (s1.trans (s2.trans s3)) r3,
    fun x L' F' od H' he s3 l3 x3 => ⟨x, Γ, L', F', rfl, he, ⟨E2.ge.trans s3, l3, E2.sl.mono s3⟩, x3⟩⟩
theorem ek_meth0 {m : Str} {Cl : Addr} {n : Nat} {ps : List Str} {S : SpD} {pl : Sem Bool} (tk : L2N.Takes X (ZW X.K F0 Z)) (G : MetX X n Cl m ps S) (hr : Room n X.A)
    (h : EvK X F0 o Γ L fun x L1 => ∃ p fs j, x = .ref p ∧ Get L1 j (p, C.obj Cl fs) ∧ atK m fs = none ∧ S [.ref p] L1 k fun x L3 => Z x Γ L3)
    (ht : eval (.Call (.Attribute o m apos) [] [] pos) X.env = (do
      let ov ← eval o X.env
      standAt apos.atName
      let (f, first) ← holding [ov] (getMethod ov m pl)
      callWith pos f first (backTo pos (starEach [] X.env)) (backToKw pos (keywordEach [] X.env))) := by rfl) :
    EvK X F0 (.Call (.Attribute o m apos) [] [] pos) Γ L k := fun F σ H Q E q => by
  obtain ⟨f, fd, hm, hb, G2⟩ := G.ex
  refine wpE.of (pe_meth0S (pl := pl) (E := L2.WE (ZW X.K F0 Z)) we G.cl hm G2 hr hb (fun σ => L2N.passAt tk σ) ht) ?_
  refine h F σ H _ E fun x L1 F1 v H1 ⟨p, fs, j, e1, g, ha, h1⟩ E1 s1 r1 => ?_
  subst e1
  cases r1
  obtain ⟨_, dx, qs, h3, h4⟩ := E1.led.ent _ g.mem
  refine ⟨p, dx, qs, rfl, h3, h4.none ha, ?_⟩
  exact ⟨F1, [.ref p], L1, k, fun x L3 => Z x Γ L3, E1.led, .cons .ref .nil, h1, fun r L' F' v H' hq s3 l3 r3 => q r L' F' v H' hq ⟨E1.ge.trans s3, l3, E1.sl.mono s3⟩ (s1.trans s3) r3,
    fun x L' F' od H' he s3 l3 x3 => ⟨x, Γ, L', F', rfl, he, ⟨E1.ge.trans s3, l3, E1.sl.mono s3⟩, x3⟩⟩
/-- C(e, ..) -/
theorem ek_make {x : Str} {Cl : Addr} {n : Nat} {ps : List Str} {S : SpD} {p : Pos} (tk : L2N.Takes X (ZW X.K F0 Z)) (G : MkX X n x Cl ps S) (hr : Room (n + 1) X.A) (h : EaK X F0 (e :: es) Γ L fun ds L1 => ∀ p, S (.ref p :: ds) ((p, .obj Cl []) :: L1) (fun d L2 => d = .non ∧ k (.ref p) L2) fun x L2 => Z x Γ L2) (hg : Gl X x)
    (hdb : (x == ("__debug__" : Str)) = false := by decide) (he : starEach (e :: es) X.env = (false, eval e X.env) :: starEach es X.env := by rfl) (hpl : (backTo pos (starEach es X.env)).any (·.1) = false := by rfl) :
    EvK X F0 (.Call (.Name x p) (e :: es) [] pos) Γ L k := fun F σ H Q E q => by
  obtain ⟨f, fd, hm, hb, G2⟩ := G.ex
  refine wpE.of (pe_makeS (E := L2.WE (ZW X.K F0 Z)) hm G2 hr hg G.gm hb (fun σ => L2N.passAt tk σ) wa hdb he hpl) ?_
  refine h F σ H _ E fun ds L1 F1 vs H1 h1 E1 s1 r1 x dx hx hdx ne => ?_
  have l := E1.led.new2 (Cc := Cl) hx hdx ne
  exact ⟨F1, .ref x :: ds, (x, .obj Cl []) :: L1, _, fun y L2 => Z y Γ L2, l, .cons .ref r1, h1 x, fun r L' F' v H' ⟨hn, hq⟩ s3 l3 r3 => by
      subst hn
      cases r3
      exact ⟨rfl, q _ L' F' _ H' hq ⟨E1.ge.trans s3, l3, E1.sl.mono s3⟩ (s1.trans s3) .ref⟩,
    fun y L' F' od H' he s3 l3 x3 => ⟨y, Γ, L', F', rfl, he, ⟨E1.ge.trans s3, l3, E1.sl.mono s3⟩, x3⟩⟩
theorem ek_make0 {x : Str} {Cl : Addr} {n : Nat} {ps : List Str} {S : SpD} {p : Pos} (tk : L2N.Takes X (ZW X.K F0 Z)) (G : MkX X n x Cl ps S) (hr : Room (n + 1) X.A) (h : ∀ p, S [.ref p] ((p, .obj Cl []) :: L) (fun d L2 => d = .non ∧ k (.ref p) L2) fun x L2 => Z x Γ L2) (hg : Gl X x)
    (hdb : (x == ("__debug__" : Str)) = false := by decide) : EvK X F0 (.Call (.Name x p) [] [] pos) Γ L k := fun F σ H Q E q => by
  obtain ⟨f, fd, hm, hb, G2⟩ := G.ex
  refine wpE.of (pe_make0S (E := L2.WE (ZW X.K F0 Z)) hm G2 hr hg G.gm hb (fun σ => L2N.passAt tk σ) hdb) ?_
  intro x dx hx hdx ne
  have l := E.led.new2 (Cc := Cl) hx hdx ne
  exact ⟨F, [.ref x], (x, .obj Cl []) :: L, _, fun y L2 => Z y Γ L2, l, .cons .ref .nil, h x, fun r L' F' v H' ⟨hn, hq⟩ s3 l3 r3 => by
      subst hn
      cases r3
      exact ⟨rfl, q _ L' F' _ H' hq ⟨E.ge.trans s3, l3, E.sl.mono s3⟩ s3 .ref⟩,
    fun y L' F' od H' he s3 l3 x3 => ⟨y, Γ, L', F', rfl, he, ⟨E.ge.trans s3, l3, E.sl.mono s3⟩, x3⟩⟩
end
end Vs

set_option Elab.async false
set_option linter.all false
set_option maxRecDepth 100000
set_option maxHeartbeats 4000000
namespace Vs
open PySem PySem.Spec PyProof.Rows L2
/-! ### dicts -/
def kD : Key → D
  | .inl i => .int i
  | .inr x => .str x
theorem kD_v {K : PySem.W.Frag} {F : Hp} {k : Key} {v : V} (r : Rep K F (kD k) v) : v = kV k := by
  cases k <;> cases r <;> rfl
theorem kD_rep {K : PySem.W.Frag} {F : Hp} {k : Key} : Rep K F (kD k) (kV k) := by
  cases k
  · exact .int
  · exact .str
theorem atK_putB {κ : Type} [DecidableEq κ] {kvs : List (κ × D)} {k j : κ} {v : D} : atK j (putB kvs k v) = if k = j then some v else atK j kvs := by
  unfold putB
  have hm : ∀ l : List (κ × D), atK j (l.map fun kv => if kv.1 = k then (kv.1, v) else kv) = if k = j then (if (l.any fun kv => decide (kv.1 = k)) = true then some v else none) else atK j l := fun l => by
    induction l with
    | nil => by_cases h : k = j <;> simp [atK, h]
    | cons p l ih =>
      obtain ⟨g, y⟩ := p
      rw [List.map_cons, List.any_cons]
      by_cases hg : g = k
      · subst hg
        simp only [if_true, decide_true, Bool.true_or]
        show (if g = j then some v else _) = _
        by_cases h : g = j
        · rw [if_pos h, if_pos h]
        · rw [if_neg h, if_neg h, ih, if_neg h]
          show _ = (if g = j then some y else atK j l)
          rw [if_neg h]
      · simp only [if_neg hg, decide_eq_false hg, Bool.false_or]
        show (if g = j then some y else _) = _
        by_cases h : k = j
        · rw [if_pos h, if_neg (fun z => hg (z.trans h.symm)), ih, if_pos h]
        · rw [if_neg h]
          show _ = (if g = j then some y else atK j l)
          by_cases h2 : g = j
          · rw [if_pos h2, if_pos h2]
          · rw [if_neg h2, if_neg h2, ih, if_neg h]
  have ha : ∀ l : List (κ × D), (l.any fun kv => decide (kv.1 = k)) = false → atK j (l ++ [(k, v)]) = if k = j then some v else atK j l := fun l => by
    induction l with
    | nil => intro _; rfl
    | cons p l ih =>
      obtain ⟨g, y⟩ := p
      intro h
      rw [List.any_cons, Bool.or_eq_false_iff] at h
      have hg : ¬ g = k := of_decide_eq_false h.1
      show (if g = j then some y else atK j (l ++ [(k, v)])) = if k = j then some v else if g = j then some y else atK j l
      rw [ih h.2]
      by_cases h1 : g = j
      · rw [if_pos h1, if_pos h1, if_neg (fun z => hg (h1.trans z.symm))]
      · rw [if_neg h1, if_neg h1]
  split
  · rename_i h
    rw [hm, if_pos h]
  · rename_i h
    exact ha kvs (by simpa only [Bool.not_eq_true] using h)
theorem putB_len {κ : Type} [DecidableEq κ] {kvs : List (κ × D)} {k : κ} {v : D} : (putB kvs k v).length ≤ kvs.length + 1 := by
  unfold putB
  split
  · rw [List.length_map]; omega
  · rw [List.length_append]; exact Nat.le_refl _
theorem putB_new {κ : Type} [DecidableEq κ] {kvs : List (κ × D)} {k : κ} {v : D} (h : atK k kvs = none) : putB kvs k v = kvs ++ [(k, v)] := by
  unfold putB
  rw [if_neg]
  intro z
  induction kvs with
  | nil => cases z
  | cons p l ih =>
    obtain ⟨g, y⟩ := p
    unfold atK at h
    by_cases hg : g = k
    · rw [if_pos hg] at h; cases h
    · rw [if_neg hg] at h
      rw [List.any_cons, decide_eq_false hg, Bool.false_or] at z
      exact ih h z
/-- a dict that is read: of the ledger, or locked while it is walked -/
inductive AsD (F1 : Hp) (K : PySem.W.Frag) (L : Lg) : D → List (Key × D) → Prop
  | own {p : Addr} {kvs : List (Key × D)} {j : Nat} : Get L j (p, C.dic kvs) → AsD F1 K L (.ref p) kvs
  | lok {p : Addr} {kvs : List (Key × D)} {od : Obj} {ps : List (Key × V)} : F1 p = some (.frz od (.dK ps)) → RepP K F1 kvs ps → AsD F1 K L (.ref p) kvs
theorem AsD.read {K : PySem.W.Frag} {F1 F H : Hp} {L : Lg} {x : D} {v : V} {kvs : List (Key × D)} (a : AsD F1 K L x kvs) (s : Same F1 F) (l : Led K F L H) (r : Rep K F x v) : ∃ p ps, v = .ref p ∧ Rd H p (.dK ps) ∧ RepP K F kvs ps := by
  cases a with
  | own g =>
    cases r
    obtain ⟨_, ps, h1, h2⟩ := l.ent _ g.mem
    exact ⟨_, ps, rfl, .inl h1, h2⟩
  | lok h1 h2 =>
    cases r
    exact ⟨_, _, rfl, .inr ⟨_, l.sub _ _ (s _ _ h1)⟩, h2.mono s⟩
theorem AsD.app {F1 : Hp} {K : PySem.W.Frag} {L M : Lg} {x : D} {kvs : List (Key × D)} (a : AsD F1 K L x kvs) : AsD F1 K (L ++ M) x kvs := by
  cases a with
  | own g => exact .own g.app
  | lok h1 h2 => exact .lok h1 h2
theorem AsD.up {F0 F1 : Hp} {K : PySem.W.Frag} {L : Lg} {x : D} {kvs : List (Key × D)} (a : AsD F0 K L x kvs) (s : Same F0 F1) : AsD F1 K L x kvs := by
  cases a with
  | own g => exact .own g
  | lok h1 h2 => exact .lok (s _ _ h1) (h2.mono s)
theorem rd_get {K : PySem.W.Frag} {F H : Hp} {p : Addr} {kvs : List (Key × D)} {ps : List (Key × V)} {k : Key} (r : Rd H p (.dK ps)) (rp : RepP K F kvs ps) : ∃ o, DGet H p (kV k) o ∧ (∀ d, atK k kvs = some d → ∃ v, o = some v ∧ Rep K F d v) ∧ o.isSome = (atK k kvs).isSome := by
  obtain ⟨h1, h2⟩ := rp.val (k := k)
  refine ⟨valV ps k, .inl ⟨ps, k, r, rfl, rfl⟩, fun d hd => h1 d hd, ?_⟩
  cases e : atK k kvs with
  | none => rw [h2 e]; rfl
  | some d =>
    obtain ⟨v, hv, _⟩ := h1 d e
    rw [hv]
    rfl
section
variable {X : Cx} {F0 : Hp} {Γ : Gm} {L : Lg} {k : D → Lg → Prop} {ka : List D → Lg → Prop} {kt : Bool → Lg → Prop} {e a b c o i f : Expr} {es rest : List Expr} {pos p2 apos cpos p' : Pos} {N Nc : List Str} {sc : Scope} {Z : Xc → Gm → Lg → Prop}
theorem ek_dnew (h : ∀ p, k (.ref p) ((p, .dic []) :: L)) : EvK X F0 (.Dict [] [] pos) Γ L k := fun F σ H Q E q =>
  wpE.of pe_dnewK fun p hp => q _ _ F _ _ (h p) (E.to (Same.refl F) ⟨E.led.sub.trans (same_new hp), by
    rw [List.map_cons]
    refine List.nodup_cons.mpr ⟨fun z => ?_, E.led.nod⟩
    obtain ⟨q, hq, z⟩ := List.mem_map.mp z
    exact E.led.nofr hp q hq z, fun q hq => by
    rcases List.mem_cons.mp hq with rfl | hq
    · exact ⟨E.led.free hp, [], upd_same, .nil⟩
    · obtain ⟨h1, h2⟩ := E.led.ent q hq
      exact ⟨h1, h2.mono (Same.refl F) (upd_ne (E.led.nofr hp q hq))⟩⟩) (Same.refl F) .ref
/-- d[i] -/
theorem ek_dget (hu : X.A.units + 64 < cLine) (h : EvK X F0 o Γ L fun x L1 => EvK X F0 i Γ L1 fun y L2 => ∃ kvs key d, AsD F0 X.K L2 x kvs ∧ y = kD key ∧ atK key kvs = some d ∧ k d L2) (hs : NoSl i := by intro _ _; rfl) : EvK X F0 (.Subscript o i pos) Γ L k := fun F σ H Q E q =>
  wpE.of (pe_dget (by omega) we we hs) (h F σ H _ E fun x L1 F1 v H1 h1 E1 s1 r1 => h1 F1 σ H1 _ E1 fun y L2 F2 u H2 ⟨kvs, key, d, as, e1, hd, h2⟩ E2 s2 r2 => by
    subst e1
    have e2 := kD_v r2
    subst e2
    obtain ⟨p, ps, rfl, rd, rp⟩ := as.read E2.ge E2.led (r1.mono s2)
    obtain ⟨o, g, h3, _⟩ := rd_get (k := key) rd rp
    obtain ⟨v, rfl, rv⟩ := h3 d hd
    exact ⟨p, v, rfl, g, q d L2 F2 v H2 h2 E2 (s1.trans s2) rv⟩)
theorem ek_din (hu : X.A.units + 64 < cLine) (h : EvK X F0 i Γ L fun y L1 => EvK X F0 o Γ L1 fun x L2 => ∃ kvs key, AsD F0 X.K L2 x kvs ∧ y = kD key ∧ k (.bl (atK key kvs).isSome) L2) (hm : behindInMarks .In o = false := by rfl) : EvK X F0 (.Compare i [.In] [o] pos) Γ L k := fun F σ H Q E q =>
  wpE.of (pe_cmp (pc_din (by omega) we we) hm) (h F σ H _ E fun y L1 F1 v H1 h1 E1 s1 r1 => h1 F1 σ H1 _ E1 fun x L2 F2 u H2 ⟨kvs, key, as, e1, h2⟩ E2 s2 r2 => by
    subst e1
    have e2 := kD_v r1
    subst e2
    obtain ⟨p, ps, rfl, rd, rp⟩ := as.read E2.ge E2.led r2
    obtain ⟨o, g, _, h3⟩ := rd_get (k := key) rd rp
    refine ⟨p, o, rfl, g, ?_⟩
    rw [h3]
    exact q _ L2 F2 _ H2 h2 E2 (s1.trans s2) .bl)
theorem ek_dnotin (hu : X.A.units + 64 < cLine) (h : EvK X F0 i Γ L fun y L1 => EvK X F0 o Γ L1 fun x L2 => ∃ kvs key, AsD F0 X.K L2 x kvs ∧ y = kD key ∧ k (.bl (!(atK key kvs).isSome)) L2) (hm : behindInMarks .NotIn o = false := by rfl) : EvK X F0 (.Compare i [.NotIn] [o] pos) Γ L k := fun F σ H Q E q =>
  wpE.of (pe_cmp (pc_dnotin (by omega) we we) hm) (h F σ H _ E fun y L1 F1 v H1 h1 E1 s1 r1 => h1 F1 σ H1 _ E1 fun x L2 F2 u H2 ⟨kvs, key, as, e1, h2⟩ E2 s2 r2 => by
    subst e1
    have e2 := kD_v r1
    subst e2
    obtain ⟨p, ps, rfl, rd, rp⟩ := as.read E2.ge E2.led r2
    obtain ⟨o, g, _, h3⟩ := rd_get (k := key) rd rp
    refine ⟨p, o, rfl, g, ?_⟩
    rw [h3]
    exact q _ L2 F2 _ H2 h2 E2 (s1.trans s2) .bl)
theorem et_din (hu : X.A.units + 64 < cLine) (h : EvK X F0 i Γ L fun y L1 => EvK X F0 o Γ L1 fun x L2 => ∃ kvs key, AsD F0 X.K L2 x kvs ∧ y = kD key ∧ kt (atK key kvs).isSome L2) (hm : behindInMarks .In o = false := by rfl) : EtK X F0 (.Compare i [.In] [o] pos) Γ L kt := fun F σ H Q E q =>
  wpT.of (pt_cmp (pc_din (by omega) we we) hm) (h F σ H _ E fun y L1 F1 v H1 h1 E1 s1 r1 => h1 F1 σ H1 _ E1 fun x L2 F2 u H2 ⟨kvs, key, as, e1, h2⟩ E2 s2 r2 => by
    subst e1
    have e2 := kD_v r1
    subst e2
    obtain ⟨p, ps, rfl, rd, rp⟩ := as.read E2.ge E2.led r2
    obtain ⟨o, g, _, h3⟩ := rd_get (k := key) rd rp
    refine ⟨p, o, rfl, g, _, rfl, ?_⟩
    rw [h3]
    exact q _ L2 F2 H2 h2 E2 (s1.trans s2))
theorem et_dnotin (hu : X.A.units + 64 < cLine) (h : EvK X F0 i Γ L fun y L1 => EvK X F0 o Γ L1 fun x L2 => ∃ kvs key, AsD F0 X.K L2 x kvs ∧ y = kD key ∧ kt (!(atK key kvs).isSome) L2) (hm : behindInMarks .NotIn o = false := by rfl) : EtK X F0 (.Compare i [.NotIn] [o] pos) Γ L kt := fun F σ H Q E q =>
  wpT.of (pt_cmp (pc_dnotin (by omega) we we) hm) (h F σ H _ E fun y L1 F1 v H1 h1 E1 s1 r1 => h1 F1 σ H1 _ E1 fun x L2 F2 u H2 ⟨kvs, key, as, e1, h2⟩ E2 s2 r2 => by
    subst e1
    have e2 := kD_v r1
    subst e2
    obtain ⟨p, ps, rfl, rd, rp⟩ := as.read E2.ge E2.led r2
    obtain ⟨o, g, _, h3⟩ := rd_get (k := key) rd rp
    refine ⟨p, o, rfl, g, _, rfl, ?_⟩
    rw [h3]
    exact q _ L2 F2 H2 h2 E2 (s1.trans s2))
/-- d[i] = e -/
theorem sk_dput {ks : Ks} (hu : X.A.units + 64 < cLine) (h : EvK X F0 e Γ L fun v L1 => EvK X F0 o Γ L1 fun x L2 => EvK X F0 i Γ L2 fun y L3 => ∃ p kvs key j L4, x = .ref p ∧ Get L3 j (p, C.dic kvs) ∧ y = kD key ∧ kvs.length < sizeLine ∧ Put L3 j (p, C.dic (putB kvs key v)) L4 ∧ ks.nx Γ L4)
    (hs : swapsWith e (some (.Subscript o i p')) pos.line X.env = pure false := by rfl) : SK X F0 (.Assign [.Subscript o i p'] e pos) Γ L ks := fun F σ H Dn E q =>
  wpS.of (ps_dput (by omega) we we we hs) (h F σ H _ E fun v L1 F1 u H1 h1 E1 s1 r1 => h1 F1 σ H1 _ E1 fun x L2 F2 u2 H2 h2 E2 s2 r2 => h2 F2 σ H2 _ E2 fun y L3 F3 u3 H3 ⟨p, kvs, key, j, L4, e1, g, e2, hz, pt, h3⟩ E3 s3 r3 => by
    subst e1 e2
    cases r2
    have e3 := kD_v r3
    subst e3
    obtain ⟨_, ps, h4, h5⟩ := E3.led.ent _ g.mem
    refine ⟨p, _, rfl, .inl ⟨ps, key, h4, rfl, by rw [← h5.length]; exact hz, rfl⟩, q.nx Γ L4 F3 σ _ h3 (E3.to (Same.refl F3) (E3.led.put g pt ⟨_, upd_same, h5.putK (r1.mono (s2.trans s3))⟩))⟩)
/-- len(d) -/
theorem ek_lenD {p : Pos} (hm : X.mg "len" = none) (hg : Gl X "len") (h : EvK X F0 e Γ L fun x L1 => ∃ p kvs j, x = .ref p ∧ Get L1 j (p, C.dic kvs) ∧ k (.int (kvs.length : Int)) L1)
    (he : starEach [e] X.env = (false, eval e X.env) :: starEach [] X.env := by rfl) (hpl : (backTo pos (starEach [] X.env)).any (·.1) = false := by rfl) : EvK X F0 (.Call (.Name "len" p) [e] [] pos) Γ L k := fun F σ H Q E q =>
  wpE.of (pe_callB call_lenD hg hm boot_len (pa_cons we pa_nil he) (by decide) (by decide) he hpl) (h F σ H _ E fun x L1 F1 v H1 ⟨p, kvs, j, e1, g, h1⟩ E1 s1 r1 => by
    subst e1
    cases r1
    obtain ⟨_, ps, h4, h5⟩ := E1.led.ent _ g.mem
    refine ⟨p, ps, rfl, h4, ?_⟩
    rw [← h5.length]
    exact q _ L1 F1 _ H1 h1 E1 s1 .int)
end
/-! ### a dict locked while it is walked -/
def delH (F : Hp) (p : Addr) : Hp := fun b => if b = p then none else F b
theorem delH_ne {F : Hp} {p b : Addr} (h : b ≠ p) : delH F p b = F b := if_neg h
theorem delH_at {F : Hp} {p : Addr} : delH F p p = none := if_pos rfl
section
variable {K : PySem.W.Frag} {F : Hp} {p : Addr} {od : Obj} {ps : List (Key × V)}
theorem SqL.del (hp : F p = some (.frz od (.dK ps))) {a : Addr} {xs : List V} (h : SqL K F a xs) : SqL K (delH F p) a xs := by
  rcases h with (h | ⟨o, h⟩) | h
  · refine .inl (.inl ?_)
    rw [delH_ne]
    · exact h
    · intro z; subst z; rw [hp] at h; cases h
  · refine .inl (.inr ⟨o, ?_⟩)
    rw [delH_ne]
    · exact h
    · intro z; subst z; rw [hp] at h; cases h
  · exact .inr h
theorem SqT.del (hp : F p = some (.frz od (.dK ps))) {a : Addr} {xs : List V} (h : SqT K F a xs) : SqT K (delH F p) a xs := by
  rcases h with (h | ⟨o, h⟩) | h
  · refine .inl (.inl ?_)
    rw [delH_ne]
    · exact h
    · intro z; subst z; rw [hp] at h; cases h
  · refine .inl (.inr ⟨o, ?_⟩)
    rw [delH_ne]
    · exact h
    · intro z; subst z; rw [hp] at h; cases h
  · exact .inr h
mutual
theorem Rep.del (hp : F p = some (.frz od (.dK ps))) : ∀ {d : D} {v : V}, Rep K F d v → Rep K (delH F p) d v
  | _, _, .non => .non
  | _, _, .bl => .bl
  | _, _, .int => .int
  | _, _, .str => .str
  | _, _, .lst h r => .lst (SqL.del hp h) (Reps.del hp r)
  | _, _, .tup h r => .tup (SqT.del hp h) (Reps.del hp r)
  | _, _, .ref => .ref
  | _, _, .ty => .ty
  | _, _, .exc h x => .exc (by
    rw [delH_ne]
    · exact h
    · intro z
      subst z
      rw [hp] at h
      cases h
      obtain ⟨φ, z, _⟩ := x
      cases z) x
  | _, _, .exf h x hd r => .exf (by
    rw [delH_ne]
    · exact h
    · intro z
      subst z
      rw [hp] at h
      cases h
      obtain ⟨φ, z, _⟩ := x
      cases z) x (by
    rw [delH_ne]
    · exact hd
    · intro z
      subst z
      rw [hp] at hd
      cases hd) (Reps.del hp r)
  | _, _, .rng h => .rng (by
    rw [delH_ne]
    · exact h
    · intro z; subst z; rw [hp] at h; cases h)
theorem Reps.del (hp : F p = some (.frz od (.dK ps))) : ∀ {ds : List D} {vs : List V}, Reps K F ds vs → Reps K (delH F p) ds vs
  | _, _, .nil => .nil
  | _, _, .cons r t => .cons (Rep.del hp r) (Reps.del hp t)
end
theorem RepP.del (hp : F p = some (.frz od (.dK ps))) {κ : Type} {ds : List (κ × D)} {vs : List (κ × V)} (r : RepP K F ds vs) : RepP K (delH F p) ds vs := by
  induction r with
  | nil => exact .nil
  | cons r t ih => exact .cons (r.del hp) ih
theorem Slots.del (hp : F p = some (.frz od (.dK ps))) {Γ : Gm} {σ : L2.St} (r : Slots K F Γ σ) : Slots K (delH F p) Γ σ := by
  induction r with
  | nil => exact .nil
  | no t ih => exact .no ih
  | so r t ih => exact .so (r.del hp) ih
theorem RepN.del (hp : F p = some (.frz od (.dK ps))) {ds : List (NestedKey × D)} {xs : List (NestedKey × Addr × Value)} (r : RepN K F ds xs) : RepN K (delH F p) ds xs := by
  induction r with
  | nil => exact .nil
  | cons r1 h1 r2 r3 _ ih => exact .cons (r1.del hp) h1 r2 (r3.del hp) ih
theorem CRep.del (hp : F p = some (.frz od (.dK ps))) {H H' : Hp} {a : Addr} {c : C} (e : H' a = H a) (h : CRep K F H a c) : CRep K (delH F p) H' a c := by
  cases c with
  | lst ds => obtain ⟨xs, h1, h2⟩ := h; exact ⟨xs, e.trans h1, h2.del hp⟩
  | obj c fs => obtain ⟨dx, qs, h1, h2⟩ := h; exact ⟨dx, qs, e.trans h1, h2.del hp⟩
  | dic kvs => obtain ⟨qs, h1, h2⟩ := h; exact ⟨qs, e.trans h1, h2.del hp⟩
  | dit w kvs => obtain ⟨xs, h1, h2, h3, h4, h5⟩ := h; exact ⟨xs, e.trans h1, h2, h3, h4, h5.del hp⟩
end
theorem Led.lock {K : PySem.W.Frag} {F H : Hp} {L L1 : Lg} {p : Addr} {kvs : List (Key × D)} {j : Nat} (e : Led K F L H) (r : Rem L j (p, .dic kvs) L1) : ∃ ps, H p = some (.dK ps) ∧ RepP K F kvs ps ∧ F p = none ∧
    ∀ od, Led K (upd F p (.frz od (.dK ps))) L1 (upd H p (.frz od (.dK ps))) := by
  obtain ⟨hF, ps, h1, h2⟩ := e.ent _ r.get.mem
  refine ⟨ps, h1, h2, hF, fun od => ⟨fun b u z => ?_, (r.sub.map _).nodup e.nod, fun q hq => ?_⟩⟩
  · by_cases hb : b = p
    · subst hb; rw [upd_same] at z ⊢; exact z
    · rw [upd_ne hb] at z ⊢; exact e.sub b u z
  · obtain ⟨a1, a2⟩ := e.ent q (r.sub.subset hq)
    have ne := Rem.ne e.nod r q hq
    exact ⟨(upd_ne ne).trans a1, a2.mono (same_new hF) (upd_ne ne)⟩
theorem Led.unlock {K : PySem.W.Frag} {F H : Hp} {L : Lg} {p : Addr} {kvs : List (Key × D)} {od : Obj} {ps : List (Key × V)} (e : Led K F L H) (hF : F p = some (.frz od (.dK ps))) (rp : RepP K F kvs ps) : Led K (delH F p) ((p, .dic kvs) :: L) (upd H p (.dK ps)) := by
  have ne : ∀ q ∈ L, q.1 ≠ p := fun q hq z => by
    have := (e.ent q hq).1
    rw [z, hF] at this
    cases this
  refine ⟨fun b u z => ?_, ?_, fun q hq => ?_⟩
  · by_cases hb : b = p
    · subst hb; rw [delH_at] at z; cases z
    · rw [delH_ne hb] at z; rw [upd_ne hb]; exact e.sub b u z
  · rw [List.map_cons]
    refine List.nodup_cons.mpr ⟨fun z => ?_, e.nod⟩
    obtain ⟨q, hq, z⟩ := List.mem_map.mp z
    exact ne q hq z
  · rcases List.mem_cons.mp hq with rfl | hq
    · exact ⟨delH_at, ps, upd_same, rp.del hF⟩
    · obtain ⟨a1, a2⟩ := e.ent q hq
      exact ⟨(delH_ne (ne q hq)).trans a1, a2.del hF (upd_ne (ne q hq))⟩
theorem same_del {F0 F : Hp} {p : Addr} (s : Same F0 F) (h : F0 p = none) : Same F0 (delH F p) := fun b u z => by
  rw [delH_ne (ne_of_none z h)]
  exact s b u z
def keysD (kvs : List (Key × D)) : List D := kvs.map fun kv => kD kv.1
section
variable {X : Cx} {F0 : Hp} {Γ : Gm} {L L1 : Lg} {k : Ks} {a tg : Expr} {body : List Stmt} {pos : Pos} {N Nc : List Str} {sc : Scope} {Z : Xc → Gm → Lg → Prop} {p : Addr} {kvs : List (Key × D)} {j : Nat}
/-- for tg in d: d is locked meanwhile -/
theorem sk_forD (cf : Cf X N Nc sc F0 Z) (r : Rem L j (p, .dic kvs) L1)
    (he : ∀ F1, Cf X N Nc sc F1 Z → ∀ kk : D → Lg → Prop, kk (.ref p) L1 → EvK X F1 a Γ L1 kk) (Pv : Nat → Gm → Lg → Prop) (h0 : Pv 0 Γ L1)
    (hb : ∀ F1, Cf X N Nc sc F1 Z → (∀ M, AsD F1 X.K M (.ref p) kvs) → ∀ i d Γ' L', (keysD kvs)[i]? = some d → Pv i Γ' L' → TgK X F1 tg d Γ' L' fun Γ2 L2 => BK X F1 body Γ2 L2
      { nx := Pv (i + 1), ct := Pv (i + 1), bk := fun Γ3 L3 => k.nx Γ3 ((p, .dic kvs) :: L3), rt := fun d L3 => k.rt d ((p, .dic kvs) :: L3) }) (hd : ∀ Γ' L', Pv kvs.length Γ' L' → k.nx Γ' ((p, .dic kvs) :: L'))
    (hs : ∀ x, foldedSetIterable a X.env x = pure x := by intro _; rfl) : SK X F0 (.For tg a body [] pos) Γ L k := fun F σ H Dn E q => by
  obtain ⟨ps, h1, h2, h3, hl⟩ := E.led.lock r
  have hF0 : F0 p = none := E.ge.free h3
  refine wpS.of (ps_lock (ps_for cf.own cf.calm (pi_keys we) wg wb hs)) ⟨p, .dK ps, h1, trivial, fun od => ?_⟩
  have s1 : Same F (upd F p (.frz od (.dK ps))) := same_new h3
  have g01 : Same F0 (upd F p (.frz od (.dK ps))) := E.ge.trans s1
  have cf1 := cf.up g01
  have E1 : At X.K (upd F p (.frz od (.dK ps))) (upd F p (.frz od (.dK ps))) Γ L1 σ (upd H p (.frz od (.dK ps))) := ⟨Same.refl _, hl od, E.sl.mono s1⟩
  have as : ∀ M, AsD (upd F p (.frz od (.dK ps))) X.K M (.ref p) kvs := fun M => .lok upd_same (h2.mono s1)
  have out : ∀ {F2 : Hp} {Lb : Lg} {σ2 : L2.St} {H2 : Hp} {Γ2 : Gm}, At X.K (upd F p (.frz od (.dK ps))) F2 Γ2 Lb σ2 H2 → H2 p = some (.frz od (.dK ps)) ∧ At X.K F0 (delH F2 p) Γ2 ((p, .dic kvs) :: Lb) σ2 (upd H2 p (.dK ps)) := fun E2 => by
    have hp2 := E2.ge _ _ upd_same
    exact ⟨E2.led.sub _ _ hp2, same_del (g01.trans E2.ge) hF0, E2.led.unlock hp2 (h2.mono (s1.trans E2.ge)), E2.sl.del hp2⟩
  refine he _ cf1 (fun x L' => x = .ref p ∧ L' = L1) ⟨rfl, rfl⟩ _ σ _ _ E1 fun x L' F2 v H2 ⟨e1, e2⟩ E2 s2 r2 => ?_
  subst e1 e2
  cases r2
  have hp2 := E2.ge _ _ upd_same
  refine ⟨p, od, rfl, .inl ⟨ps, E2.led.sub _ _ hp2, fun i m σ H => ∃ F' Γ L, i + m = kvs.length ∧ Pv i Γ L ∧ At X.K (upd F p (.frz od (.dK ps))) F' Γ L σ H, ⟨kvs.length, F2, Γ, _, by omega, h0, E2⟩, ?_⟩⟩
  rintro i m σ3 H3 ⟨F3, Γ3, L3, hm, hP, E3⟩
  have hp3 := E3.led.sub _ _ (E3.ge _ _ upd_same)
  by_cases hi : i < kvs.length
  · refine .inr ⟨⟨hp3, by rw [← h2.length]; exact hi⟩, fun σ' H' => ∃ F' Γ L, Pv (i + 1) Γ L ∧ At X.K (upd F p (.frz od (.dK ps))) F' Γ L σ' H', fun σ' H' ⟨F4, Γ4, L4, b, c⟩ => ⟨m - 1, by omega, F4, Γ4, L4, by omega, b, c⟩, ?_⟩
    rintro x H' ⟨rfl, key, v, hk, rfl⟩
    have hkd : (keysD kvs)[i]? = some (kD key) := by
      have g : ∀ {kvs : List (Key × D)} {ps : List (Key × V)} {i : Nat}, RepP X.K F kvs ps → ps[i]? = some (key, v) → (keysD kvs)[i]? = some (kD key) := fun {kvs ps i} r => by
        induction r generalizing i with
        | nil => intro z; cases i <;> cases z
        | cons r t ih =>
          intro z
          cases i with
          | zero => cases z; rfl
          | succ i => exact ih z
      exact g h2 hk
    refine hb _ cf1 as i (kD key) Γ3 L3 hkd hP F3 σ3 H' _ _ E3 kD_rep fun Γ4 L4 F4 σ4 H4 h4 E4 => ?_
    refine h4 F4 σ4 H4 _ E4 ⟨fun Γ L F σ H h E => ⟨F, Γ, L, h, E⟩, fun d L F v H h s l r => ?_, fun Γ L F σ H h E => ?_, fun Γ L F σ H h E => ⟨F, Γ, L, h, E⟩⟩
    · have hp5 := s _ _ upd_same
      exact ⟨l.sub _ _ hp5, q.rt d _ _ v _ h (same_del (g01.trans s) hF0) (l.unlock hp5 (h2.mono (s1.trans s))) (r.del hp5)⟩
    · obtain ⟨o1, o2⟩ := out E
      exact ⟨o1, q.nx Γ _ _ σ _ h o2⟩
  · have e : i = kvs.length := by omega
    subst e
    refine .inl ⟨⟨hp3, by rw [← h2.length]; exact Nat.le_refl _⟩, ?_⟩
    obtain ⟨o1, o2⟩ := out E3
    exact ⟨o1, q.nx Γ3 _ _ σ3 _ (hd Γ3 L3 hP) o2⟩
end
end Vs

set_option Elab.async false
set_option linter.all false
set_option maxRecDepth 100000
set_option maxHeartbeats 4000000
namespace Vs
open PySem PySem.Spec PyProof.Rows L2
section
variable {X : Cx} {F0 : Hp} {Γ : Gm} {L : Lg} {k : Ks} {e a b c i tg iter : Expr} {st : Stmt} {rest body orelse : List Stmt} {pos p' p tpos : Pos} {N Nc : List Str} {sc : Scope} {Z : Xc → Gm → Lg → Prop} {elts : List Expr} {kk : Nat}
/-- for tg in iter: the ledger keeps what is walked -/
theorem sk_forQ (cf : Cf X N Nc sc F0 Z) (h : EiP X F0 tg iter Γ L fun ds L1 => ∃ Pv : Nat → Gm → Lg → Prop, Pv 0 Γ L1 ∧ (∀ i Γ' L', Pv i Γ' L' → ∃ M, L' = L1 ++ M) ∧
      (∀ F1, Cf X N Nc sc F1 Z → ∀ i d Γ' L', ds[i]? = some d → Pv i Γ' L' → TgK X F1 tg d Γ' L' fun Γ2 L2 => BK X F1 body Γ2 L2 { k with nx := Pv (i + 1), ct := Pv (i + 1), bk := k.nx }) ∧ (∀ Γ' L', Pv ds.length Γ' L' → k.nx Γ' L'))
    (hs : ∀ x, foldedSetIterable iter X.env x = pure x := by intro _; rfl) : SK X F0 (.For tg iter body [] pos) Γ L k := fun F σ H Dn E q =>
  wpS.of (ps_for cf.own cf.calm wi wg wb hs) (h F σ H _ E fun ds L1 F1 H1 J ⟨Pv, h0, hM, hb, hd⟩ E1 s1 it => by
    refine ⟨fun i m σ H => ∃ F Γ L, i + m = ds.length ∧ Same F1 F ∧ Pv i Γ L ∧ At X.K F0 F Γ L σ H, ⟨ds.length, F1, Γ, L1, by omega, Same.refl F1, h0, E1⟩, ?_⟩
    rintro i m σ2 H2 ⟨F2, Γ2, L2, hm, s2, hP, E2⟩
    obtain ⟨M, eM⟩ := hM _ _ _ hP
    have l2 := E2.led
    rw [eM] at l2
    by_cases hi : i < ds.length
    · refine .inr ⟨it.go i H2 F2 M hi s2 l2, fun σ' H' => ∃ F Γ L, Same F1 F ∧ Pv (i + 1) Γ L ∧ At X.K F0 F Γ L σ' H', fun σ' H' ⟨F3, Γ3, L3, a, b, c⟩ => ⟨m - 1, by omega, F3, Γ3, L3, by omega, a, b, c⟩, fun x H' hy => ?_⟩
      obtain ⟨d, F3, hdi, s3, l3, r3⟩ := it.yld i H2 x H' F2 M s2 l2 hy hi
      rw [← eM] at l3
      refine hb F1 (cf.up E1.ge) i d Γ2 L2 hdi hP F3 σ2 H' x _ ((E2.to s3 l3).base (s2.trans s3)) r3 fun Γ4 L4 F4 σ4 H4 h4 E4 => ?_
      have q' := q.up (F1 := F1) E1.ge
      exact h4 F4 σ4 H4 _ E4 ⟨fun Γ L F σ H h E => ⟨F, Γ, L, E.ge, h, E.low E1.ge⟩, q'.rt, q'.nx, fun Γ L F σ H h E => ⟨F, Γ, L, E.ge, h, E.low E1.ge⟩⟩
    · have e : i = ds.length := by omega
      subst e
      exact .inl ⟨it.stop _ H2 F2 M (Nat.le_refl _) s2 l2, q.nx Γ2 L2 F2 σ2 H2 (hd Γ2 L2 hP) E2⟩)
theorem eip_enum {kl : List D → Lg → Prop} (hm : X.mg "enumerate" = none) (hg : Gl X "enumerate") (h : EvK X F0 a Γ L fun x L1 => ∃ ds, AsL L1 x ds ∧ kl (enumD ds) L1) (hs : starEach [a] X.env = [(false, eval a X.env)] := by rfl) :
    EiP X F0 (.Tuple elts kk tpos) (.Call (.Name "enumerate" p) [a] [] pos) Γ L kl := fun F σ H R E q =>
  wpI.of (pi_enum hg hm (pa_cons we pa_nil hs) hs) (h F σ H _ E fun x L1 F1 v H1 ⟨ds, as, h1⟩ E1 s1 r1 => by
    obtain ⟨p, xs, rfl, hx, rx⟩ := as.read E1.led r1
    have rd : ∀ {F' : Hp} {L' : Lg} {H' : Hp}, Same F1 F' → Led X.K F' (L1 ++ L') H' → ∃ xs, SqL X.K H' p xs ∧ Reps X.K F' ds xs := fun s l => by
      obtain ⟨p', ys, e, hy, ry⟩ := as.app.read l (r1.mono s)
      cases e
      exact ⟨ys, hy, ry⟩
    refine ⟨p, xs, rfl, hx, q _ L1 F1 H1 _ h1 E1 s1 ⟨?_, ?_, ?_⟩⟩
    · intro i H F' L' hi s l
      obtain ⟨ys, hy, ry⟩ := rd s l
      have hi' : i < ys.length := by rw [← ry.length]; rw [enumD_len] at hi; exact hi
      exact ⟨ys, ys[i], hy, List.getElem?_eq_getElem hi'⟩
    · rintro i H x H' F' L' s l ⟨T, y, rfl, hT, rfl, hy⟩ hi
      obtain ⟨ys, hy2, ry⟩ := rd s l
      obtain ⟨d, hd, rd'⟩ := ry.got (hy ys hy2)
      have s2 : Same F' (upd F' T (.tup [.int (i : Nat), y])) := same_new (l.free hT)
      exact ⟨.tup [.int (i : Int), d], _, by rw [enumD_get, hd]; rfl, s2, l.new hT, .tup (.inl (.inl upd_same)) (.cons .int (.cons (rd'.mono s2) .nil))⟩
    · intro i H F' L' hi s l
      obtain ⟨ys, hy, ry⟩ := rd s l
      exact ⟨ys, hy, by rw [← ry.length]; rw [enumD_len] at hi; exact hi⟩)
/-- for (i, x) in enumerate(xs), xs a name of either kind -/
theorem sk_forNE {x : D} {ds : List D} (hm : X.mg "enumerate" = none) (hg : Gl X "enumerate") (cf : Cf X N Nc sc F0 Z)
    (he : ∀ kk : D → Lg → Prop, kk x L → EvK X F0 a Γ L kk) (hx : AsL L x ds) (Pv : Nat → Gm → Lg → Prop) (h0 : Pv 0 Γ L) (hp : ∀ i Γ' L', Pv i Γ' L' → AsL L' x ds)
    (hb : ∀ F1, Cf X N Nc sc F1 Z → ∀ i d Γ' L', (enumD ds)[i]? = some d → Pv i Γ' L' → TgK X F1 (.Tuple elts kk tpos) d Γ' L' fun Γ2 L2 => BK X F1 body Γ2 L2 { k with nx := Pv (i + 1), ct := Pv (i + 1), bk := k.nx }) (hd : ∀ Γ' L', Pv (enumD ds).length Γ' L' → k.nx Γ' L')
    (hs : starEach [a] X.env = [(false, eval a X.env)] := by rfl) (hs2 : ∀ y, foldedSetIterable (.Call (.Name "enumerate" p) [a] [] p') X.env y = pure y := by intro _; rfl) : SK X F0 (.For (.Tuple elts kk tpos) (.Call (.Name "enumerate" p) [a] [] p') body [] pos) Γ L k := fun F σ H Dn E q =>
  wpS.of (ps_for cf.own cf.calm (pi_enum hg hm (pa_cons we pa_nil hs) hs) wg wb hs2) (he (fun y L' => y = x ∧ L' = L) ⟨rfl, rfl⟩ F σ H _ E fun y L1 F1 v H1 ⟨e1, e2⟩ E1 s1 r1 => by
    subst e1 e2
    obtain ⟨q0, xs, rfl, hxs, rx⟩ := hx.read E1.led r1
    have rd : ∀ {F2 : Hp} {Lb : Lg} {H : Hp} {i : Nat} {Γ' : Gm}, Same F1 F2 → Pv i Γ' Lb → Led X.K F2 Lb H → ∃ xs, SqL X.K H q0 xs ∧ Reps X.K F2 ds xs := fun s hP l => by
      obtain ⟨q1, ys, e, h1, h2⟩ := (hp _ _ _ hP).read l (r1.mono s)
      cases e
      exact ⟨ys, h1, h2⟩
    refine ⟨q0, xs, rfl, hxs, fun i m σ H => ∃ F' Γ L, i + m = (enumD ds).length ∧ Same F1 F' ∧ Pv i Γ L ∧ At X.K F0 F' Γ L σ H, ⟨(enumD ds).length, F1, Γ, _, by omega, Same.refl F1, h0, E1⟩, ?_⟩
    rintro i m σ2 H2 ⟨F2, Γ2, Lb, hm, s2, hP, E2⟩
    obtain ⟨ys, hy, ry⟩ := rd s2 hP E2.led
    by_cases hi : i < (enumD ds).length
    · have hi' : i < ys.length := by rw [← ry.length]; rw [enumD_len] at hi; exact hi
      refine .inr ⟨⟨ys, ys[i], hy, List.getElem?_eq_getElem hi'⟩, fun σ' H' => ∃ F' Γ L, Same F1 F' ∧ Pv (i + 1) Γ L ∧ At X.K F0 F' Γ L σ' H', fun σ' H' ⟨F3, Γ3, L3, a, b, c⟩ => ⟨m - 1, by omega, F3, Γ3, L3, by omega, a, b, c⟩, ?_⟩
      rintro z H' ⟨T, y, rfl, hT, rfl, hz⟩
      obtain ⟨d, hdi, rd'⟩ := ry.got (hz ys hy)
      have s3 : Same F2 (upd F2 T (.tup [.int (i : Nat), y])) := same_new (E2.led.free hT)
      have E3 := E2.new (o := .tup [.int (i : Nat), y]) hT
      refine hb F1 (cf.up E1.ge) i (.tup [.int (i : Int), d]) Γ2 Lb (by rw [enumD_get, hdi]; rfl) hP _ σ2 _ _ _ (E3.base (s2.trans s3)) (.tup (.inl (.inl upd_same)) (.cons .int (.cons (rd'.mono s3) .nil))) fun Γ4 L4 F4 σ4 H4 h4 E4 => ?_
      have q' := q.up (F1 := F1) E1.ge
      exact h4 F4 σ4 H4 _ E4 ⟨fun Γ L F σ H h E => ⟨F, Γ, L, E.ge, h, E.low E1.ge⟩, q'.rt, q'.nx, fun Γ L F σ H h E => ⟨F, Γ, L, E.ge, h, E.low E1.ge⟩⟩
    · have e : i = (enumD ds).length := by omega
      subst e
      exact .inl ⟨⟨ys, hy, by rw [← ry.length, ← enumD_len (ds := ds)]; exact Nat.le_refl _⟩, q.nx Γ2 Lb F2 σ2 H2 (hd Γ2 Lb hP) E2⟩)
end
end Vs

set_option Elab.async false
set_option linter.all false
set_option maxRecDepth 100000
set_option maxHeartbeats 4000000
namespace Vs
open PySem PySem.Spec PyProof.Rows L2
/-! ### a, b = x, y with plain local names -/
theorem swapped_scope {ts : List Expr} {e : Expr} {E E' : Env} (h : E.scope = E'.scope) : swappedStores ts e E = swappedStores ts e E' := by
  unfold swappedStores Env.blockKind Env.kindOf
  rw [h]
section
variable {X : Cx} {F0 : Hp} {Γ : Gm} {L : Lg} {k : Ks} {a b c3 : Expr} {pos px py pz pt pt2 : Pos} {kt k2 : Nat} {N Nc : List Str} {sc : Scope} {x y z : Str} {i j l : Nat} {Z : Xc → Gm → Lg → Prop}
theorem sk_par (c : Cf X N Nc sc F0 Z) (h : EaK X F0 [a, b] Γ L fun ds L' => ∃ d1 d2, ds = [d1, d2] ∧ ∃ Γ1, Put Γ i (some d1) Γ1 ∧ ∃ Γ2, Put Γ1 j (some d2) Γ2 ∧ k.nx Γ2 L')
    (hi : N[i]? = some x := by rfl) (hj : N[j]? = some y := by rfl) (hij : i ≠ j := by decide) (hx : sc.names.lookup x = some .local := by rfl) (hy : sc.names.lookup y = some .local := by rfl)
    (hw : swappedStores [.Tuple [.Name x px, .Name y py] kt pt] (.Tuple [a, b] k2 pt2) { (default : Env) with scope := sc } = pure (some [x, y]) := by rfl)
    (hs : swapsWithSole [.Tuple [.Name x px, .Name y py] kt pt] (.Tuple [a, b] k2 pt2) pos.line X.env = pure false := by rfl) :
    SK X F0 (.Assign [.Tuple [.Name x px, .Name y py] kt pt] (.Tuple [a, b] k2 pt2) pos) Γ L k := fun F σ H Dn E q =>
  wpS.of (ps_par c.calm (by rw [c.n]; exact c.nd) (by rw [c.n]; exact get_app hi) (by rw [c.n]; exact get_app hj) hij (by rw [c.scp]; exact hx) (by rw [c.scp]; exact hy) wa
    ((swapped_scope (E' := { (default : Env) with scope := sc }) c.scp).trans hw) hs) (h F σ H _ E fun ds L1 F1 vs H1 ⟨d1, d2, e, Γ1, p1, Γ2, p2, hk⟩ E1 s1 r1 => by
    subst e
    cases r1 with
    | cons r r1 =>
      cases r1 with
      | cons r' r1 =>
        cases r1
        exact ⟨_, _, rfl, q.nx Γ2 L1 F1 _ H1 hk ⟨E1.ge, E1.led, (E1.sl.put r p1).put r' p2⟩⟩)
theorem sk_par3 (c : Cf X N Nc sc F0 Z) (h : EaK X F0 [a, b, c3] Γ L fun ds L' => ∃ d1 d2 d3, ds = [d1, d2, d3] ∧ ∃ Γ1, Put Γ i (some d1) Γ1 ∧ ∃ Γ2, Put Γ1 j (some d2) Γ2 ∧ ∃ Γ3, Put Γ2 l (some d3) Γ3 ∧ k.nx Γ3 L')
    (hi : N[i]? = some x := by rfl) (hj : N[j]? = some y := by rfl) (hl : N[l]? = some z := by rfl) (hij : i ≠ j := by decide) (hil : i ≠ l := by decide) (hjl : j ≠ l := by decide) (hx : sc.names.lookup x = some .local := by rfl) (hy : sc.names.lookup y = some .local := by rfl) (hz : sc.names.lookup z = some .local := by rfl)
    (hw : swappedStores [.Tuple [.Name x px, .Name y py, .Name z pz] kt pt] (.Tuple [a, b, c3] k2 pt2) { (default : Env) with scope := sc } = pure (some [x, y, z]) := by rfl)
    (hs : swapsWithSole [.Tuple [.Name x px, .Name y py, .Name z pz] kt pt] (.Tuple [a, b, c3] k2 pt2) pos.line X.env = pure false := by rfl) :
    SK X F0 (.Assign [.Tuple [.Name x px, .Name y py, .Name z pz] kt pt] (.Tuple [a, b, c3] k2 pt2) pos) Γ L k := fun F σ H Dn E q =>
  wpS.of (ps_par3 c.calm (by rw [c.n]; exact c.nd) (by rw [c.n]; exact get_app hi) (by rw [c.n]; exact get_app hj) (by rw [c.n]; exact get_app hl) hij hil hjl (by rw [c.scp]; exact hx) (by rw [c.scp]; exact hy) (by rw [c.scp]; exact hz) wa
    ((swapped_scope (E' := { (default : Env) with scope := sc }) c.scp).trans hw) hs) (h F σ H _ E fun ds L1 F1 vs H1 ⟨d1, d2, d3, e, Γ1, p1, Γ2, p2, Γ3, p3, hk⟩ E1 s1 r1 => by
    subst e
    cases r1 with
    | cons r r1 =>
      cases r1 with
      | cons r' r1 =>
        cases r1 with
        | cons r'' r1 =>
          cases r1
          exact ⟨_, _, _, rfl, q.nx Γ3 L1 F1 _ H1 hk ⟨E1.ge, E1.led, ((E1.sl.put r p1).put r' p2).put r'' p3⟩⟩)
end
/-! ### and, or: what a part leaves in the ledger is dropped -/
section
variable {X : Cx} {F0 : Hp} {Γ : Gm} {L L1 : Lg} {k : D → Lg → Prop} {kt : Bool → Lg → Prop} {a b : Expr} {rest : List Expr} {pos : Pos} {σ : L2.St} {F H : Hp}
theorem At.dropS (E : At X.K F0 F Γ L1 σ H) (hs : L.Sublist L1) : At X.K F0 F Γ L σ H := ⟨E.ge, ⟨E.led.sub, (hs.map _).nodup E.led.nod, fun p hp => E.led.ent p (hs.subset hp)⟩, E.sl⟩
theorem ek_subL {P : D → Prop} (h : EvK X F0 a Γ L fun x L1 => P x ∧ L.Sublist L1) : EvK X F0 a Γ L fun x L1 => P x ∧ L1 = L := fun F σ H Q E q =>
  h F σ H Q E fun x L1 F1 v H1 ⟨e1, e2⟩ E1 s1 r1 => q x L F1 v H1 ⟨e1, rfl⟩ (E1.dropS e2) s1 r1
theorem et_subL {P : Bool → Prop} (h : EtK X F0 a Γ L fun x L1 => P x ∧ L.Sublist L1) : EtK X F0 a Γ L fun x L1 => P x ∧ L1 = L := fun F σ H Q E q =>
  h F σ H Q E fun x L1 F1 H1 ⟨e1, e2⟩ E1 s1 => q x L F1 H1 ⟨e1, rfl⟩ (E1.dropS e2) s1
theorem ew_subL {P : Bool → Prop} (h : EwK X F0 a Γ L fun x L1 => P x ∧ L.Sublist L1) : EwK X F0 a Γ L fun x L1 => P x ∧ L1 = L := fun F σ H Q E q =>
  h F σ H Q E fun x L1 F1 H1 ⟨e1, e2⟩ E1 s1 => q x L F1 H1 ⟨e1, rfl⟩ (E1.dropS e2) s1
theorem ek_andS {p q : Bool} (ha : EvK X F0 a Γ L fun x L1 => x = .bl p ∧ L.Sublist L1) (hb : p = true → EvK X F0 (.BoolOp .And (b :: rest) pos) Γ L fun y L2 => y = .bl q ∧ L.Sublist L2) (h : k (.bl (p && q)) L) : EvK X F0 (.BoolOp .And (a :: b :: rest) pos) Γ L k := ek_and' (ek_subL ha) (fun e => ek_subL (hb e)) h
theorem ek_orS {p q : Bool} (ha : EvK X F0 a Γ L fun x L1 => x = .bl p ∧ L.Sublist L1) (hb : p = false → EvK X F0 (.BoolOp .Or (b :: rest) pos) Γ L fun y L2 => y = .bl q ∧ L.Sublist L2) (h : k (.bl (p || q)) L) : EvK X F0 (.BoolOp .Or (a :: b :: rest) pos) Γ L k := ek_or (ek_subL ha) (fun e => ek_subL (hb e)) h
theorem ew_andS {p q : Bool} (ha : EtK X F0 a Γ L fun x L1 => x = p ∧ L.Sublist L1) (hb : p = true → EwK X F0 (.BoolOp .And (b :: rest) pos) Γ L fun y L2 => y = q ∧ L.Sublist L2) (h : kt (p && q) L) : EwK X F0 (.BoolOp .And (a :: b :: rest) pos) Γ L kt := ew_and (et_subL ha) (fun e => ew_subL (hb e)) h
theorem ew_orS {p q : Bool} (ha : EtK X F0 a Γ L fun x L1 => x = p ∧ L.Sublist L1) (hb : p = false → EwK X F0 (.BoolOp .Or (b :: rest) pos) Γ L fun y L2 => y = q ∧ L.Sublist L2) (h : kt (p || q) L) : EwK X F0 (.BoolOp .Or (a :: b :: rest) pos) Γ L kt := ew_or (et_subL ha) (fun e => ew_subL (hb e)) h
end
/-! ### name = [..] with a name that a comprehension reads -/
theorem swaps_scope {t : Option Expr} {e : Expr} {n : Nat} {E E' : Env} (h : E.scope = E'.scope) : swapsWith e t n E = swapsWith e t n E' := by
  unfold swapsWith Env.blockKind Env.kindOf
  rw [h]
section
variable {X : Cx} {F0 : Hp} {Γ : Gm} {L : Lg} {k : Ks} {e : Expr} {pos p' : Pos} {N Nc : List Str} {sc : Scope} {x : Str} {i : Nat}
theorem sk_setC (c : Cn X N Nc sc) (h : EvK X F0 e Γ L fun d L' => ∃ Γ', Put Γ i (some d) Γ' ∧ k.nx Γ' L') (hi : N[i]? = some x := by rfl)
    (hs : swapsWith e (some (.Name x p')) pos.line { (default : Env) with scope := sc } = pure false := by rfl) (hw : swappedStores [.Name x p'] e X.env = pure none := by rfl) : SK X F0 (.Assign [.Name x p'] e pos) Γ L k :=
  sk_set c h hi ((swaps_scope (E' := { (default : Env) with scope := sc }) c.scp).trans hs) hw
end
end Vs

set_option Elab.async false
set_option linter.all false
set_option maxRecDepth 100000
set_option maxHeartbeats 4000000
namespace Vs
open PySem PySem.Spec PyProof.Rows L2
/-! ### d.pop(k, x), d.get(k, x) -/
section
variable {X : Cx} {F0 : Hp} {Γ : Gm} {L : Lg} {k : D → Lg → Prop} {o e f : Expr} {apos cpos : Pos}
theorem ek_dpop2 (h : EvK X F0 o Γ L fun x L1 => ∃ p kvs1 j1, x = .ref p ∧ Get L1 j1 (p, C.dic kvs1) ∧ EvK X F0 e Γ L1 fun y L2 => EvK X F0 f Γ L2 fun z L3 => ∃ kvs key j, y = kD key ∧ Get L3 j (p, C.dic kvs) ∧
      (∀ d, atK key kvs = some d → ∃ L4, Put L3 j (p, C.dic (dropA key kvs)) L4 ∧ k d L4) ∧ (atK key kvs = none → k z L3))
    (hb : attributeBase o "pop" X.env (eval o X.env) = eval o X.env := by rfl)
    (hfew : ((backTo cpos (starEach [e, f] X.env)).all (fun x => !x.1) && (backToKw cpos (keywordEach [] X.env)).all (fun x => x.1.isSome)
      && decide (([e, f] : List Expr).length + ([] : List Keyword).length + (if ([] : List Keyword).isEmpty then 0 else 1) < 30)) = true := by rfl)
    (hline : (apos.endLine == cpos.line) = true := by rfl) (ht : backTo cpos (starEach [e, f] X.env) = [(false, eval e X.env), (false, eval f X.env)] := by rfl) :
    EvK X F0 (.Call (.Attribute o "pop" apos) [e, f] [] cpos) Γ L k := fun F σ H Q E q =>
  wpE.of (pe_dpop2 we we we ⟨hb, hfew, hline, ht⟩) (h F σ H _ E fun x L1 F1 v H1 ⟨p, kvs1, j1, e1, g1, h1⟩ E1 s1 r1 => by
    subst e1
    cases r1
    obtain ⟨_, ps1, a1, b1⟩ := E1.led.ent _ g1.mem
    refine ⟨p, rfl, .inl ⟨ps1, .inl a1⟩, h1 F1 σ H1 _ E1 fun y L2 F2 u H2 h2 E2 s2 r2 => h2 F2 σ H2 _ E2 fun z L3 F3 w H3 ⟨kvs, key, j, e2, g, h3, h4⟩ E3 s3 r3 => ?_⟩
    subst e2
    have e3 := kD_v r2
    subst e3
    obtain ⟨_, ps, a3, b3⟩ := E3.led.ent _ g.mem
    refine ⟨ps, key, a3, rfl, fun v hv => ?_, fun hv => ?_⟩
    · cases hd : atK key kvs with
      | none => rw [b3.val.2 hd] at hv; cases hv
      | some d =>
        obtain ⟨v', e4, r4⟩ := b3.val.1 d hd
        rw [e4] at hv
        cases hv
        obtain ⟨L4, pt, h5⟩ := h3 d hd
        exact q d L4 F3 _ _ h5 (E3.to (Same.refl F3) (E3.led.put g pt ⟨_, upd_same, b3.drop⟩)) (s1.trans (s2.trans s3)) r4
    · refine q z L3 F3 w H3 (h4 ?_) E3 (s1.trans (s2.trans s3)) r3
      cases hd : atK key kvs with
      | none => rfl
      | some d =>
        obtain ⟨v', e4, _⟩ := b3.val.1 d hd
        rw [e4] at hv
        cases hv)
theorem ek_dget2 (hu : X.A.units + 64 < cLine) (h : EvK X F0 o Γ L fun x L1 => ∃ p kvs1, x = .ref p ∧ AsD F0 X.K L1 x kvs1 ∧ EvK X F0 e Γ L1 fun y L2 => EvK X F0 f Γ L2 fun z L3 => ∃ kvs key, y = kD key ∧ AsD F0 X.K L3 (.ref p) kvs ∧ k ((atK key kvs).getD z) L3)
    (hb : attributeBase o "get" X.env (eval o X.env) = eval o X.env := by rfl)
    (hfew : ((backTo cpos (starEach [e, f] X.env)).all (fun x => !x.1) && (backToKw cpos (keywordEach [] X.env)).all (fun x => x.1.isSome)
      && decide (([e, f] : List Expr).length + ([] : List Keyword).length + (if ([] : List Keyword).isEmpty then 0 else 1) < 30)) = true := by rfl)
    (hline : (apos.endLine == cpos.line) = true := by rfl) (ht : backTo cpos (starEach [e, f] X.env) = [(false, eval e X.env), (false, eval f X.env)] := by rfl) :
    EvK X F0 (.Call (.Attribute o "get" apos) [e, f] [] cpos) Γ L k := fun F σ H Q E q =>
  wpE.of (pe_dget2 (by omega) we we we ⟨hb, hfew, hline, ht⟩) (h F σ H _ E fun x L1 F1 v H1 ⟨p, kvs1, e1, as1, h1⟩ E1 s1 r1 => by
    subst e1
    obtain ⟨p1, ps1, ev1, rd1, rp1⟩ := as1.read E1.ge E1.led r1
    cases r1
    cases ev1
    refine ⟨p, rfl, .inl ⟨ps1, rd1⟩, h1 F1 σ H1 _ E1 fun y L2 F2 u H2 h2 E2 s2 r2 => h2 F2 σ H2 _ E2 fun z L3 F3 w H3 ⟨kvs, key, e2, as, h3⟩ E3 s3 r3 => ?_⟩
    subst e2
    have e3 := kD_v r2
    subst e3
    obtain ⟨p2, ps, ev, rd, rp⟩ := as.read E3.ge E3.led .ref
    cases ev
    obtain ⟨ov, g, h4, h5⟩ := rd_get (k := key) rd rp
    refine ⟨ov, g, ?_⟩
    cases hd : atK key kvs with
    | none =>
      rw [hd] at h3 h5
      cases ov with
      | none => exact q _ L3 F3 _ H3 h3 E3 (s1.trans (s2.trans s3)) r3
      | some _ => cases h5
    | some d =>
      obtain ⟨v', rfl, rv⟩ := h4 d hd
      rw [hd] at h3
      exact q _ L3 F3 _ H3 h3 E3 (s1.trans (s2.trans s3)) rv)
end
end Vs

set_option Elab.async false
set_option linter.all false
set_option maxRecDepth 100000
set_option maxHeartbeats 4000000
namespace Vs
open PySem PySem.Spec PyProof.Rows L2
/-! ### the ledger put in another order, some entries forgotten -/
def SubP (L L1 : Lg) : Prop := ∃ L2 : Lg, L.Sublist L2 ∧ L2.Perm L1
theorem SubP.refl {L : Lg} : SubP L L := ⟨L, List.Sublist.refl L, List.Perm.refl L⟩
theorem SubP.of_sub {L L1 : Lg} (h : L.Sublist L1) : SubP L L1 := ⟨L1, h, List.Perm.refl _⟩
theorem SubP.of_perm {L L1 : Lg} (h : L.Perm L1) : SubP L L1 := ⟨L, List.Sublist.refl _, h⟩
section
variable {X : Cx} {F0 : Hp} {Γ : Gm} {L L1 : Lg} {k : D → Lg → Prop} {kk : Ks} {ka : List D → Lg → Prop} {e : Expr} {ss : List Stmt} {σ : L2.St} {F H : Hp}
theorem At.subP (E : At X.K F0 F Γ L1 σ H) (hs : SubP L L1) : At X.K F0 F Γ L σ H := by
  obtain ⟨L2, h1, h2⟩ := hs
  exact ⟨E.ge, ⟨E.led.sub, (h1.map _).nodup ((h2.map _).nodup_iff.mpr E.led.nod), fun p hp => E.led.ent p (h2.mem_iff.mp (h1.subset hp))⟩, E.sl⟩
theorem bk_lg (hs : SubP L L1) (h : BK X F0 ss Γ L kk) : BK X F0 ss Γ L1 kk := fun F σ H Dn E q => h F σ H Dn (E.subP hs) q
theorem ek_lg (hs : SubP L L1) (h : EvK X F0 e Γ L k) : EvK X F0 e Γ L1 k := fun F σ H Q E q => h F σ H Q (E.subP hs) q
theorem ea_nilS (h : ∃ L', SubP L' L ∧ ka [] L') : EaK X F0 [] Γ L ka := fun F σ H Q E q => by
  obtain ⟨L', hs, h1⟩ := h
  exact wpA.of pa_nil (q [] L' F [] H h1 (E.subP hs) (Same.refl F) .nil)
theorem ek_drpP (h : EvK X F0 e Γ L fun d L1 => ∃ L2, SubP L2 L1 ∧ k d L2) : EvK X F0 e Γ L k := fun F σ H Q E q =>
  h F σ H Q E fun d L1 F1 v H1 ⟨L2, hs, h1⟩ E1 s1 r1 => q d L2 F1 v H1 h1 (E1.subP hs) s1 r1
/-- a list of the ledger frozen, where it is one of the ledger's -/
theorem ek_frzO (h : EvK X F0 e Γ L fun d L1 => (∃ p ds j L2 L3, d = .ref p ∧ Rem L1 j (p, C.lst ds) L2 ∧ SubP L3 L2 ∧ k (.lst ds) L3) ∨ k d L1) : EvK X F0 e Γ L k := fun F σ H Q E q =>
  h F σ H Q E fun d L1 F1 v H1 hd E1 s1 rr => by
    rcases hd with ⟨p, ds, j, L2, L3, hd, r, hs, hk⟩ | hk
    · subst hd
      cases rr
      obtain ⟨xs, l, s2, rx⟩ := E1.led.frz r
      have E2 : At X.K F0 (upd F1 p (.lst xs)) Γ L2 σ H1 := ⟨E1.ge.trans s2, l, E1.sl.mono s2⟩
      exact q _ L3 _ _ H1 hk (E2.subP hs) (s1.trans s2) (.lst (.inl (.inl upd_same)) (rx.mono s2))
    · exact q d L1 F1 v H1 hk E1 s1 rr
end
end Vs

set_option Elab.async false
set_option linter.all false
set_option maxRecDepth 100000
set_option maxHeartbeats 4000000
namespace Vs
open PySem PySem.Spec PyProof.Rows L2
/-! ### enumerate(tuple, k) -/
def Itf (K : PySem.W.Frag) (a : Addr) (k0 : Int) (n : Nat) : It :=
  ⟨fun i H => ∃ (xs : List V) (x : V), SqT K H a xs ∧ xs.length = n ∧ xs[i]? = some x, fun i H v H' => ∃ T x, v = .ref T ∧ H T = none ∧ H' = upd H T (.tup [.int (k0 + (i : Nat)), x]) ∧ ∀ xs, SqT K H a xs → xs[i]? = some x, fun i H => ∃ xs : List V, SqT K H a xs ∧ xs.length = n ∧ n ≤ i⟩
theorem turn_enumT {P : Program} {w : World} {K : PySem.W.Frag} {elts : List Expr} {kk : Nat} {tpos : Pos} (a e it : Addr) (k0 : Int) (n : Nat) :
    Turn P w K (.Tuple elts kk tpos) (Itf K a k0 n) [e, it] e (fun i h => (∃ old, IsEnum h e it (k0 + ((i : Nat) : Int)) old) ∧ h.IsTupleIter it a i ∧ e ≠ it ∧ i ≤ n) where
  mem := by simp
  obj := fun i h st b hb => by
    obtain ⟨⟨old, he⟩, ⟨o, ho, hc, hd⟩, _⟩ := st
    have e' : b = e ∨ b = it := by simpa using hb
    rcases e' with z | z
    · rw [z]; exact ⟨_, he, fun v q => nomatch q⟩
    · rw [z]; exact ⟨o, ho, fun v q => by rw [hd] at q; cases q⟩
  keep := fun i h h' st k => let ⟨⟨old, he⟩, hi, hne, hn⟩ := st; ⟨⟨old, k e (by simp) _ he⟩, hi.at fun o q => k it (by simp) o q, hne, hn⟩
  item := by
    intro X hP hw hK hc i pins s σ H E I hf st hg
    subst hP hw hK
    obtain ⟨⟨old, he⟩, hit, hne, hin⟩ := st
    obtain ⟨xs, x, hq, hxn, hx⟩ := hg
    obtain ⟨its, rv, p, hz⟩ := I.tuple hq
    obtain ⟨u, hu, ru⟩ := rv.get hx
    have hel : e < s.heap.objs.size := Heap.lt_size he
    have hil : it < s.heap.objs.size := by obtain ⟨_, q, _⟩ := hit; exact Heap.lt_size q
    have hT0 : s.heap.IsTuple a its.toArray := p
    have hai : a ≠ it := fun z => by
      obtain ⟨o1, e1, c1, _⟩ := hit
      obtain ⟨o2, e2, c2, _⟩ := hT0
      rw [z, e1] at e2
      cases e2
      rw [c1] at c2
      exact absurd c2 (by decide)
    have hae : e ≠ a := fun z => by
      obtain ⟨o2, e2, c2, _⟩ := hT0
      rw [← z, he] at e2
      cases e2
      exact absurd (show Value.type "enumerate" = Value.type "tuple" from c2) (by decide)
    have D := Draws.tuple (prog := X.prog) (w := X.w) (A := X.A.in1) (I.ok.hd hc) it a hai its.toArray
    have hlt : i < its.toArray.size := by
      have := (List.getElem?_eq_some_iff.mp hu).1
      simpa using this
    refine wpAny_pyNext_enum_itemC (c := k0 + ((i : Nat) : Int)) D he ⟨hit, hT0⟩ hlt hne (by simp [hne, hae]) fun y h' tk hy ho hit' hT hsz hk => ?_
    have hyu : y = u := by
      have hy' : its.toArray[i]? = some y := hy
      have h1 : its[i]? = some y := by simpa using hy'
      rw [hu] at h1
      exact (Option.some.inj h1).symm
    subst hyu
    refine ⟨_, rfl, wpAny_letOwnedTupleGo_enum (s := { s with heap := h', toks := tk + 1 }) ho fun h'' he' sb => ?_⟩
    have hT2 : h''.get? s.heap.objs.size = some { cls := .type "tuple", data := .seq #[.int (k0 + ((i : Nat) : Int)) tk, y] } := (sb.2 _ (Nat.ne_of_gt hel)).trans hT
    have new : ObjOk X.prog X.w (upd H s.heap.objs.size (.tup [.int (k0 + (i : Nat)), x])) h'' s.heap.objs.size (.tup [.int (k0 + (i : Nat)), x]) :=
      ⟨by show 2 ≤ sizeLine; decide, [.int (k0 + ((i : Nat) : Int)) tk, y], .cons ⟨_, rfl⟩ (.cons ru .nil), ⟨_, hT2, rfl, _, rfl⟩⟩
    have I1 : Inv X pins σ (upd H s.heap.objs.size (.tup [.int (k0 + (i : Nat)), x])) { s with heap := h'', toks := tk + 1 } :=
      I.turnedNew (ch := [e, it]) (fun b ob hb q => (sb.2 b (fun z => hb (by simp [z]))).trans (hk b ob (fun z => hb (by simp [z])) (fun z => hb (by simp [z])) q)) hf (Nat.le_refl _) new
    refine ⟨.ref s.heap.objs.size, _, I1, rfl, ⟨_, x, rfl, I.hok.fresh (Nat.le_refl _), rfl, fun ys hy => by rw [I.tuple_inj hy hq]; exact hx⟩, ⟨⟨y, ?_⟩, hit'.1.at fun o q => (sb.2 it (Ne.symm hne)).trans q, hne, ?_⟩, fun b hb => ?_⟩
    · have e1 : k0 + ((i + 1 : Nat) : Int) = k0 + (i : Int) + 1 := by omega
      rw [e1]; exact he'
    · have := (List.getElem?_eq_some_iff.mp hx).1
      omega
    · have hb' : b < s.heap.objs.size := by
        have e' : b = e ∨ b = it := by simpa using hb
        rcases e' with z | z
        · rw [z]; exact hel
        · rw [z]; exact hil
      rw [upd_ne (Nat.ne_of_lt hb')]
      exact (hf b hb).1
  done := by
    intro X hP hw hK hc i pins s σ H E I hf st hg
    subst hP hw hK
    obtain ⟨⟨old, he⟩, hit, hne, hin⟩ := st
    obtain ⟨xs, hq, hxn, hx⟩ := hg
    obtain ⟨its, rv, p, hz⟩ := I.tuple hq
    obtain ⟨f0, f1, f2, f3, f4, f5⟩ := hf it (by simp)
    have hl := rv.length
    have hT0 : s.heap.IsTuple a its.toArray := p
    have hai : a ≠ it := fun z => by
      obtain ⟨o1, e1, c1, _⟩ := hit
      obtain ⟨o2, e2, c2, _⟩ := hT0
      rw [z, e1] at e2
      cases e2
      rw [c1] at c2
      exact absurd c2 (by decide)
    have D := Draws.tuple (prog := X.prog) (w := X.w) (A := X.A.in1) (I.ok.hd hc) it a hai its.toArray
    have hn : its.toArray.size = i := by
      rw [List.size_toArray]
      omega
    refine wpAny_pyNext_enum_endD D he (by rw [hn]; exact ⟨hit, hT0⟩) fun h' eb => ⟨rfl, I.turned (t' := s.toks) (fun b o hb q => eb b o hb q) f0 f1 f3 f4 f5⟩
  self := fun A i s Q E st h => let ⟨⟨_, he⟩, _⟩ := st; wpAny_pyIter_enum he h
def iEnumT (K : PySem.W.Frag) (ta : TA) : TI := fun σ H R => ta σ H fun vs H1 => ∃ a xs k0, vs = [.ref a, .int k0] ∧ SqT K H1 a xs ∧ (-9223372036854775808 ≤ k0 ∧ k0 < 9223372036854775808) ∧ R (Itf K a k0 xs.length) H1
theorem pi_enumT {X : Cx} {e f : Expr} {ta : TA} {p pos tpos : Pos} {elts : List Expr} {kk : Nat} (hg : Gl X "enumerate") (hm : X.mg "enumerate" = none) (ha : PA X [e, f] ta) (hs : starEach [e, f] X.env = (false, eval e X.env) :: starEach [f] X.env := by rfl) (hpl : (backTo pos (starEach [f] X.env)).any (·.1) = false := by rfl) :
    PI X (.Tuple elts kk tpos) (.Call (.Name "enumerate" p) [e, f] [] pos) (iEnumT X.K ta) := by
  refine ⟨fun pins s σ H R I h => ?_⟩
  refine Call_ (ld_blt I hg hm boot_enumerate (PyProof.Rows.callWith_type1 (thn (ha.run pos pins s σ H _ I h) fun us s1 ⟨vs, H1, I1, r1, q1⟩ => ?_) hs hpl))
  obtain ⟨a, xs, k0, ex, hq, hk0, q⟩ := q1
  subst ex
  cases r1 with
  | cons r rr =>
    cases rr with
    | cons r2 rr =>
      cases rr
      cases r
      obtain ⟨t, rfl⟩ := r2
      obtain ⟨its, rv, p', hz⟩ := I1.tuple hq
      refine enum_begins (begins_tuple a its.toArray) (show s1.heap.IsTuple a its.toArray from p') (by have := hk0.1; omega) (by have := hk0.2; omega) fun h' he hit hsz hk => wpAny_pyIter_enum he ?_
      have I2 : Inv X pins σ H1 { s1 with heap := h' } := I1.kept (t' := s1.toks) hk
      refine ⟨s1.heap.objs.size + 1, [s1.heap.objs.size + 1, s1.heap.objs.size], _, _, H1, rfl, I2, turn_enumT a (s1.heap.objs.size + 1) s1.heap.objs.size k0 xs.length, ⟨⟨.none, by rw [show k0 + ((0 : Nat) : Int) = k0 by omega]; exact he⟩, ⟨_, hit, rfl, rfl⟩, Nat.succ_ne_self _, Nat.zero_le _⟩, fun b hb => ?_, q⟩
      have e' : b = s1.heap.objs.size + 1 ∨ b = s1.heap.objs.size := by simpa using hb
      have hle : s1.heap.objs.size ≤ b := by
        rcases e' with z | z
        · rw [z]; exact Nat.le_add_right _ _
        · rw [z]; exact Nat.le_refl _
      exact I1.fpOk hle (I1.hok.fresh hle)
def enumK (k0 : Int) (ds : List D) : List D := (List.range ds.length).map fun (i : Nat) => D.tup [.int (k0 + (i : Int)), ds.getD i .non]
theorem enumK_len {k0 : Int} {ds : List D} : (enumK k0 ds).length = ds.length := by
  unfold enumK
  rw [List.length_map, List.length_range]
theorem enumK_get {k0 : Int} {ds : List D} {i : Nat} {d : D} (h : ds[i]? = some d) : (enumK k0 ds)[i]? = some (.tup [.int (k0 + (i : Int)), d]) := by
  unfold enumK
  have hi := (List.getElem?_eq_some_iff.mp h).1
  rw [List.getElem?_map, List.getElem?_range hi]
  show some (D.tup [.int (k0 + (i : Int)), ds.getD i .non]) = _
  rw [List.getD_eq_getElem?_getD, h]
  rfl
section
variable {X : Cx} {F0 : Hp} {Γ : Gm} {L : Lg} {k : D → Lg → Prop} {a b : Expr} {p pos tpos p2 : Pos} {elts es : List Expr} {kk x1 : Nat}
theorem ei_enumT {kl : List D → Lg → Prop} (hm : X.mg "enumerate" = none) (hg : Gl X "enumerate") (h : EvK X F0 a Γ L fun x L1 => EvK X F0 b Γ L1 fun y L2 => ∃ ds k0, x = .tup ds ∧ y = .int k0 ∧ (-9223372036854775808 ≤ k0 ∧ k0 < 9223372036854775808) ∧ kl (enumK k0 ds) L2)
    (hs : starEach [a, b] X.env = (false, eval a X.env) :: starEach [b] X.env := by rfl) (hs2 : starEach [b] X.env = (false, eval b X.env) :: starEach [] X.env := by rfl) (hpl : (backTo pos (starEach [b] X.env)).any (·.1) = false := by rfl) :
    EiK X F0 (.Tuple elts kk tpos) (.Call (.Name "enumerate" p) [a, b] [] pos) Γ L kl := fun F σ H R E q =>
  wpI.of (pi_enumT hg hm (pa_cons we (pa_cons we pa_nil hs2) hs) hs hpl) (h F σ H _ E fun x L1 F1 v H1 h1 E1 s1 r1 => h1 F1 σ H1 _ E1 fun y L2 F2 u H2 ⟨ds, k0, e1, e2, hk0, h2⟩ E2 s2 r2 => by
    subst e1 e2
    cases r2
    have r1' := r1.mono s2
    cases r1' with
    | tup hx rx =>
      rename_i p xs
      refine ⟨p, xs, k0, rfl, seqT E2.led.sub hx, hk0, q _ L2 F2 H2 _ h2 E2 (s1.trans s2) ⟨?_, ?_, ?_⟩⟩
      · intro i H F' L' hi s l
        have hi' : i < xs.length := by rw [← rx.length]; rw [enumK_len] at hi; exact hi
        exact ⟨xs, xs[i], seqT (s.trans l.sub) hx, rfl, List.getElem?_eq_getElem hi'⟩
      · rintro i H x H' F' L' s l ⟨T, y, rfl, hT, rfl, hy⟩ hi
        have hx' := hy xs (seqT (s.trans l.sub) hx)
        obtain ⟨d, hd, rd⟩ := rx.got hx'
        have s2 : Same F' (upd F' T (.tup [.int (k0 + (i : Nat)), y])) := same_new (l.free hT)
        exact ⟨.tup [.int (k0 + (i : Int)), d], _, enumK_get hd, s2, l.new hT, .tup (.inl (.inl upd_same)) (.cons .int (.cons (rd.mono (s.trans s2)) .nil))⟩
      · intro i H F' L' hi s l
        exact ⟨xs, seqT (s.trans l.sub) hx, rfl, by rw [← rx.length]; rw [enumK_len] at hi; exact hi⟩)
end
/-! ### tuple * int -/
section
variable {X : Cx}
theorem tuple_mul1W (l : Addr) (items : Array Value) (n : Nat) (dd : Option Addr) (sl : Array (Option Value)) (u : Tok) :
    Meets (Builtin.«tuple.__mul__» ⟨[.ref l, .int 1 u], []⟩) (fun _ R s => s.heap.get? l = some { cls := .type "tuple", dict := dd, data := .seq items n, slots := sl } ∧ R (.ok (.ret (Value.ref l))) s) :=
  .of_wp fun prog w A R s h => by
    obtain ⟨hp, g, d, tk, os⟩ := s
    obtain ⟨hl, h⟩ := h
    have f1 := AutoSeq1.idx_int
    have c0 : (decide ((1 : Int) < -(2 ^ 63)) || decide ((1 : Int) ≥ 2 ^ 63)) = false := by decide
    have c1 : (items.isEmpty || (1 : Int) == 1) = true := by rw [show ((1 : Int) == 1) = true from rfl, Bool.or_true]
    wp_walk using wpAny_loadPart' hl
    repeat (first
      | (refine wpAny_ite_false (decide_eq_false (by rw [c0]; exact Bool.false_ne_true)) ?_; wp_walk using wpAny_loadPart' hl)
      | (refine wpAny_ite_true (decide_eq_true c1) ?_; wp_walk using wpAny_loadPart' hl))
    exact ⟨_, rfl, h⟩
def rRepT1 (K : PySem.W.Frag) : R2 := fun x y H Q => ∃ l k xs, x = .ref l ∧ y = .int k ∧ SqT K H l xs ∧ xs ≠ [] ∧ 1 ≤ k ∧ k ≤ 1000 ∧ xs.length ≤ 1000 ∧ (k = 1 → Q (.ref l) H) ∧ (k ≠ 1 → ∀ p, H p = none → Q (.ref p) (upd H p (.tup (List.replicate k.toNat xs).flatten)))
theorem op_repT1 : OpR X (binaryOp .Mult) (rRepT1 X.K) := by
  intro pins s σ H x y v u Q I rx ry h
  obtain ⟨l, k, xs, rfl, rfl, hT, hne, h1, h2, hz, q1, q2⟩ := h
  by_cases hk : k = 1
  · subst hk
    cases rx
    obtain ⟨t, rfl⟩ := ry
    obtain ⟨its, r, ⟨⟨cls, dd, data, sl⟩, ho, hc, n, hd⟩, hs⟩ := I.tuple hT
    simp only at hc hd
    subst hc hd
    refine wpAny_binaryOp_repeat_ref (T := "tuple") (U := "int") (by decide) ⟨_, ho, rfl⟩ (fun s' => typeIs_int s' 1 t) noFill_tuple_mul F.fills_int_mul F.slot_int_rmul repeat_tuple F.slot_int_index.lookup
      (call_meets F.slot_int_rmul (typeIs_int s 1 t) F.entry_int_rmul (F.args_int_rmul_2 _ _) (int_rmul_tuple 1 t l its.toArray n dd sl)
        ⟨ho, rfl, ⟨_, ho, rfl⟩, call_meets F.slot_tuple_mul ⟨_, ho, rfl⟩ F.entry_tuple_mul (F.args_tuple_mul_2 _ _) (tuple_mul1W l its.toArray n dd sl t) ⟨ho, ?_⟩⟩)
    exact ⟨.ref l, H, I, rfl, q1 rfl⟩
  · exact op_repT pins s σ H (.ref l) (.int k) v u Q I rx ry ⟨l, k, xs, rfl, rfl, hT, hne, by omega, h2, hz, q2 hk⟩
end
section
variable {X : Cx} {F0 : Hp} {Γ : Gm} {L : Lg} {k : D → Lg → Prop} {a b : Expr} {pos : Pos}
/-- a * b, a a tuple that is not empty -/
theorem ek_repT (h : EvK X F0 a Γ L fun x L1 => EvK X F0 b Γ L1 fun y L2 => ∃ ds n, x = .tup ds ∧ y = .int n ∧ (0 < ds.length ∧ ds.length ≤ 1000 ∧ 1 ≤ n ∧ n ≤ 1000) ∧ k (.tup (List.replicate n.toNat ds).flatten) L2) :
    EvK X F0 (.BinOp a .Mult b pos) Γ L k := fun F σ H Q E q =>
  wpE.of (pe_op op_repT1 we we) (h F σ H _ E fun x L1 F1 v H1 h1 E1 s1 r1 => h1 F1 σ H1 _ E1 fun y L2 F2 u H2 ⟨ds, n, e1, e2, ⟨b1, b2, b3, b4⟩, h2⟩ E2 s2 r2 => by
    subst e1 e2
    cases r2
    have r1' := r1.mono s2
    cases r1' with
    | tup hx rx =>
      rename_i p xs
      have hl := rx.length
      refine ⟨p, n, xs, rfl, rfl, seqT E2.led.sub hx, fun z => by rw [z] at hl; simp at hl; rw [hl] at b1; exact Nat.lt_irrefl _ b1, b3, b4, by omega, fun hn => ?_, fun hn m hm => ?_⟩
      · subst hn
        have e : (List.replicate (1 : Int).toNat ds).flatten = ds := by simp
        rw [e] at h2
        exact q _ L2 F2 _ H2 h2 E2 (s1.trans s2) (.tup hx rx)
      · have s4 : Same F2 (upd F2 m (.tup (List.replicate n.toNat xs).flatten)) := same_new (E2.led.free hm)
        exact q _ L2 _ _ _ h2 (E2.new hm) (s1.trans (s2.trans s4)) (.tup (.inl (.inl upd_same)) ((rx.mono s4).rep n.toNat))) 
end
/-! ### isinstance(x, (A, B)) -/
section
variable {X : Cx}
theorem call_isiTQ : CallR X (.builtin "isinstance") (fun xs H Q => ∃ (x : V) (tp : Addr) (cs : List V) (t : Value) (us : List Value) (b : Bool), xs = [x, .ref tp] ∧ SqT X.K H tp cs ∧ Paired ClsV cs us ∧ TyX X.K H x t ∧ PySem.W.kitAny X.K t us = some b ∧ Q (.bl b) H) := by
  intro pins s σ H xs us Q I r h
  obtain ⟨x, tp, cs, t, ws, b, rfl, hT, k, ty, e, q⟩ := h
  obtain ⟨u1, u2, rfl, r1, r2⟩ := vals2 r
  cases (show u2 = Value.ref tp from r2)
  obtain ⟨P, Z, p, hx⟩ := kit_of I r1 ty
  obtain ⟨its, rv, ⟨o, h1, h2, n, h3⟩, _⟩ := I.tuple hT
  have e3 := ClsV.all k rv
  subst e3
  obtain ⟨oc, od, dt, sl⟩ := o
  simp only at h2 h3
  subst h2 h3
  exact PySem.W.kia_tup Z I.kIn p h1 e hx fun tk => ⟨.bl b, H, I.tok tk, rfl, q⟩
end
/-- which of some types' names: the answer of isinstance with a tuple -/
inductive KitsB (t : String) : List String → Bool → Prop
  | nil : KitsB t [] false
  | yes {n : String} {ns : List String} : kitB t n = some true → KitsB t (n :: ns) true
  | no {n : String} {ns : List String} {r : Bool} : kitB t n = some false → KitsB t ns r → KitsB t (n :: ns) r
theorem KitsB.any {K : PySem.W.Frag} {t : String} {ns : List String} {r : Bool} (h : KitsB t ns r) : PySem.W.kitAny K (.type t) (ns.map Value.type) = some r := by
  induction h with
  | nil => exact kitAny_nil
  | yes h => exact kitAny_cons (kit_ty h) (fun z => nomatch z) (fun _ => rfl)
  | no h _ ih => exact kitAny_cons (kit_ty h) (fun _ => ih) (fun z => nomatch z)
theorem clsD_tys : ∀ {ns : List String}, Paired ClsD (ns.map D.ty) (ns.map Value.type)
  | [] => .nil
  | _ :: _ => .cons .ty clsD_tys
section
variable {X : Cx} {F0 : Hp} {Γ : Gm} {L : Lg} {k : D → Lg → Prop} {a b : Expr} {pos : Pos}
theorem ek_isiT {p : Pos} (hm : X.mg "isinstance" = none) (hg : Gl X "isinstance") (h : EvK X F0 a Γ L fun x L1 => EvK X F0 b Γ L1 fun y L2 => ∃ t ns r, TyD L2 x t ∧ y = .tup (ns.map D.ty) ∧ KitsB t ns r ∧ k (.bl r) L2)
    (he : starEach [a, b] X.env = (false, eval a X.env) :: starEach [b] X.env := by rfl) (he2 : starEach [b] X.env = (false, eval b X.env) :: starEach [] X.env := by rfl) (hpl : (backTo pos (starEach [b] X.env)).any (·.1) = false := by rfl) :
    EvK X F0 (.Call (.Name "isinstance" p) [a, b] [] pos) Γ L k :=
  ek_cb call_isiTQ hm boot_isinstance (P := fun ds L1 kk => ∃ x t ns r, ds = [x, .tup (ns.map D.ty)] ∧ TyD L1 x t ∧ KitsB t ns r ∧ kk (.bl r))
    (fun F L' σ H ds vs kk Q E r ⟨x, t, ns, rr, e1, ht, hk, hq⟩ q => by
      subst e1
      obtain ⟨v, v', rfl, r1, r2⟩ := reps2 r
      cases r2 with
      | tup hx rx => exact ⟨v, _, _, .type t, ns.map Value.type, rr, rfl, seqT E.led.sub hx, ClsD.vs clsD_tys rx, ht.tyx E.led r1, hk.any, q _ F _ H hq E (Same.refl F) .bl⟩)
    (ea_cons (fun F σ H Q E q => h F σ H Q E fun x L1 F1 v H1 h1 E1 s1 r1 => q x L1 F1 v H1 (ea_cons (fun F σ H Q E q => h1 F σ H Q E fun y L2 F2 u H2 ⟨t, n, rr, h2, e2, h3, h4⟩ E2 s2 r2 => q y L2 F2 u H2 (ea_nil ⟨x, t, n, rr, by rw [e2], h2, h3, h4⟩) E2 s2 r2) he2) E1 s1 r1) he) hg (he := he) (hpl := hpl)
/-- int(b) -/
theorem ek_intB {p : Pos} (hm : X.mg "int" = none) (hg : Gl X "int") (h : EvK X F0 a Γ L fun x L1 => ∃ b, x = .bl b ∧ k (.int (if b then 1 else 0)) L1)
    (he : starEach [a] X.env = (false, eval a X.env) :: starEach [] X.env := by rfl) : EvK X F0 (.Call (.Name "int" p) [a] [] pos) Γ L k :=
  ek_ct call_int1 hm PySem.Pv.boot_int (P := fun ds L1 kk => ∃ b : Bool, ds = [.bl b] ∧ kk (.int (if b then 1 else 0)))
    (fun F L' σ H ds vs kk Q E r ⟨b, e1, hk⟩ q => by
      subst e1
      obtain ⟨v, rfl, r1⟩ := reps1 r
      cases r1
      exact .inr ⟨b, rfl, q _ F _ H hk E (Same.refl F) .int⟩)
    (ea_cons (fun F σ H Q E q => h F σ H Q E fun d L' F' v H' ⟨b, h1, h2⟩ E' s r => q d L' F' v H' (ea_nil ⟨b, by rw [h1], h2⟩) E' s r) he) hg (he := he)
end
end Vs

set_option Elab.async false
set_option linter.all false
set_option maxRecDepth 100000
set_option maxHeartbeats 4000000
namespace Vs
open PySem PySem.Spec PyProof.Rows L2
/-- a tuple of texts of the module -/
structure GTupS (K : PySem.W.Frag) (mg : Str → Option Value) (x : Str) (ys : List Str) : Prop where
  ex : ∃ t, mg x = some (.ref t) ∧ (∃ o, K.lookup t = some o ∧ o.cls = .type "tuple" ∧ o.dict = none) ∧ ∀ H, SqT K H t (ys.map V.str)
theorem reps_strs {K : PySem.W.Frag} {F : Hp} : ∀ {ys : List Str}, Reps K F (ys.map D.str) (ys.map V.str)
  | [] => .nil
  | _ :: _ => .cons .str reps_strs
theorem GTupS.go {K : PySem.W.Frag} {mg : Str → Option Value} {x : Str} {ys : List Str} (g : GTupS K mg x ys) : GObj K mg x (.tup (ys.map D.str)) := by
  obtain ⟨t, hm, _, hS⟩ := g.ex
  exact ⟨t, hm, fun F => .tup (hS F) reps_strs⟩
/-! ### len(set(xs)), xs a list of numbers -/
/-- a set that was made, by its size -/
def SetN (a : Addr) (n : Nat) : HO := .ext fun h => ∃ (o : Obj) (es : Array (Int × Value)) (ep : Nat) (t : SetTable), h.get? a = some o ∧ o.ExactSet ∧ o.data = .set es ep t ∧ t.fits es.size = true ∧ es.size = n
/-- how many unlike ones -/
def cardI (ns : List Int) : Nat := (firstMet (fun i => ns.getD i 0) ns.length).length
section
variable {X : Cx}
theorem cr_setL (hc : X.calm = true) : CallR X (.type "set") (fun xs H Q => ∃ p ns, xs = [.ref p] ∧ SqL X.K H p (ns.map V.int) ∧ ns.length ≤ 1000 ∧ ∀ a, H a = none → Q (.ref a) (upd H a (SetN a (cardI ns)))) := by
  intro pins s σ H xs us Q I r h
  obtain ⟨p, ns, rfl, hq, hl, q⟩ := h
  obtain ⟨u, rfl, ru⟩ := vals1 r
  cases (show u = Value.ref p from ru)
  obtain ⟨its, rv, pl, hz⟩ := I.list hq
  have hlen : its.toArray.size = ns.length := by
    have := rv.length
    rw [List.length_map] at this
    rw [List.size_toArray]
    exact this.symm
  refine call_set_list (I.ok.hd hc) pl.isList (ns := ns) (by have := intsAre_of rv; simpa using this) (by rw [hlen]; unfold scanBound; omega) fun h' tk hS hk => ?_
  obtain ⟨o, es, ep, t, ho, hex, hd, hE, hm, hb, hf, hn⟩ := hS
  have new : ObjOk X.prog X.w (upd H s.heap.objs.size (SetN s.heap.objs.size (cardI ns))) h' s.heap.objs.size (SetN s.heap.objs.size (cardI ns)) :=
    ⟨⟨o, es, ep, t, ho, hex, hd, hf, by rw [hn, hlen]; rfl⟩, ⟨o, ho⟩, fun _ _ ⟨o, es, ep, t, r1, r2⟩ k => ⟨o, es, ep, t, k o r1, r2⟩⟩
  have I1 := I.laid (t' := tk) (fun b u e => hk b u (Heap.lt_size e) e) (Nat.le_refl _) new
  exact ⟨.ref s.heap.objs.size, _, I1, rfl, q _ (I.hok.fresh (Nat.le_refl _))⟩
theorem cr_lenS : CallR X (.builtin "len") (fun xs H Q => ∃ a n, xs = [.ref a] ∧ H a = some (SetN a n) ∧ n ≤ 100000 ∧ Q (.int (n : Nat)) H) := by
  intro pins s σ H xs us Q I r h
  obtain ⟨a, n, rfl, ha, hn, q⟩ := h
  obtain ⟨u, rfl, ru⟩ := vals1 r
  cases (show u = Value.ref a from ru)
  obtain ⟨⟨o, es, ep, t, ho, hex, hd, hf, hs⟩, _⟩ := (show ObjOk X.prog X.w H s.heap a (SetN a n) from I.hok a _ ha)
  refine call_len_set ho hex hd hf (by omega) ?_
  rw [hs]
  exact ⟨.int (n : Nat), H, I.tok _, ⟨_, rfl⟩, q⟩
end
theorem firstMet_mem {val : Nat → Int} {k : Int} : ∀ {i : Nat}, k ∈ firstMet val i ↔ ∃ j, j < i ∧ val j = k := fun {i} => by
  have h := firstMet_any val i k
  have e1 : (firstMet val i).any (· == k) = true ↔ k ∈ firstMet val i := by simp
  have e2 : ((List.range i).map val).any (· == k) = true ↔ ∃ j, j < i ∧ val j = k := by simp
  rw [← e1, h, e2]
theorem cardI_nodup {ns : List Int} (h : ns.Nodup) : cardI ns = ns.length := by
  have key : ∀ i, i ≤ ns.length → (firstMet (fun i => ns.getD i 0) i).length = i := fun i => by
    induction i with
    | zero => intro _; rfl
    | succ i ih =>
      intro hi
      rw [firstMet_succ, step_length, ih (by omega), if_neg]
      intro z
      have hm : ns.getD i 0 ∈ firstMet (fun i => ns.getD i 0) i := by simpa using z
      obtain ⟨j, hj, e⟩ := firstMet_mem.mp hm
      rw [List.getD_eq_getElem?_getD, List.getD_eq_getElem?_getD, List.getElem?_eq_getElem (by omega), List.getElem?_eq_getElem (by omega)] at e
      have := (List.getElem_inj (i := j) (j := i) (h₀ := by omega) (h₁ := by omega) h).mp e
      omega
  exact key _ (Nat.le_refl _)
theorem cardI_le {ns : List Int} : cardI ns ≤ ns.length := firstMet_length_le _ _
theorem cardI_dup {ns : List Int} (h : ¬ ns.Nodup) : cardI ns < ns.length := by
  refine Nat.lt_of_le_of_ne cardI_le fun e => h ?_
  have key : ∀ i, i ≤ ns.length → (firstMet (fun i => ns.getD i 0) i).length = i → ∀ a b, a < b → b < i → ns.getD a 0 ≠ ns.getD b 0 := fun i => by
    induction i with
    | zero => intro _ _ a b _ h; omega
    | succ i ih =>
      intro hi hl a b hab hbi
      have hle := firstMet_length_le (fun i => ns.getD i 0) i
      rw [firstMet_succ, step_length] at hl
      by_cases hany : (firstMet (fun i => ns.getD i 0) i).any (· == ns.getD i 0) = true
      · rw [if_pos hany] at hl
        omega
      · rw [if_neg hany] at hl
        by_cases hb : b < i
        · exact ih (by omega) (by omega) a b hab hb
        · have : b = i := by omega
          subst this
          intro z
          exact hany (by
            rw [List.any_eq_true]
            exact ⟨_, firstMet_mem.mpr ⟨a, hab, rfl⟩, by simpa using z⟩)
  have k2 := key _ (Nat.le_refl _) e
  rw [List.nodup_iff_pairwise_ne, List.pairwise_iff_getElem]
  intro a b ha hb hab
  have := k2 a b hab hb
  rw [List.getD_eq_getElem?_getD, List.getD_eq_getElem?_getD, List.getElem?_eq_getElem ha, List.getElem?_eq_getElem hb] at this
  exact this
section
variable {X : Cx} {F0 : Hp} {Γ : Gm} {L : Lg} {k : D → Lg → Prop} {kg : Gm → Lg → Prop} {a b o e : Expr} {pos p p2 cpos apos : Pos}
theorem ek_lenset (hc : X.calm = true) (hm : X.mg "len" = none) (hg : Gl X "len") (hm2 : X.mg "set" = none) (hg2 : Gl X "set") (h : EvK X F0 a Γ L fun x L1 => ∃ ns : List Int, AsL L1 x (dI ns) ∧ ns.length ≤ 1000 ∧ k (.int (cardI ns : Nat)) L1)
    (he : starEach [a] X.env = (false, eval a X.env) :: starEach [] X.env := by rfl) (hp : (backTo cpos (starEach [] X.env)).any (·.1) = false := by rfl) (he2 : starEach [.Call (.Name "set" p2) [a] [] cpos] X.env = (false, eval (.Call (.Name "set" p2) [a] [] cpos) X.env) :: starEach [] X.env := by rfl) (hp2 : (backTo pos (starEach [] X.env)).any (·.1) = false := by rfl) :
    EvK X F0 (.Call (.Name "len" p) [.Call (.Name "set" p2) [a] [] cpos] [] pos) Γ L k := fun F σ H Q E q =>
  wpE.of (pe_callB cr_lenS hg hm (by decide +kernel) (pa_cons (pe_callTy (cr_setL hc) hg2 hm2 (by decide +kernel) (pa_cons we pa_nil he) (by decide) (by decide) he hp) pa_nil he2) (by decide) (by decide) he2 hp2)
    (h F σ H _ E fun x L1 F1 v H1 ⟨ns, as, hl, h1⟩ E1 s1 r1 => by
      obtain ⟨p, xs, rfl, hx, rx⟩ := as.read E1.led r1
      have e := il_reps rx
      subst e
      exact ⟨p, ns, rfl, hx, hl, fun a ha => ⟨a, cardI ns, rfl, upd_same, by have := cardI_le (ns := ns); omega, q _ L1 _ _ _ h1 (E1.new ha) (s1.trans (same_new (E1.led.free ha))) .int⟩⟩)
/-- NAME.index(x), NAME a tuple of texts of the module -/
theorem ek_tupIndex {nm : Str} {ys : List Str} (g : GTupS X.K X.mg nm ys) (hgl : Gl X nm) (h : EvK X F0 e Γ L fun y L2 => ∃ (z : Str) (j : Nat), y = .str z ∧ ys[j]? = some z ∧ (∀ m, m < j → ys[m]? ≠ some z) ∧ k (.int (j : Int)) L2)
    (hd : (nm == ("__debug__" : Str)) = false := by decide)
    (hbase : attributeBase (.Name nm p2) "index" X.env (eval (.Name nm p2) X.env) = eval (.Name nm p2) X.env := by rfl)
    (hfew : ((backTo cpos (starEach [e] X.env)).all (fun x => !x.1) && (backToKw cpos (keywordEach [] X.env)).all (fun x => x.1.isSome)
      && decide (([e] : List Expr).length + ([] : List Keyword).length + (if ([] : List Keyword).isEmpty then 0 else 1) < 30)) = true := by rfl)
    (hline : (apos.endLine == cpos.line) = true := by rfl) (hs : starEach [e] X.env = (false, eval e X.env) :: starEach [] X.env := by rfl) (hplain : (backTo cpos (starEach [] X.env)).any (·.1) = false := by rfl) :
    EvK X F0 (.Call (.Attribute (.Name nm p2) "index" apos) [e] [] cpos) Γ L k := fun F σ H Q E q => by
  obtain ⟨t, hm, ho, hS⟩ := g.ex
  exact wpE.of (pe_bm PySem.F.plainAttrs_tuple PySem.F.slot_tuple_index PySem.F.type_tuple_index mt_tup_index (pe_glob hgl hm (v := .ref t) rfl hd) (pa_cons we pa_nil hs) hbase hfew hline hs hplain)
    ⟨.inr (.inl ⟨rfl, ho⟩), h F σ H _ E fun y L2 F2 u H2 ⟨z, j, e2, hj, hno, h2⟩ E2 s2 r2 => by
      subst e2
      cases r2
      exact ⟨t, ys, z, j, rfl, rfl, hS H2, hj, hno, q _ L2 F2 _ H2 h2 E2 s2 .int⟩⟩
theorem tg_lst {es : List Expr} {kk n : Nat} {d : D} (hc : X.calm = true) (h : ∃ ds, d = .lst ds ∧ ds.length = n ∧ TnK X F0 es ds Γ L kg) (hn : (assignEach es X.env).length = n := by rfl) (hst : (assignEach es X.env).findIdx? (·.1) = none := by rfl) :
    TgK X F0 (.Tuple es kk pos) d Γ L kg := fun F σ H v Q E r q => by
  obtain ⟨ds, rfl, hl, h⟩ := h
  cases r with
  | lst hx rx => exact wpG.of (pg_lst hc wgs hn hst) ⟨_, _, rfl, E.led.sub.seq hx, by rw [← rx.length]; exact hl, h F σ H _ Q E rx q⟩
end
/-! ### x in xs, texts -/
theorem inV_strs {z : Str} : ∀ {ys : List Str}, inV (.str z) (ys.map V.str) = decide (z ∈ ys)
  | [] => by simp [inV]
  | n :: ns => by
    have ih := inV_strs (z := z) (ys := ns)
    unfold inV at ih ⊢
    rw [List.map_cons, List.any_cons, ih]
    show ((n == z) || decide (z ∈ ns)) = decide (z ∈ n :: ns)
    by_cases h : n = z
    · subst h; simp
    · have h2 : ¬ z = n := fun w => h w.symm
      simp [h, h2]
theorem sl_reps {K : PySem.W.Frag} {F : Hp} : ∀ {ys : List Str} {vs : List V}, Reps K F (ys.map D.str) vs → vs = ys.map V.str
  | [], _, .nil => rfl
  | _ :: _, _, .cons .str t => congrArg (_ :: ·) (sl_reps t)
section
variable {X : Cx} {F0 : Hp} {Γ : Gm} {L : Lg} {k : D → Lg → Prop} {kt : Bool → Lg → Prop} {a b : Expr} {pos : Pos}
theorem rd_inS {neg : Bool} (h : EvK X F0 a Γ L fun x L1 => ∃ z, x = .str z ∧ EvK X F0 b Γ L1 fun y L2 => ∃ ys : List Str, AsS L2 y (ys.map D.str) ∧ k (.bl (if neg then !decide (z ∈ ys) else decide (z ∈ ys))) L2) : RdK X F0 (tOp (rIn X.K neg) (wpE X a) (wpE X b)) Γ L k := fun F σ H Q E q =>
  h F σ H _ E fun x L1 F1 v H1 ⟨z, e1, h1⟩ E1 s1 r1 => h1 F1 σ H1 _ E1 fun y L2 F2 u H2 ⟨ys, as, h2⟩ E2 s2 r2 => by
    subst e1
    cases r1
    obtain ⟨p, xs, rfl, hx, rx⟩ := as.read E2.led r2
    have e := sl_reps rx
    subst e
    refine ⟨p, _, rfl, hx, rfl, flat_strs ys, ?_⟩
    rw [inV_strs]
    exact q _ L2 F2 _ H2 h2 E2 (s1.trans s2) .bl
theorem ek_inS (h : EvK X F0 a Γ L fun x L1 => ∃ z, x = .str z ∧ EvK X F0 b Γ L1 fun y L2 => ∃ ys : List Str, AsS L2 y (ys.map D.str) ∧ k (.bl (decide (z ∈ ys))) L2) (hm : behindInMarks .In b = false := by rfl) : EvK X F0 (.Compare a [.In] [b] pos) Γ L k := (rd_inS (neg := false) h).ev (pe_cmpR op_in_seq we we hm)
theorem ek_notinS (h : EvK X F0 a Γ L fun x L1 => ∃ z, x = .str z ∧ EvK X F0 b Γ L1 fun y L2 => ∃ ys : List Str, AsS L2 y (ys.map D.str) ∧ k (.bl (!decide (z ∈ ys))) L2) (hm : behindInMarks .NotIn b = false := by rfl) : EvK X F0 (.Compare a [.NotIn] [b] pos) Γ L k := (rd_inS (neg := true) h).ev (pe_cmpR op_notIn_seq we we hm)
theorem et_inS (h : EvK X F0 a Γ L fun x L1 => ∃ z, x = .str z ∧ EvK X F0 b Γ L1 fun y L2 => ∃ ys : List Str, AsS L2 y (ys.map D.str) ∧ ∃ t, D.bl (decide (z ∈ ys)) = .bl t ∧ kt t L2) (hm : behindInMarks .In b = false := by rfl) : EtK X F0 (.Compare a [.In] [b] pos) Γ L kt := (rd_inS (neg := false) (k := fun d L2 => ∃ t, d = .bl t ∧ kt t L2) h).tst (pt_cmpR op_in_seq we we hm)
theorem et_notinS (h : EvK X F0 a Γ L fun x L1 => ∃ z, x = .str z ∧ EvK X F0 b Γ L1 fun y L2 => ∃ ys : List Str, AsS L2 y (ys.map D.str) ∧ ∃ t, D.bl (!decide (z ∈ ys)) = .bl t ∧ kt t L2) (hm : behindInMarks .NotIn b = false := by rfl) : EtK X F0 (.Compare a [.NotIn] [b] pos) Γ L kt := (rd_inS (neg := true) (k := fun d L2 => ∃ t, d = .bl t ∧ kt t L2) h).tst (pt_cmpR op_notIn_seq we we hm)
end
end Vs

set_option Elab.async false
set_option linter.all false
set_option maxRecDepth 100000
set_option maxHeartbeats 4000000
namespace Vs
open PySem PySem.Spec PyProof.Rows L2
/-! ### min, max, set of a tuple of numbers -/
section
variable {prog : Program} {w : World} {A : Around} {E : Value → Shared → Prop} {s : Shared}
theorem min_tupI {xs : Array (Int × Tok)} {l : Addr} {Q : Value → Shared → Prop} (hh : A.handled = none) (hl : s.heap.IsTuple l (intItems xs)) (hne : 0 < xs.size)
    (h : ∀ v h' tk, (intItems xs)[argBest (fun i j => decide (numAt xs i < numAt xs j)) (xs.size - 1)]? = some v → (∀ b o, s.heap.get? b = some o → h'.get? b = some o) → Q v { s with heap := h', toks := tk }) :
    wpAny (model prog w) A (call (.builtin "min") [.ref l]) Q E s := by
  refine call_min_walk (wpAny_pyIter_tuple hl ?_)
  have hlt : l < s.heap.objs.size := by obtain ⟨_, q, _⟩ := hl; exact Heap.lt_size q
  refine ⟨_, [_, l], [_], _, _, _, _, rfl, Walks.tuple (A := A.in1) hh _ l (Nat.ne_of_lt hlt) (intItems xs), ⟨⟨_, Heap.get?_push_size _ rfl, rfl, rfl⟩, hl.push _⟩, fun c hc => ?_, by simpa [intItems] using hne, CmpOf.ints_lt (numAt xs) (fun _ _ => intItems_at), fun v h' tk hP hk => ?_⟩
  · show c < (s.heap.push _).objs.size
    rw [Heap.size_push]
    rcases List.mem_cons.mp hc with rfl | hc
    · exact Nat.lt_succ_self _
    · rcases List.mem_cons.mp hc with rfl | hc
      · exact Nat.lt_succ_of_lt hlt
      · cases hc
  · exact h v h' tk (by simpa [intItems] using hP) (fun b o e => hk b o (fun hm => absurd (List.mem_singleton.mp hm ▸ Heap.lt_size e) (Nat.lt_irrefl _)) (Heap.get?_push_of_some _ e))
theorem max_tupI {xs : Array (Int × Tok)} {l : Addr} {Q : Value → Shared → Prop} (hh : A.handled = none) (hl : s.heap.IsTuple l (intItems xs)) (hne : 0 < xs.size)
    (h : ∀ v h' tk, (intItems xs)[argBest (fun i j => decide (numAt xs i > numAt xs j)) (xs.size - 1)]? = some v → (∀ b o, s.heap.get? b = some o → h'.get? b = some o) → Q v { s with heap := h', toks := tk }) :
    wpAny (model prog w) A (call (.builtin "max") [.ref l]) Q E s := by
  refine call_max_walk (wpAny_pyIter_tuple hl ?_)
  have hlt : l < s.heap.objs.size := by obtain ⟨_, q, _⟩ := hl; exact Heap.lt_size q
  refine ⟨_, [_, l], [_], _, _, _, _, rfl, Walks.tuple (A := A.in1) hh _ l (Nat.ne_of_lt hlt) (intItems xs), ⟨⟨_, Heap.get?_push_size _ rfl, rfl, rfl⟩, hl.push _⟩, fun c hc => ?_, by simpa [intItems] using hne, CmpOf.ints_gt (numAt xs) (fun _ _ => intItems_at), fun v h' tk hP hk => ?_⟩
  · show c < (s.heap.push _).objs.size
    rw [Heap.size_push]
    rcases List.mem_cons.mp hc with rfl | hc
    · exact Nat.lt_succ_self _
    · rcases List.mem_cons.mp hc with rfl | hc
      · exact Nat.lt_succ_of_lt hlt
      · cases hc
  · exact h v h' tk (by simpa [intItems] using hP) (fun b o e => hk b o (fun hm => absurd (List.mem_singleton.mp hm ▸ Heap.lt_size e) (Nat.lt_irrefl _)) (Heap.get?_push_of_some _ e))
theorem min_rawT {its : List Value} {ns : List Int} {l : Addr} {Q : Value → Shared → Prop} (hh : A.handled = none) (hl : s.heap.IsTuple l its.toArray) (hi : IntsAre its ns) (hne : 0 < ns.length)
    (h : ∀ h' tk M t', (∀ b o, s.heap.get? b = some o → h'.get? b = some o) → M ∈ ns → (∀ a, a ∈ ns → M ≤ a) → Q (.int M t') { s with heap := h', toks := tk }) : wpAny (model prog w) A (call (.builtin "min") [.ref l]) Q E s := by
  obtain ⟨xs, e⟩ := hi.allInts.items
  have hn : numsOf (intItems xs).toList = ns := by rw [← e]; exact hi.numsOf
  rw [nums_intItems] at hn
  subst hn
  rw [e] at hl
  have hsz : 0 < xs.size := by simpa using hne
  refine min_tupI hh hl hsz fun v h' tk hv hk => ?_
  obtain ⟨t, rfl⟩ := intItems_at hv
  obtain ⟨h1, h2⟩ := argBest_lt (numAt xs) (xs.size - 1)
  refine h h' tk _ t hk ?_ fun a ha => ?_
  · rw [numAt_eq]; exact PySem.getD_mem (by rw [List.length_map, Array.length_toList]; omega)
  · obtain ⟨j, hj, rfl⟩ := mem_getD ha
    rw [List.length_map, Array.length_toList] at hj
    rw [← numAt_eq]; exact h2 j (by omega)
theorem max_rawT {its : List Value} {ns : List Int} {l : Addr} {Q : Value → Shared → Prop} (hh : A.handled = none) (hl : s.heap.IsTuple l its.toArray) (hi : IntsAre its ns) (hne : 0 < ns.length)
    (h : ∀ h' tk M t', (∀ b o, s.heap.get? b = some o → h'.get? b = some o) → M ∈ ns → (∀ a, a ∈ ns → a ≤ M) → Q (.int M t') { s with heap := h', toks := tk }) : wpAny (model prog w) A (call (.builtin "max") [.ref l]) Q E s := by
  obtain ⟨xs, e⟩ := hi.allInts.items
  have hn : numsOf (intItems xs).toList = ns := by rw [← e]; exact hi.numsOf
  rw [nums_intItems] at hn
  subst hn
  rw [e] at hl
  have hsz : 0 < xs.size := by simpa using hne
  refine max_tupI hh hl hsz fun v h' tk hv hk => ?_
  obtain ⟨t, rfl⟩ := intItems_at hv
  obtain ⟨h1, h2⟩ := argBest_gt (numAt xs) (xs.size - 1)
  refine h h' tk _ t hk ?_ fun a ha => ?_
  · rw [numAt_eq]; exact PySem.getD_mem (by rw [List.length_map, Array.length_toList]; omega)
  · obtain ⟨j, hj, rfl⟩ := mem_getD ha
    rw [List.length_map, Array.length_toList] at hj
    rw [← numAt_eq]; exact h2 j (by omega)
end
section
variable {X : Cx}
theorem cr_maxT (hc : X.calm = true) : CallR X (.builtin "max") (fun vs H Q => ∃ (a : Addr) (ns : List Int), vs = [V.ref a] ∧ SqT X.K H a (ns.map V.int) ∧ 0 < ns.length ∧ ∀ m, m ∈ ns → (∀ y, y ∈ ns → y ≤ m) → Q (.int m) H) := by
  intro pins s σ H vs us Q I r h
  obtain ⟨a, ns, rfl, hs, hne, q⟩ := h
  obtain ⟨its, rv, hl, _⟩ := I.tuple hs
  rw [Vals.ref1 r]
  exact max_rawT (I.ok.hd hc) (show s.heap.IsTuple a its.toArray from hl) rv.ints hne fun h' tk m t' hk h1 h2 => ⟨.int _, H, I.kept hk, ⟨_, rfl⟩, q m h1 h2⟩
theorem cr_minT (hc : X.calm = true) : CallR X (.builtin "min") (fun vs H Q => ∃ (a : Addr) (ns : List Int), vs = [V.ref a] ∧ SqT X.K H a (ns.map V.int) ∧ 0 < ns.length ∧ ∀ m, m ∈ ns → (∀ y, y ∈ ns → m ≤ y) → Q (.int m) H) := by
  intro pins s σ H vs us Q I r h
  obtain ⟨a, ns, rfl, hs, hne, q⟩ := h
  obtain ⟨its, rv, hl, _⟩ := I.tuple hs
  rw [Vals.ref1 r]
  exact min_rawT (I.ok.hd hc) (show s.heap.IsTuple a its.toArray from hl) rv.ints hne fun h' tk m t' hk h1 h2 => ⟨.int _, H, I.kept hk, ⟨_, rfl⟩, q m h1 h2⟩
theorem cr_setT (hc : X.calm = true) : CallR X (.type "set") (fun xs H Q => ∃ (p : Addr) (ns : List Int), xs = [.ref p] ∧ SqT X.K H p (ns.map V.int) ∧ ns.length ≤ 1000 ∧ ns.Nodup ∧ ∀ a, H a = none → Q (.ref a) (upd H a (SetN a ns.length))) := by
  intro pins s σ H xs us Q I r h
  obtain ⟨p, ns, rfl, hq, hl, hnd, q⟩ := h
  obtain ⟨u, rfl, ru⟩ := vals1 r
  cases (show u = Value.ref p from ru)
  obtain ⟨its, rv, pl, hz⟩ := I.tuple hq
  refine call_set_tupI ns (I.ok.hd hc) (show s.heap.IsTuple p its.toArray from pl) (by have := intsAre_of rv; simpa using this) (by unfold scanBound; omega) fun h' tk c hS hcn hk => ?_
  obtain ⟨o, es, ep, t, ho, hex, hd, hE, nd, hm, hb, hf, hn, _⟩ := hS
  have hcl : c = ns.length := by
    have hp : (es.toList.map keyOf).Perm ns := (List.perm_ext_iff_of_nodup nd hnd).mpr fun a => by
      rw [← hm a]
      simp
    have := hp.length_eq
    rw [List.length_map, Array.length_toList, hn] at this
    exact this
  have new : ObjOk X.prog X.w (upd H s.heap.objs.size (SetN s.heap.objs.size ns.length)) h' s.heap.objs.size (SetN s.heap.objs.size ns.length) :=
    ⟨⟨o, es, ep, t, ho, hex, hd, hf, by rw [hn, hcl]⟩, ⟨o, ho⟩, fun _ _ ⟨o, es, ep, t, r1, r2⟩ k => ⟨o, es, ep, t, k o r1, r2⟩⟩
  have I1 := I.laid (t' := tk) (fun b u e => hk b u e) (Nat.le_refl _) new
  exact ⟨.ref s.heap.objs.size, _, I1, rfl, q _ (I.hok.fresh (Nat.le_refl _))⟩
end
section
variable {X : Cx} {F0 : Hp} {Γ : Gm} {L : Lg} {k : D → Lg → Prop} {a e : Expr} {pos p p2 cpos : Pos}
theorem ek_lensetT (hc : X.calm = true) (hm : X.mg "len" = none) (hg : Gl X "len") (hm2 : X.mg "set" = none) (hg2 : Gl X "set") (h : EvK X F0 a Γ L fun x L1 => ∃ ns : List Int, x = .tup (dI ns) ∧ ns.length ≤ 1000 ∧ ns.Nodup ∧ k (.int (ns.length : Nat)) L1)
    (he : starEach [a] X.env = (false, eval a X.env) :: starEach [] X.env := by rfl) (hp : (backTo cpos (starEach [] X.env)).any (·.1) = false := by rfl) (he2 : starEach [.Call (.Name "set" p2) [a] [] cpos] X.env = (false, eval (.Call (.Name "set" p2) [a] [] cpos) X.env) :: starEach [] X.env := by rfl) (hp2 : (backTo pos (starEach [] X.env)).any (·.1) = false := by rfl) :
    EvK X F0 (.Call (.Name "len" p) [.Call (.Name "set" p2) [a] [] cpos] [] pos) Γ L k := fun F σ H Q E q =>
  wpE.of (pe_callB cr_lenS hg hm (by decide +kernel) (pa_cons (pe_callTy (cr_setT hc) hg2 hm2 (by decide +kernel) (pa_cons we pa_nil he) (by decide) (by decide) he hp) pa_nil he2) (by decide) (by decide) he2 hp2)
    (h F σ H _ E fun x L1 F1 v H1 ⟨ns, e1, hl, hnd, h1⟩ E1 s1 r1 => by
      subst e1
      cases r1 with
      | tup hx rx =>
        have e := il_reps rx
        subst e
        exact ⟨_, ns, rfl, seqT E1.led.sub hx, hl, hnd, fun a ha => ⟨a, ns.length, rfl, upd_same, by omega, q _ L1 _ _ _ h1 (E1.new ha) (s1.trans (same_new (E1.led.free ha))) .int⟩⟩)
theorem ek_minT {p : Pos} (hc : X.calm = true) (hm : X.mg "min" = none) (hg : Gl X "min") (h : EvK X F0 e Γ L fun x L1 => ∃ ns : List Int, x = .tup (dI ns) ∧ 0 < ns.length ∧ k (.int (minI ns)) L1)
    (he : starEach [e] X.env = (false, eval e X.env) :: starEach [] X.env := by rfl) (hpl : (backTo pos (starEach [] X.env)).any (·.1) = false := by rfl) : EvK X F0 (.Call (.Name "min" p) [e] [] pos) Γ L k := fun F σ H Q E q =>
  wpE.of (pe_callB (cr_minT hc) hg hm (by decide +kernel) (pa_cons we pa_nil he) (by decide) (by decide) he hpl) (h F σ H _ E fun x L1 F1 v H1 ⟨ns, e1, hl, h1⟩ E1 s1 r1 => by
    subst e1
    cases r1 with
    | tup hx rx =>
      have e := il_reps rx
      subst e
      exact ⟨_, ns, rfl, seqT E1.led.sub hx, hl, fun m hm hle => by rw [← minI_at hm hle]; exact q _ L1 F1 _ H1 h1 E1 s1 .int⟩)
theorem ek_maxT {p : Pos} (hc : X.calm = true) (hm : X.mg "max" = none) (hg : Gl X "max") (h : EvK X F0 e Γ L fun x L1 => ∃ ns : List Int, x = .tup (dI ns) ∧ 0 < ns.length ∧ k (.int (maxI ns)) L1)
    (he : starEach [e] X.env = (false, eval e X.env) :: starEach [] X.env := by rfl) (hpl : (backTo pos (starEach [] X.env)).any (·.1) = false := by rfl) : EvK X F0 (.Call (.Name "max" p) [e] [] pos) Γ L k := fun F σ H Q E q =>
  wpE.of (pe_callB (cr_maxT hc) hg hm (by decide +kernel) (pa_cons we pa_nil he) (by decide) (by decide) he hpl) (h F σ H _ E fun x L1 F1 v H1 ⟨ns, e1, hl, h1⟩ E1 s1 r1 => by
    subst e1
    cases r1 with
    | tup hx rx =>
      have e := il_reps rx
      subst e
      exact ⟨_, ns, rfl, seqT E1.led.sub hx, hl, fun m hm hle => by rw [← maxI_at hm hle]; exact q _ L1 F1 _ H1 h1 E1 s1 .int⟩)
end
end Vs

set_option Elab.async false
set_option linter.all false
set_option maxRecDepth 100000
set_option maxHeartbeats 4000000
namespace Vs
open PySem PySem.Spec PyProof.Rows L2
/-! ### xs.insert(i, x) -/
def insD (ds : List D) (n : Nat) (d : D) : List D := ds.take n ++ d :: ds.drop n
section
variable {X : Cx} {F0 : Hp} {Γ : Gm} {L : Lg} {k : D → Lg → Prop} {o e f : Expr} {apos cpos : Pos}
theorem Reps.insD {K : PySem.W.Frag} {F : Hp} {d : D} {v : V} (r : Rep K F d v) : ∀ {ds : List D} {vs : List V} (n : Nat), Reps K F ds vs → Reps K F (Vs.insD ds n d) (vs.take n ++ v :: vs.drop n)
  | _, _, 0, h => .cons r h
  | _, _, n + 1, .nil => .cons r .nil
  | _, _, n + 1, .cons h t => .cons h (Reps.insD r n t)
theorem ek_insert (h : EvK X F0 o Γ L fun x L1 => ∃ p ds1, x = .ref p ∧ AsL L1 x ds1 ∧ EvK X F0 e Γ L1 fun y L2 => EvK X F0 f Γ L2 fun z L3 => ∃ (ds : List D) (n j : Nat) (L4 : Lg), y = .int (n : Int) ∧ Get L3 j (p, C.lst ds) ∧ n ≤ ds.length ∧ Put L3 j (p, C.lst (insD ds n z)) L4 ∧ ds.length ≤ 1000000 ∧ k .non L4)
    (hbase : attributeBase o "insert" X.env (eval o X.env) = eval o X.env := by rfl)
    (hfew : ((backTo cpos (starEach [e, f] X.env)).all (fun x => !x.1) && (backToKw cpos (keywordEach [] X.env)).all (fun x => x.1.isSome)
      && decide (([e, f] : List Expr).length + ([] : List Keyword).length + (if ([] : List Keyword).isEmpty then 0 else 1) < 30)) = true := by rfl)
    (hline : (apos.endLine == cpos.line) = true := by rfl) (hs : starEach [e, f] X.env = (false, eval e X.env) :: starEach [f] X.env := by rfl) (hs2 : starEach [f] X.env = (false, eval f X.env) :: starEach [] X.env := by rfl) (hplain : (backTo cpos (starEach [f] X.env)).any (·.1) = false := by rfl) :
    EvK X F0 (.Call (.Attribute o "insert" apos) [e, f] [] cpos) Γ L k := fun F σ H Q E q =>
  wpE.of (pe_bm PySem.F.plainAttrs_list PySem.F.slot_list_insert PySem.F.type_list_insert mt_insert we (pa_cons we (pa_cons we pa_nil hs2) hs) hbase hfew hline hs hplain)
    (h F σ H _ E fun x L1 F1 v H1 ⟨p, ds1, e1, a1, h1⟩ E1 s1 r1 => by
      subst e1
      obtain ⟨p', xs1, ev, hx1, _⟩ := a1.read E1.led r1
      cases r1
      refine ⟨?_, ?_⟩
      · cases ev
        exact .inl ⟨rfl, xs1, hx1⟩
      · refine h1 F1 σ H1 _ E1 fun y L2 F2 u H2 h2 E2 s2 r2 => h2 F2 σ H2 _ E2 fun z L3 F3 w H3 ⟨ds, n, j, L4, e2, g, hn, pt, hz, h3⟩ E3 s3 r3 => ?_
        subst e2
        cases r2
        obtain ⟨xs, hx, rx⟩ := E3.led.lst g
        have hl := rx.length
        refine ⟨p, xs, (n : Int), w, rfl, rfl, hx, by rw [← hl, sizeLine_eq]; omega, by omega, by omega, ?_⟩
        have rr := Reps.insD r3 n rx
        have e5 : xs.take ((n : Int).toNat) ++ [w] ++ xs.drop ((n : Int).toNat) = xs.take n ++ w :: xs.drop n := by
          rw [Int.toNat_natCast, List.append_assoc]
          rfl
        rw [e5]
        exact q .non L4 F3 _ _ h3 (E3.to (Same.refl F3) (E3.led.put g pt ⟨_, upd_same, rr⟩)) (s1.trans (s2.trans s3)) .non)
end
end Vs

set_option Elab.async false
set_option linter.all false
set_option maxRecDepth 100000
set_option maxHeartbeats 4000000
namespace Vs
open PySem PySem.Spec PyProof.Rows L2
section
variable {X : Cx} {F0 : Hp} {Γ : Gm} {L : Lg} {k : D → Lg → Prop} {e : Expr}
/-- a value told in another form -/
theorem ek_as (h : EvK X F0 e Γ L fun d L1 => ∃ d', d = d' ∧ k d' L1) : EvK X F0 e Γ L k := fun F σ H Q E q =>
  h F σ H Q E fun d L1 F1 v H1 ⟨d', hd, hk⟩ E1 s1 rr => by
    subst hd
    exact q d L1 F1 v H1 hk E1 s1 rr
end
theorem cut_mid {xs : List D} {a b : Int} (ha : 0 ≤ a) (hab : a ≤ b) : cutD xs (some a) (some b) = (xs.drop a.toNat).take (b.toNat - a.toNat) := by
  obtain ⟨m, rfl⟩ : ∃ m : Nat, a = m := ⟨a.toNat, by omega⟩
  obtain ⟨n, rfl⟩ : ∃ n : Nat, b = n := ⟨b.toNat, by omega⟩
  unfold cutD
  rw [HT.sIx_nat, HT.sIx_nat, Int.toNat_natCast, Int.toNat_natCast]
  by_cases h : m ≤ xs.length
  · rw [Nat.min_eq_left h]
    by_cases h2 : n ≤ xs.length
    · rw [Nat.min_eq_left h2]
    · rw [Nat.min_eq_right (by omega), List.take_of_length_le (by rw [List.length_drop]; exact Nat.le_refl _), List.take_of_length_le (by rw [List.length_drop]; omega)]
  · rw [Nat.min_eq_right (show xs.length ≤ n by omega), Nat.min_eq_right (show xs.length ≤ m by omega), List.drop_of_length_le (Nat.le_refl _), List.drop_of_length_le (by omega)]
    simp
theorem cut_dI2 {xs : List Int} {a b : Int} (ha : 0 ≤ a) (hab : a ≤ b) : cutD (dI xs) (some a) (some b) = dI ((xs.drop a.toNat).take (b.toNat - a.toNat)) := by
  rw [cut_mid ha hab, ← List.map_drop, ← List.map_take]
theorem subP_new3 {a n b c : Addr × C} {L : Lg} : SubP (a :: n :: c :: L) (n :: a :: b :: c :: L) := ⟨a :: n :: b :: c :: L, ((List.Sublist.refl _).cons _ |>.cons₂ _ |>.cons₂ _), .swap ..⟩
theorem subP_new2 {a n b c : Addr × C} {L : Lg} : SubP (n :: b :: c :: L) (n :: a :: b :: c :: L) := ⟨_, ((List.Sublist.refl _).cons _ |>.cons₂ _), .refl _⟩
end Vs

set_option Elab.async false
set_option linter.all false
set_option maxRecDepth 100000
set_option maxHeartbeats 4000000
namespace Vs
open PySem PySem.Spec PyProof.Rows L2
/-! ### texts: join, index, one sign in a text, a text walked -/
section
variable {X : Cx} {F0 : Hp} {Γ : Gm} {L : Lg} {k : D → Lg → Prop} {kt : Bool → Lg → Prop} {kl : List D → Lg → Prop} {a b e o tg : Expr} {pos p2 apos cpos : Pos}
theorem ek_join (h : EvK X F0 o Γ L fun x L1 => ∃ z, x = .str z ∧ EvK X F0 e Γ L1 fun y L2 => ∃ ys : List Str, AsL L2 y (ys.map D.str) ∧ (ys.map (·.length)).sum + ys.length * z.length ≤ 16777216 ∧ k (.str (Txt.join z ys)) L2)
    (hs : starEach [e] X.env = [(false, eval e X.env)] := by rfl) (hbase : attributeBase o "join" X.env (eval o X.env) = eval o X.env := by rfl) (hline : (apos.endLine == pos.line) = true := by rfl) :
    EvK X F0 (.Call (.Attribute o "join" apos) [e] [] pos) Γ L k := fun F σ H Q E q =>
  wpE.of (pe_join we we hs hbase hline) (h F σ H _ E fun x L1 F1 v H1 ⟨z, e1, h1⟩ E1 s1 r1 => by
    subst e1
    cases r1
    refine ⟨⟨z, rfl⟩, h1 F1 σ H1 _ E1 fun y L2 F2 u H2 ⟨ys, a2, hz, h2⟩ E2 s2 r2 => ?_⟩
    obtain ⟨p, xs, rfl, hx, rx⟩ := a2.read E2.led r2
    have e3 := strs_reps rx
    subst e3
    exact ⟨z, p, ys, rfl, rfl, .inl hx, hz, q _ L2 F2 _ H2 h2 E2 (s1.trans s2) .str⟩)
theorem ek_sIndex (h : EvK X F0 o Γ L fun x L1 => ∃ z, x = .str z ∧ EvK X F0 e Γ L1 fun y L2 => ∃ w i rest, y = .str w ∧ Builtin.Str.occurrences z w 0 z.length 1 = i :: rest ∧ k (.int (i : Nat)) L2)
    (hs : starEach [e] X.env = [(false, eval e X.env)] := by rfl) (hbase : attributeBase o "index" X.env (eval o X.env) = eval o X.env := by rfl) (hline : (apos.endLine == pos.line) = true := by rfl) :
    EvK X F0 (.Call (.Attribute o "index" apos) [e] [] pos) Γ L k := fun F σ H Q E q =>
  wpE.of (pe_m1 PySem.F.slot_str_index PySem.F.type_str_index mt_sindex we we hs hbase hline) (h F σ H _ E fun x L1 F1 v H1 ⟨z, e1, h1⟩ E1 s1 r1 => by
    subst e1
    cases r1
    refine ⟨⟨z, rfl⟩, h1 F1 σ H1 _ E1 fun y L2 F2 u H2 ⟨w, i, rest, e2, hz, h2⟩ E2 s2 r2 => ?_⟩
    subst e2
    cases r2
    exact ⟨z, w, i, rest, rfl, rfl, hz, q _ L2 F2 _ H2 h2 E2 (s1.trans s2) .int⟩)
theorem et_inT (h : EvK X F0 a Γ L fun x L1 => EvK X F0 b Γ L1 fun y L2 => ∃ i j, x = .str i ∧ y = .str j ∧ kt (!(Builtin.Str.occurrences j i 0 j.length 1).isEmpty) L2) (hm : behindInMarks .In b = false := by rfl) : EtK X F0 (.Compare a [.In] [b] pos) Γ L kt := fun F σ H Q E q =>
  wpT.of (pt_cmpR op_in_str we we hm) (h F σ H _ E fun x L1 F1 v H1 h1 E1 s1 r1 => h1 F1 σ H1 _ E1 fun y L2 F2 u H2 ⟨i, j, e1, e2, h2⟩ E2 s2 r2 => by
    subst e1 e2
    cases r1
    cases r2
    exact ⟨i, j, rfl, rfl, _, rfl, q _ L2 F2 H2 h2 E2 (s1.trans s2)⟩)
theorem et_notinT (h : EvK X F0 a Γ L fun x L1 => EvK X F0 b Γ L1 fun y L2 => ∃ i j, x = .str i ∧ y = .str j ∧ kt (!(!(Builtin.Str.occurrences j i 0 j.length 1).isEmpty)) L2) (hm : behindInMarks .NotIn b = false := by rfl) : EtK X F0 (.Compare a [.NotIn] [b] pos) Γ L kt := fun F σ H Q E q =>
  wpT.of (pt_cmpR op_notin_str we we hm) (h F σ H _ E fun x L1 F1 v H1 h1 E1 s1 r1 => h1 F1 σ H1 _ E1 fun y L2 F2 u H2 ⟨i, j, e1, e2, h2⟩ E2 s2 r2 => by
    subst e1 e2
    cases r1
    cases r2
    exact ⟨i, j, rfl, rfl, _, rfl, q _ L2 F2 H2 h2 E2 (s1.trans s2)⟩)
theorem ek_inT (h : EvK X F0 a Γ L fun x L1 => EvK X F0 b Γ L1 fun y L2 => ∃ i j, x = .str i ∧ y = .str j ∧ k (.bl (!(Builtin.Str.occurrences j i 0 j.length 1).isEmpty)) L2) (hm : behindInMarks .In b = false := by rfl) : EvK X F0 (.Compare a [.In] [b] pos) Γ L k := fun F σ H Q E q =>
  wpE.of (pe_cmpR op_in_str we we hm) (h F σ H _ E fun x L1 F1 v H1 h1 E1 s1 r1 => h1 F1 σ H1 _ E1 fun y L2 F2 u H2 ⟨i, j, e1, e2, h2⟩ E2 s2 r2 => by
    subst e1 e2
    cases r1
    cases r2
    exact ⟨i, j, rfl, rfl, q _ L2 F2 _ H2 h2 E2 (s1.trans s2) .bl⟩)
/-- the signs of a text, one by one -/
def strD (x : Str) : List D := x.cps.toList.map fun c => D.str ⟨#[c]⟩
theorem ei_str (h : EvK X F0 a Γ L fun x L1 => ∃ z, x = .str z ∧ kl (strD z) L1) : EiK X F0 tg a Γ L kl := fun F σ H R E q =>
  wpI.of (pi_str we) (h F σ H _ E fun x L1 F1 v H1 ⟨z, e1, h1⟩ E1 s1 r1 => by
    subst e1
    cases r1
    have hl : (strD z).length = z.cps.size := by unfold strD; rw [List.length_map, Array.length_toList]
    refine ⟨z, rfl, q (strD z) L1 F1 H1 _ h1 E1 s1 ⟨?_, ?_, ?_⟩⟩
    · intro i H F' L' hi _ _
      show i < z.cps.size
      omega
    · rintro i H x H' F' L' _ l ⟨rfl, c, hc, rfl⟩ hi
      refine ⟨.str ⟨#[c]⟩, F', ?_, Same.refl F', l, .str⟩
      unfold strD
      rw [List.getElem?_map, Array.getElem?_toList, hc]
      rfl
    · intro i H F' L' hi _ _
      show z.cps.size ≤ i
      omega)
/-! ### d.pop(k) -/
theorem ek_dpop1 (h : EvK X F0 o Γ L fun x L1 => ∃ p kvs1 j1, x = .ref p ∧ Get L1 j1 (p, C.dic kvs1) ∧ EvK X F0 e Γ L1 fun y L2 => ∃ kvs key j d L4, y = kD key ∧ Get L2 j (p, C.dic kvs) ∧ atK key kvs = some d ∧ Put L2 j (p, C.dic (dropA key kvs)) L4 ∧ k d L4)
    (hb : attributeBase o "pop" X.env (eval o X.env) = eval o X.env := by rfl)
    (hfew : ((backTo cpos (starEach [e] X.env)).all (fun x => !x.1) && (backToKw cpos (keywordEach [] X.env)).all (fun x => x.1.isSome)
      && decide (([e] : List Expr).length + ([] : List Keyword).length + (if ([] : List Keyword).isEmpty then 0 else 1) < 30)) = true := by rfl)
    (hline : (apos.endLine == cpos.line) = true := by rfl) (ht : backTo cpos (starEach [e] X.env) = [(false, eval e X.env)] := by rfl) :
    EvK X F0 (.Call (.Attribute o "pop" apos) [e] [] cpos) Γ L k := fun F σ H Q E q =>
  wpE.of (pe_dpop1 we we ⟨hb, hfew, hline, ht⟩) (h F σ H _ E fun x L1 F1 v H1 ⟨p, kvs1, j1, e1, g1, h1⟩ E1 s1 r1 => by
    subst e1
    cases r1
    obtain ⟨_, ps1, a1, b1⟩ := E1.led.ent _ g1.mem
    refine ⟨p, rfl, .inl ⟨ps1, .inl a1⟩, h1 F1 σ H1 _ E1 fun y L2 F2 u H2 ⟨kvs, key, j, d, L4, e2, g, hd, pt, h3⟩ E2 s2 r2 => ?_⟩
    subst e2
    have e3 := kD_v r2
    subst e3
    obtain ⟨_, ps, a3, b3⟩ := E2.led.ent _ g.mem
    obtain ⟨v', e4, r4⟩ := b3.val.1 d hd
    exact ⟨ps, key, v', a3, rfl, e4, q d L4 F2 _ _ h3 (E2.to (Same.refl F2) (E2.led.put g pt ⟨_, upd_same, b3.drop⟩)) (s1.trans s2) r4⟩)
end
end Vs

set_option Elab.async false
set_option linter.all false
set_option maxRecDepth 100000
set_option maxHeartbeats 4000000
namespace Vs
open PySem PySem.Spec PyProof.Rows L2
/-! ### sorted(xs), whole numbers -/
section
variable {X : Cx} {F0 : Hp} {Γ : Gm} {L : Lg} {k : D → Lg → Prop} {e : Expr} {pos : Pos}
theorem ek_sortedI {p : Pos} (hm : X.mg "sorted" = none) (hg : Gl X "sorted") (h : EvK X F0 e Γ L fun x L1 => ∃ ns : List Int, AsL L1 x (dI ns) ∧ ∀ ns' : List Int, ns'.Perm ns → ns'.Pairwise (· ≤ ·) → k (.lst (dI ns')) L1)
    (he : starEach [e] X.env = (false, eval e X.env) :: starEach [] X.env := by rfl) (hpl : (backTo pos (starEach [] X.env)).any (·.1) = false := by rfl) : EvK X F0 (.Call (.Name "sorted" p) [e] [] pos) Γ L k := fun F σ H Q E q =>
  wpE.of (pe_callB cr_sortedI hg hm (by decide +kernel) (pa_cons we pa_nil he) (by decide) (by decide) he hpl) (h F σ H _ E fun x L1 F1 v H1 ⟨ns, a, h1⟩ E1 s1 r1 => by
    obtain ⟨p, xs, rfl, hx, rx⟩ := a.read E1.led r1
    have e := il_reps rx
    subst e
    exact ⟨p, ns, rfl, hx, fun ns' n pp pw hn => q _ L1 _ _ _ (h1 ns' pp pw) (E1.new hn) (s1.trans (same_new (E1.led.free hn))) (.lst (.inl (.inl upd_same)) reps_il)⟩)
end
end Vs

set_option Elab.async false
set_option linter.all false
set_option maxRecDepth 100000
set_option maxHeartbeats 4000000
namespace Vs
open PySem PySem.Spec PyProof.Rows L2
/-! ### text * int -/
theorem mulOk_sml {x : Str} {n : Int} (h : 0 ≤ n ∧ n ≤ 1000 ∧ x.length ≤ 1000) : MulOk x n := by
  obtain ⟨h0, h1, h2⟩ := h
  refine ⟨?_, fun h3 _ => ?_, fun h3 _ => ?_⟩
  · simp only [Bool.or_eq_false_iff, decide_eq_false_iff_not]
    omega
  · have h4 : (1000 : Int) ≤ (2 ^ 63 - 1) / n := (Int.le_ediv_iff_mul_le (by omega)).mpr (by omega)
    omega
  · unfold Builtin.Str.tooLong
    have h4 : x.length * n.toNat ≤ 1000 * 1000 := Nat.mul_le_mul h2 (by omega)
    exact decide_eq_false (Nat.not_lt.mpr (sz_ok (Nat.le_trans h4 (by decide))))
theorem op_repS {X : Cx} : OpR X (binaryOp .Mult) (fun x y H Q => ∃ z n, x = .str z ∧ y = .int n ∧ (0 ≤ n ∧ n ≤ 1000 ∧ z.length ≤ 1000) ∧ Q (.str (Txt.mul z n)) H) := by
  intro pins s σ H x y v u Q I rx ry h
  obtain ⟨z, n, rfl, rfl, hb, q⟩ := h
  obtain ⟨t, rfl⟩ := rx
  obtain ⟨t2, rfl⟩ := ry
  exact SB.mul (mulOk_sml hb) fun t' k => ⟨.str (Txt.mul z n), H, I.tok k, ⟨t', rfl⟩, q⟩
section
variable {X : Cx} {F0 : Hp} {Γ : Gm} {L : Lg} {k : D → Lg → Prop} {a b : Expr} {pos : Pos}
theorem ek_repS (h : EvK X F0 a Γ L fun x L1 => ∃ z, x = .str z ∧ EvK X F0 b Γ L1 fun y L2 => ∃ n, y = .int n ∧ (0 ≤ n ∧ n ≤ 1000 ∧ z.length ≤ 1000) ∧ k (.str (Txt.mul z n)) L2) : EvK X F0 (.BinOp a .Mult b pos) Γ L k := fun F σ H Q E q =>
  wpE.of (pe_op op_repS we we) (h F σ H _ E fun x L1 F1 v H1 ⟨i, e1, h1⟩ E1 s1 r1 => h1 F1 σ H1 _ E1 fun y L2 F2 u H2 ⟨j, e2, hc, h2⟩ E2 s2 r2 => by
    subst e1 e2
    cases r1
    cases r2
    exact ⟨i, j, rfl, rfl, hc, q _ L2 F2 _ H2 h2 E2 (s1.trans s2) .str⟩)
end
end Vs

set_option Elab.async false
set_option linter.all false
set_option maxRecDepth 100000
set_option maxHeartbeats 4000000
namespace Vs
open PySem PySem.Spec PyProof.Rows L2
/-! ### zip(xs, ys) of lists that stand still -/
def zipD (ds es : List D) : List D := List.zipWith (fun a b => D.tup [a, b]) ds es
theorem zipD_get {ds es : List D} {i : Nat} {d e : D} (h1 : ds[i]? = some d) (h2 : es[i]? = some e) : (zipD ds es)[i]? = some (.tup [d, e]) := by
  unfold zipD
  rw [List.getElem?_zipWith, h1, h2]
theorem zipD_len {ds es : List D} : (zipD ds es).length = min ds.length es.length := List.length_zipWith
theorem zipD_at {ds es : List D} {i : Nat} {x : D} (h : (zipD ds es)[i]? = some x) : ∃ d e, ds[i]? = some d ∧ es[i]? = some e ∧ x = .tup [d, e] := by
  have hl := (List.getElem?_eq_some_iff.mp h).1
  rw [zipD_len] at hl
  have h1 : ds[i]? = some ds[i] := List.getElem?_eq_getElem (by omega)
  have h2 : es[i]? = some es[i] := List.getElem?_eq_getElem (by omega)
  rw [zipD_get h1 h2] at h
  exact ⟨_, _, h1, h2, (Option.some.inj h).symm⟩
section
variable {X : Cx} {F0 : Hp} {Γ : Gm} {L : Lg} {a b : Expr} {pos p tpos : Pos} {elts : List Expr} {kk : Nat}
theorem ei_zip {kl : List D → Lg → Prop} (hm : X.mg "zip" = none) (hg : Gl X "zip") (h : EvK X F0 a Γ L fun x L1 => EvK X F0 b Γ L1 fun y L2 => ∃ ds es, x = .lst ds ∧ y = .lst es ∧ kl (zipD ds es) L2)
    (hs : starEach [a, b] X.env = (false, eval a X.env) :: starEach [b] X.env := by rfl) (hs2 : starEach [b] X.env = (false, eval b X.env) :: starEach [] X.env := by rfl) (hpl : (backTo pos (starEach [b] X.env)).any (·.1) = false := by rfl) :
    EiK X F0 (.Tuple elts kk tpos) (.Call (.Name "zip" p) [a, b] [] pos) Γ L kl := fun F σ H R E q =>
  wpI.of (RZ.pi_zipA hg hm (pa_cons we (pa_cons we pa_nil hs2) hs) hs hpl) (h F σ H _ E fun x L1 F1 v H1 h1 E1 s1 r1 => h1 F1 σ H1 _ E1 fun y L2 F2 u H2 ⟨ds, es, e1, e2, h2⟩ E2 s2 r2 => by
    subst e1 e2
    cases r1 with
    | lst hx rx =>
      cases r2 with
      | lst hy ry =>
        rename_i pa xs pb ys
        have hx2 := s2.seq hx
        have rx2 := rx.mono s2
        refine ⟨pa, pb, xs, ys, rfl, .inl ⟨E2.led.sub.seq hx2, E2.led.sub.seq hy, q _ L2 F2 H2 _ h2 E2 (s1.trans s2) ⟨?_, ?_, ?_⟩⟩⟩
        · intro i H F' L' hi s l
          rw [zipD_len] at hi
          have i1 : i < xs.length := by rw [← rx.length]; omega
          have i2 : i < ys.length := by rw [← ry.length]; omega
          exact ⟨xs, ys, xs[i], ys[i], l.sub.seq (s.seq hx2), l.sub.seq (s.seq hy), List.getElem?_eq_getElem i1, List.getElem?_eq_getElem i2⟩
        · rintro i H x H' F' L' s l ⟨T, x1, y1, rfl, hT, rfl, k1, k2⟩ hi
          obtain ⟨d, hd, rd⟩ := rx2.got (k1 xs (l.sub.seq (s.seq hx2)))
          obtain ⟨e, he, re⟩ := ry.got (k2 ys (l.sub.seq (s.seq hy)))
          have s3 : Same F' (upd F' T (.tup [x1, y1])) := same_new (l.free hT)
          exact ⟨.tup [d, e], _, zipD_get hd he, s3, l.new hT, .tup (.inl (.inl upd_same)) (.cons (rd.mono (s.trans s3)) (.cons (re.mono (s.trans s3)) .nil))⟩
        · intro i H F' L' hi s l
          rw [zipD_len] at hi
          refine ⟨xs, ys, l.sub.seq (s.seq hx2), l.sub.seq (s.seq hy), ?_⟩
          rw [← rx.length, ← ry.length]
          omega)
end
/-! ### a list of the ledger frozen, wherever it is told -/
mutual
inductive FrS (p : Addr) (ds : List D) : D → D → Prop
  | same {d : D} : FrS p ds d d
  | hit : FrS p ds (.ref p) (.lst ds)
  | lst {as bs : List D} : FrSs p ds as bs → FrS p ds (.lst as) (.lst bs)
  | tup {as bs : List D} : FrSs p ds as bs → FrS p ds (.tup as) (.tup bs)
inductive FrSs (p : Addr) (ds : List D) : List D → List D → Prop
  | nil : FrSs p ds [] []
  | cons {a b : D} {as bs : List D} : FrS p ds a b → FrSs p ds as bs → FrSs p ds (a :: as) (b :: bs)
end
mutual
theorem Rep.frs {K : PySem.W.Frag} {F : Hp} {p : Addr} {ds : List D} {xs : List V} (hp : F p = some (.lst xs)) (r : Reps K F ds xs) : ∀ {d d' : D} {v : V}, FrS p ds d d' → Rep K F d v → Rep K F d' v
  | _, _, _, .same, h => h
  | _, _, _, .hit, .ref => .lst (.inl (.inl hp)) r
  | _, _, _, .lst f, .lst h t => .lst h (Reps.frs hp r f t)
  | _, _, _, .tup f, .tup h t => .tup h (Reps.frs hp r f t)
theorem Reps.frs {K : PySem.W.Frag} {F : Hp} {p : Addr} {ds : List D} {xs : List V} (hp : F p = some (.lst xs)) (r : Reps K F ds xs) : ∀ {as bs : List D} {vs : List V}, FrSs p ds as bs → Reps K F as vs → Reps K F bs vs
  | _, _, _, .nil, .nil => .nil
  | _, _, _, .cons f g, .cons h t => .cons (Rep.frs hp r f h) (Reps.frs hp r g t)
end
inductive FrG (p : Addr) (ds : List D) : Gm → Gm → Prop
  | nil : FrG p ds [] []
  | no {Γ Γ' : Gm} : FrG p ds Γ Γ' → FrG p ds (none :: Γ) (none :: Γ')
  | so {d d' : D} {Γ Γ' : Gm} : FrS p ds d d' → FrG p ds Γ Γ' → FrG p ds (some d :: Γ) (some d' :: Γ')
theorem FrSs.refl {p : Addr} {ds : List D} : ∀ {as : List D}, FrSs p ds as as
  | [] => .nil
  | _ :: _ => .cons .same FrSs.refl
theorem FrSs.at {p : Addr} {ds : List D} {as bs : List D} : FrSs p ds (as ++ .ref p :: bs) (as ++ .lst ds :: bs) := by
  induction as with
  | nil => exact .cons .hit .refl
  | cons a as ih => exact .cons .same ih
theorem FrG.refl {p : Addr} {ds : List D} : ∀ {Γ : Gm}, FrG p ds Γ Γ
  | [] => .nil
  | none :: _ => .no FrG.refl
  | some _ :: _ => .so .same FrG.refl
theorem Slots.frs {K : PySem.W.Frag} {F : Hp} {p : Addr} {ds : List D} {xs : List V} (hp : F p = some (.lst xs)) (r : Reps K F ds xs) : ∀ {Γ Γ' : Gm} {σ : L2.St}, FrG p ds Γ Γ' → Slots K F Γ σ → Slots K F Γ' σ
  | _, _, _, .nil, .nil => .nil
  | _, _, _, .no g, .no t => .no (Slots.frs hp r g t)
  | _, _, _, .so f g, .so h t => .so (Rep.frs hp r f h) (Slots.frs hp r g t)
section
variable {X : Cx} {F0 : Hp} {Γ Γ' : Gm} {L L' : Lg} {e : Expr} {ss : List Stmt}
theorem bk_frzG {k : Ks} {p : Addr} {ds : List D} {j : Nat} (r : Rem L j (p, .lst ds) L') (f : FrG p ds Γ Γ') (h : BK X F0 ss Γ' L' k) : BK X F0 ss Γ L k := fun F σ H Dn E q => by
  obtain ⟨xs, l, s1, rr⟩ := E.led.frz r
  exact h _ σ H Dn ⟨E.ge.trans s1, l, Slots.frs upd_same (rr.mono s1) f (E.sl.mono s1)⟩ q
theorem ek_frzN {k : D → Lg → Prop} (h : EvK X F0 e Γ L fun d L1 => ∃ p ds j L2 d', Rem L1 j (p, C.lst ds) L2 ∧ FrS p ds d d' ∧ k d' L2) : EvK X F0 e Γ L k := fun F σ H Q E q =>
  h F σ H Q E fun d L1 F1 v H1 ⟨p, ds, j, L2, d', r, f, hk⟩ E1 s1 r1 => by
    obtain ⟨xs, l, s2, rr⟩ := E1.led.frz r
    exact q d' L2 _ v H1 hk ⟨E1.ge.trans s2, l, E1.sl.mono s2⟩ (s1.trans s2) (Rep.frs upd_same (rr.mono s2) f (r1.mono s2))
/-- the lists M, told one behind the other in a list, all frozen -/
theorem ek_frzA {k : D → Lg → Prop} (h : EvK X F0 e Γ L fun d L1 => ∃ (A : List D) (M : List (Addr × List D)) (L2 : Lg), d = .lst (A ++ M.map fun m => D.ref m.1) ∧ L1 = M.map (fun m => (m.1, C.lst m.2)) ++ L2 ∧ k (.lst (A ++ M.map fun m => D.lst m.2)) L2) : EvK X F0 e Γ L k := fun F σ H Q E q =>
  h F σ H Q E fun d L1 F1 v H1 ⟨A, M, L2, e1, e2, hk⟩ E1 s1 r1 => by
    subst e1 e2
    have key : ∀ (M : List (Addr × List D)) (A : List D) (F1 : Hp), k (.lst (A ++ M.map fun m => D.lst m.2)) L2 → At X.K F0 F1 Γ (M.map (fun m => (m.1, C.lst m.2)) ++ L2) σ H1 → Same F F1 → Rep X.K F1 (.lst (A ++ M.map fun m => D.ref m.1)) v → Q v H1 := fun M => by
      induction M with
      | nil => exact fun A F1 hk E1 s1 r1 => q _ _ _ v H1 hk E1 s1 r1
      | cons m M ih =>
        intro A F1 hk E1 s1 r1
        obtain ⟨xs, l, s2, rr⟩ := E1.led.frz (Rem.z (x := (m.1, C.lst m.2)) (xs := M.map (fun m => (m.1, C.lst m.2)) ++ L2))
        refine ih (A ++ [.lst m.2]) _ (by rw [List.append_assoc]; exact hk) ⟨E1.ge.trans s2, l, E1.sl.mono s2⟩ (s1.trans s2) ?_
        have := Rep.frs (d' := .lst (A ++ .lst m.2 :: M.map fun m => D.ref m.1)) upd_same (rr.mono s2) (.lst FrSs.at) (r1.mono s2)
        rw [List.append_assoc]
        exact this
    exact key M A F1 hk E1 s1 r1
end
end Vs

set_option Elab.async false
set_option linter.all false
set_option maxRecDepth 100000
set_option maxHeartbeats 4000000
namespace Vs
open PySem PySem.Spec PyProof.Rows L2
section
variable {X : Cx} {F0 : Hp} {Γ : Gm} {L : Lg} {k : D → Lg → Prop} {b : Expr} {pos p p2 p3 : Pos}
/-- list(range(n)), to be changed -/
theorem ek_listR1O (hc : X.calm = true) (hm : X.mg "list" = none) (hg : Gl X "list") (hm2 : X.mg "range" = none) (hg2 : Gl X "range") (h : EvK X F0 b Γ L fun y L2 => ∃ j, y = .int j ∧ RgOk 0 j ∧ ∀ p, k (.ref p) ((p, C.lst (rangeD 0 j.toNat)) :: L2))
    (na : starEach [.Call (.Name "range" p2) [b] [] p3] X.env = (false, eval (.Call (.Name "range" p2) [b] [] p3) X.env) :: starEach [] X.env := by rfl)
    (nb : starEach [b] X.env = (false, eval b X.env) :: starEach [] X.env := by rfl) :
    EvK X F0 (.Call (.Name "list" p) [.Call (.Name "range" p2) [b] [] p3] [] pos) Γ L k := fun F σ H Q E q =>
  wpE.of (pe_listRg hc hg hm (prg_1 hg2 hm2 we nb) na) (h F σ H _ E fun y L2 F2 u H2 ⟨j, e2, hr, h2⟩ E2 s2 r2 => by
    subst e2
    cases r2
    refine ⟨j, rfl, hr, fun n hn => ?_⟩
    have e : j.toNat = (j - 0).toNat := by rw [Int.sub_zero]
    have h3 := h2 n
    rw [e] at h3
    exact q _ _ F2 _ _ h3 ⟨E2.ge, E2.led.newL hn rgV_reps, E2.sl⟩ s2 .ref)
end
end Vs

set_option Elab.async false
set_option linter.all false
set_option maxRecDepth 100000
set_option maxHeartbeats 4000000
namespace Vs
open PySem PySem.Spec PyProof.Rows L2
/-! ### xs.remove(d), the items data of any depth -/
theorem q_remL (l : Addr) (zs : Array Value) (n : Nat) (od : Option Addr) (sl : Array (Option Value)) (x : Value) (e : Value → Bool) (j : Nat) (hj : j < zs.size) (hit : e zs[j] = true) (hz : zs.size ≤ sizeLine) (k : Nat) :
    ∀ i : Nat, j - i = k → i ≤ j → (∀ m (hm : m < zs.size), i ≤ m → m < j → e zs[m] = false) →
      Meets (Builtin.«list.remove.loop» ⟨[.ref l, x, rawInt i], []⟩) (fun A R s => (s.heap.get? l = some { cls := .type "list", dict := od, data := .seq zs n, slots := sl } ∧ ∀ y ∈ zs, SeqAt.EqAt A.in1 s y x (e y)) ∧ R (.ok (.ret Value.none)) { s with heap := s.heap.update l (Obj.mapSeq fun w => w.eraseIdxIfInBounds j) }) := by
  induction k with
  | zero =>
    intro i hk hij _ pg w A R s hs
    obtain ⟨hp, g, d, tk, os⟩ := s; obtain ⟨⟨g0, g1⟩, g2⟩ := hs
    obtain rfl : i = j := by omega
    wp_walk using wpAny_loadPart' g0
    rw [show zs[((i : Nat) : Int).toNat]? = some zs[i] by simp [hj]]
    refine wpAny_bind (g1 _ (Array.getElem_mem hj) pg w _ _ ?_)
    rw [hit]
    have g3 : (zs.eraseIdxIfInBounds i).size ≤ sizeLine + 1 := Nat.le_trans (MeetsSeq.size_erased zs _) (Nat.le_succ_of_le hz)
    wp_walk using (wpAny_updateSeq g0 rfl (hz := hz) (_hz' := g3)), wpAny_loadPart' g0
    simpa using g2
  | succ k ih =>
    intro i hk hij hno pg w A R s hs
    obtain ⟨hp, g, d, tk, os⟩ := s; obtain ⟨⟨g0, g1⟩, g2⟩ := hs
    have hi : i < zs.size := by omega
    wp_walk using wpAny_loadPart' g0
    rw [show zs[((i : Nat) : Int).toNat]? = some zs[i] by simp [hi]]
    refine wpAny_bind (g1 _ (Array.getElem_mem hi) pg w _ _ ?_)
    rw [hno i hi (Nat.le_refl _) (by omega)]
    wp_walk
    rw [show ((i : Int) + 1) = ((i + 1 : Nat) : Int) by push_cast; rfl]
    refine ⟨plainId_quiet MeetsSeq.plain_remove_loop _, codeAny_builtin MeetsSeq.entry_remove_loop ?_⟩
    rw [Around.under_plainId MeetsSeq.plain_remove_loop _]
    exact ih (i + 1) (by omega) (by omega) (fun m hm y1 y2 => hno m hm (by omega) y2) pg w A R _ ⟨⟨g0, g1⟩, g2⟩
theorem q_rem (l : Addr) (zs : Array Value) (n : Nat) (od : Option Addr) (sl : Array (Option Value)) (x : Value) (e : Value → Bool) (j : Nat) (hj : j < zs.size) (hit : e zs[j] = true) (hno : ∀ m (hm : m < zs.size), m < j → e zs[m] = false) (hz : zs.size ≤ sizeLine) :
    Meets (Builtin.«list.remove» ⟨[.ref l, x], []⟩) (fun A R s => (s.heap.get? l = some { cls := .type "list", dict := od, data := .seq zs n, slots := sl } ∧ ∀ y ∈ zs, SeqAt.EqAt A.in1 s y x (e y)) ∧ R (.ok (.ret Value.none)) { s with heap := s.heap.update l (Obj.mapSeq fun w => w.eraseIdxIfInBounds j) }) := by
  intro pg w A R s hs
  obtain ⟨hp, g, d, tk, os⟩ := s; obtain ⟨⟨g0, g1⟩, g2⟩ := hs
  wp_walk using wpAny_loadPart' g0
  refine ⟨plainId_quiet MeetsSeq.plain_remove_loop _, codeAny_builtin MeetsSeq.entry_remove_loop ?_⟩
  rw [Around.under_plainId MeetsSeq.plain_remove_loop _]
  exact q_remL l zs n od sl x e j hj hit hz _ 0 rfl (Nat.zero_le _) (fun m hm _ y2 => hno m hm y2) pg w A R _ ⟨⟨g0, g1⟩, g2⟩
def rRemD (K : PySem.W.Frag) : V → List V → Hp → VK → Prop := fun x us H Q => ∃ (a : Addr) (y : V) (xs : List V) (d : PyData) (ds : List PyData) (j : Nat) (z : PyData), x = V.ref a ∧ us = [y] ∧ H a = some (.lst xs) ∧ DpAll K H xs ds ∧ Dp K H y d ∧
  SeqAt.shaped (.list ds) = true ∧ SeqAt.shaped d = true ∧ ds[j]? = some z ∧ PyData.eqv z d = true ∧ (∀ (m : Nat) (z' : PyData), m < j → ds[m]? = some z' → PyData.eqv z' d = false) ∧ Q .non (upd H a (.lst (xs.eraseIdx j)))
theorem mt_remD {X : Cx} (hu : X.A.units + 65 < cLine) : MtM X "list.remove" (rRemD X.K) := by
  intro pins s σ H x us v ws Q I rx rv h
  obtain ⟨a, y, xs, d, ds, j, z, rfl, rfl, hH, hl, hy, sl, sd, hz, hzj, hno, q⟩ := h
  cases rx
  obtain ⟨u, rfl, ru⟩ := rv.one
  obtain ⟨bs, r1⟩ := Dp.reads I d y u hy ru
  have c1 : PyData.canLayAll0 ds = true := SeqAt.canLay_of_shaped sl
  have c2 : X.A.units + 1 + min (PyData.depthAll ds) d.depth < cLine := room_in_shaped sd hu
  obtain ⟨zz, its, n, r, hll, e0⟩ := I.lstM hH
  obtain ⟨as, h4⟩ := Dp.readsAll I ds _ its hl r
  have e1 : its.length = ds.length := SeqAt.ReadsAll.length ds its as h4
  have e2 : its.map (SeqAt.readOf s.heap) = ds := SeqAt.readsAll_map ds its as c1 h4
  have e3 := r.length
  obtain ⟨j1, _⟩ := List.getElem?_eq_some_iff.mp hz
  have j2 : j < its.length := by omega
  have j3 : j < its.toArray.size := by simpa using j2
  have at_ : ∀ (m : Nat) (hm : m < its.toArray.size) (z' : PyData), ds[m]? = some z' → SeqAt.readOf s.heap its.toArray[m] = z' := by
    intro m hm z' hz'
    have m1 : m < its.length := by simpa using hm
    rw [← e2, List.getElem?_map, List.getElem?_eq_getElem m1] at hz'
    simpa using (Option.some.inj hz' : SeqAt.readOf s.heap its[m] = z')
  have hsz : its.toArray.size ≤ sizeLine := by rw [List.size_toArray]; omega
  refine call_meets PySem.F.slot_list_remove ⟨_, e0, rfl⟩ PySem.F.entry_list_remove (PySem.F.args_list_remove_2 _ _)
    (q_rem a its.toArray n none #[] u (fun w => PyData.eqv (SeqAt.readOf s.heap w) d) j j3 ?_ ?_ hsz) ⟨⟨e0, SeqAt.items_eqAt (vs := its.toArray) (show ReadsAll s.heap its.toArray.toList ds as from h4) r1 c1 (SeqAt.canLay_of_shaped sd) c2⟩, ?_⟩
  · show PyData.eqv (SeqAt.readOf s.heap its.toArray[j]) d = true
    rw [at_ j j3 z hz]
    exact hzj
  · intro m hm hmj
    have m1 : m < ds.length := by omega
    have m2 : ds[m]? = some ds[m] := List.getElem?_eq_getElem m1
    show PyData.eqv (SeqAt.readOf s.heap its.toArray[m]) d = false
    rw [at_ m hm _ m2]
    exact hno m _ hmj m2
  · refine ⟨.non, _, I.lset (its' := its.eraseIdx j) hH e0 ?_ (r.eraseIdx j) ?_, rfl, q⟩
    · show its.toArray.eraseIdxIfInBounds j = (its.eraseIdx j).toArray
      rw [List.eraseIdxIfInBounds_toArray]
    · have := List.length_eraseIdx_le xs j
      omega
section
variable {X : Cx} {F0 : Hp} {Γ : Gm} {L : Lg} {k : D → Lg → Prop} {e o : Expr} {apos cpos : Pos}
/-- xs.remove(e): the first equal one goes -/
theorem ek_remD (hu : X.A.units + 65 < cLine) (h : EvK X F0 o Γ L fun x L1 => ∃ p ds1, x = .ref p ∧ AsL L1 x ds1 ∧ EvK X F0 e Γ L1 fun y L2 => ∃ ds t L3 n z ps d, Get L2 t (p, C.lst ds) ∧ Dpds L2 ds ps ∧ Dpd L2 y d ∧ SeqAt.shaped (.list ps) = true ∧ SeqAt.shaped d = true ∧
      ps[n]? = some z ∧ PyData.eqv z d = true ∧ (∀ (m : Nat) (z' : PyData), m < n → ps[m]? = some z' → PyData.eqv z' d = false) ∧ Put L2 t (p, C.lst (ds.eraseIdx n)) L3 ∧ k .non L3)
    (hbase : attributeBase o "remove" X.env (eval o X.env) = eval o X.env := by rfl)
    (hfew : ((backTo cpos (starEach [e] X.env)).all (fun x => !x.1) && (backToKw cpos (keywordEach [] X.env)).all (fun x => x.1.isSome)
      && decide (([e] : List Expr).length + ([] : List Keyword).length + (if ([] : List Keyword).isEmpty then 0 else 1) < 30)) = true := by rfl)
    (hline : (apos.endLine == cpos.line) = true := by rfl) (hs : starEach [e] X.env = (false, eval e X.env) :: starEach [] X.env := by rfl) (hplain : (backTo cpos (starEach [] X.env)).any (·.1) = false := by rfl) :
    EvK X F0 (.Call (.Attribute o "remove" apos) [e] [] cpos) Γ L k := fun F σ H Q E q =>
  wpE.of (pe_bm PySem.F.plainAttrs_list PySem.F.slot_list_remove PySem.F.type_list_remove (mt_remD hu) we (pa_cons we pa_nil hs) hbase hfew hline hs hplain)
    (h F σ H _ E fun x L1 F1 v H1 ⟨p, ds1, e1, a1, h1⟩ E1 s1 r1 => by
      subst e1
      obtain ⟨p', xs1, ev, hx1, _⟩ := a1.read E1.led r1
      cases r1
      refine ⟨?_, ?_⟩
      · cases ev
        exact .inl ⟨rfl, xs1, hx1⟩
      · refine h1 F1 σ H1 _ E1 fun y L2 F2 u H2 ⟨ds, t, L3, n, z, ps, d, g, p1, p2, p3, p4, p5, p6, p7, pt, h2⟩ E2 s2 r2 => ?_
        obtain ⟨xs, hx, rx⟩ := E2.led.lst g
        exact ⟨p, u, xs, d, ps, n, z, rfl, rfl, hx, p1.dp E2.led rx, p2.dp E2.led r2, p3, p4, p5, p6, p7, q _ L3 F2 _ _ h2 (E2.to (Same.refl F2) (E2.led.put g pt ⟨_, upd_same, Reps.erase n rx⟩)) (s1.trans s2) .non⟩)
end
section
variable {X : Cx} {F0 : Hp} {Γ : Gm} {L : Lg} {k : D → Lg → Prop} {pos : Pos} {N Nc : List Str} {sc : Scope} {elt tg iter : Expr} {ifs : List Expr} {bs : Scope}
/-- what a comprehension by promise, over a list of the ledger that the promise keeps, is asked -/
def LcON (X : Cx) (F0 : Hp) (M : List Str) (sc' bs : Scope) (own : List (Str × Nat)) (elt tg : Expr) (ifs : List Expr) (Γ : Gm) (k : D → Lg → Prop) (x : D) (L1 : Lg) : Prop :=
  ∃ ds, AsL L1 x ds ∧ ∃ Pv : Nat → List D → Lg → Prop, Pv 0 [] L1 ∧ (∀ n acc Lc, Pv n acc Lc → AsL Lc x ds) ∧ ds.length ≤ 1000000 ∧
    (∀ (F1 : UpH F0) (n : Nat) (d : D) (acc : List D) (Lc : Lg) (Dp : Addr), ds[n]? = some d → acc.length ≤ n → Pv n acc Lc →
      (∀ X', Cb X' M sc' bs → (∃ s H C cl fp, X' = X.blk s H bs (compEnvC bs cl C X.env) fp) → TbK X' F1.h tg (own.map (·.2)) d (wipeG Γ (own.map (·.2))) (Lc ++ [(Dp, .lst acc)]) fun Γ2 L2 =>
        (∀ X', Cb X' M sc' bs → (∃ s H C cl fp, X' = X.blk s H bs (compEnvC bs cl C X.env) fp) → EsK X' F1.h ifs Γ2 L2 fun t L3 =>
          (t = true → ∀ X', Cb X' M sc' bs → (∃ s H C cl fp, X' = X.blk s H bs (compEnvC bs cl C X.env) fp) → EvK X' F1.h elt Γ2 L3 fun y L4 => ∃ L5, L4 = L5 ++ [(Dp, .lst acc)] ∧ Pv (n + 1) (acc ++ [y]) L5) ∧
          (t = false → ∃ L5, L3 = L5 ++ [(Dp, .lst acc)] ∧ Pv (n + 1) acc L5)))) ∧ (∀ acc L' Dp, Pv ds.length acc L' → acc.length ≤ ds.length → k (.ref Dp) ((Dp, .lst acc) :: L'))
theorem rd_lcON (own : List (Str × Nat)) {M : List Str} {sc' : Scope} (hM : X.N = M) (nd : M.Nodup) (hc : X.calm = true) (h : EvK X F0 iter Γ L (LcON X F0 M sc' bs own elt tg ifs Γ k)) :
    RdK X F0 (tLc (wpI X tg iter) (gS X bs tg) (tS X bs ifs) (eS X bs elt) (own.map (·.2))) Γ L k := fun F σ H Q E q => by
  refine wpI.of (pi_list we) (h F σ H _ E fun x L1 F1 v H1 ⟨ds, as, Pv, h0, hpp, hds, hb, hk⟩ E1 s1 r1 => ?_)
  obtain ⟨p, xs0, rfl, hx0, _⟩ := as.read E1.led r1
  have rd : ∀ {F' : Hp} {L' : Lg} {H' : Hp} {i : Nat} {acc : List D} {z : Addr × C}, Same F1 F' → Pv i acc L' → Led X.K F' (L' ++ [z]) H' → ∃ xs, SqL X.K H' p xs ∧ Reps X.K F' ds xs := fun s hP l => by
    obtain ⟨p', ys, e, hy, ry⟩ := (hpp _ _ _ hP).app.read l (r1.mono s)
    cases e
    exact ⟨ys, hy, ry⟩
  refine ⟨p, rfl, ⟨xs0, hx0⟩, ?_⟩
  intro Dp hD
  refine ⟨fun i m H => i + m = ds.length ∧ ∃ F acc Lc, Same F1 F ∧ acc.length ≤ i ∧ Pv i acc Lc ∧ At X.K F0 F Γ (Lc ++ [(Dp, .lst acc)]) σ H, ⟨ds.length, by omega, F1, [], L1, Same.refl F1, Nat.le_refl _, h0, E1.to (Same.refl F1) (E1.led.last hD .nil)⟩, ?_⟩
  rintro i m H2 ⟨hm, F2, acc, Lc, s2, hacc, hP, E2⟩
  obtain ⟨ys, hy, ry⟩ := rd s2 hP E2.led
  by_cases hi : i < ds.length
  · have hi' : i < ys.length := by rw [← ry.length]; exact hi
    refine .inr ⟨⟨ys, ys[i], hy, List.getElem?_eq_getElem hi'⟩, fun H' => ∃ F acc Lc, Same F1 F ∧ acc.length ≤ i + 1 ∧ Pv (i + 1) acc Lc ∧ At X.K F0 F Γ (Lc ++ [(Dp, .lst acc)]) σ H', fun H' ⟨F3, a, b, c, d, e, f⟩ => ⟨m - 1, by omega, by omega, F3, a, b, c, d, e, f⟩, ?_⟩
    rintro x H' ⟨rfl, hxx⟩
    obtain ⟨d, hdi, r3⟩ := ry.got (hxx ys hy)
    intro s0 H0 C0 cl0 fp0
    refine hb ⟨F1, E1.ge⟩ i d acc Lc Dp hdi hacc hP _ (blk_okM hM nd hc) ⟨s0, H0, C0, cl0, fp0, rfl⟩ F2 (wipe σ (own.map (·.2))) _ x _ ⟨s2, E2.led, E2.sl.wipe _⟩ r3 ?_
    rintro Γ4 L4 F4 σ4 H4 h4 E4 s4 hw
    refine ⟨by rw [hw]; refine List.ext_getElem? fun z => ?_; by_cases hz : z ∈ own.map (·.2); (rw [wipe_in hz, wipe_in hz, wipe_length]); (rw [wipe_out hz]), ?_⟩
    intro s0 H0 C0 cl0 fp0
    refine h4 _ (blk_okM hM nd hc) ⟨s0, H0, C0, cl0, fp0, rfl⟩ F4 σ4 H4 _ E4 ?_
    rintro t L5 F5 H5 ⟨h5, h6⟩ E5 s5
    cases t with
    | false =>
      rw [if_neg Bool.false_ne_true]
      obtain ⟨L6, rfl, hP'⟩ := h6 rfl
      exact ⟨F5, acc, L6, E5.ge, by omega, hP', E2.to (s4.trans s5) E5.led⟩
    | true =>
      rw [if_pos rfl]
      intro s0 H0 C0 cl0 fp0
      refine h5 rfl _ (blk_okM hM nd hc) ⟨s0, H0, C0, cl0, fp0, rfl⟩ F5 σ4 H5 _ E5 ?_
      rintro y L6 F6 v6 H6 ⟨L7, rfl, hP'⟩ E6 s6 r6
      have g := get_last (x := (Dp, C.lst acc)) L7
      obtain ⟨xs, hx, rx⟩ := E6.led.lst g
      refine ⟨xs, hx, ?_, F6, acc ++ [y], L7, E6.ge, ?_, hP', ?_⟩
      · rw [← rx.length]
        exact Nat.lt_of_le_of_lt (Nat.le_trans hacc (by omega : i ≤ 1000000)) (by decide)
      · rw [List.length_append]
        exact Nat.add_le_add_right hacc 1
      · exact E2.to (s4.trans (s5.trans s6)) (E6.led.put g (put_last L7) ⟨_, upd_same, rx.append (.cons r6 .nil)⟩)
  · have e : i = ds.length := by omega
    subst e
    refine .inl ⟨⟨ys, hy, by rw [← ry.length]; exact Nat.le_refl _⟩, ?_⟩
    exact q _ _ _ _ _ (hk acc Lc Dp hP hacc) (E2.to (Same.refl F2) (E2.led.perm (List.perm_append_comm.trans (List.Perm.refl _)))) (s1.trans s2) .ref
theorem ek_lcON (own : List (Str × Nat)) (cf : Cn X N Nc sc) (hc : X.calm = true) (ok : blkC (N ++ Nc) sc bs own = true) (h : EvK X F0 iter Γ L (LcON X F0 (N ++ Nc) sc bs own elt tg ifs Γ k))
    (hs : ∀ x, foldedSetIterable iter X.env x = pure x := by intro _; rfl) : EvK X F0 (.ListComp elt [⟨tg, iter, ifs, 0⟩] bs pos) Γ L k :=
  (rd_lcON own cf.n cf.nd hc h).ev (pe_lc (own := own) hc (by rw [cf.n]; exact cf.nd) wi (by rw [cf.n, cf.scp]; exact blkOk_by ok) pgS ptS peS hs)
end
/-! ### xs.remove(f), the items lists of numbers -/
theorem erase_idx {α : Type} [BEq α] [LawfulBEq α] {f : α} : ∀ {M : List α}, f ∈ M → M[M.idxOf f]? = some f ∧ M.eraseIdx (M.idxOf f) = M.erase f ∧ ∀ (m : Nat) (z : α), m < M.idxOf f → M[m]? = some z → z ≠ f
  | [], h => absurd h (by simp)
  | a :: r, h => by
    by_cases e : a = f
    · subst e
      rw [List.idxOf_cons_self]
      exact ⟨rfl, by rw [List.erase_cons_head]; rfl, fun m z hm => absurd hm (Nat.not_lt_zero _)⟩
    · have h2 : f ∈ r := by
        rcases List.mem_cons.mp h with z | z
        · exact absurd z.symm e
        · exact z
      obtain ⟨h3, h4, h5⟩ := erase_idx h2
      have e2 : (a :: r).idxOf f = r.idxOf f + 1 := by rw [List.idxOf_cons, beq_false_of_ne e]; rfl
      rw [e2]
      refine ⟨h3, ?_, fun m z hm hz => ?_⟩
      · rw [List.erase_cons_tail (by rw [beq_iff_eq]; exact e), ← h4]
        rfl
      · cases m with
        | zero => cases hz; exact e
        | succ m => exact h5 m z (by omega) hz
theorem erase_mapG {α β : Type} {g : α → β} : ∀ {xs : List α} {n : Nat}, (xs.map g).eraseIdx n = (xs.eraseIdx n).map g
  | [], _ => rfl
  | _ :: _, 0 => rfl
  | x :: xs, n + 1 => by
    show g x :: (xs.map g).eraseIdx n = g x :: (xs.eraseIdx n).map g
    rw [erase_mapG]
theorem eqv_pI {xs ys : List Int} : PyData.eqv (pI xs) (pI ys) = decide (xs = ys) := eqv_dI
section
variable {X : Cx} {F0 : Hp} {Γ : Gm} {L : Lg} {k : D → Lg → Prop} {e o : Expr} {apos cpos : Pos}
theorem ek_remII (hu : X.A.units + 65 < cLine) (h : EvK X F0 o Γ L fun x L1 => ∃ p ds1, x = .ref p ∧ AsL L1 x ds1 ∧ EvK X F0 e Γ L1 fun y L2 => ∃ M f t L3, Get L2 t (p, C.lst (dII M)) ∧ AsL L2 y (dI f) ∧ f ∈ M ∧ Put L2 t (p, C.lst (dII (M.erase f))) L3 ∧ k .non L3)
    (hbase : attributeBase o "remove" X.env (eval o X.env) = eval o X.env := by rfl)
    (hfew : ((backTo cpos (starEach [e] X.env)).all (fun x => !x.1) && (backToKw cpos (keywordEach [] X.env)).all (fun x => x.1.isSome)
      && decide (([e] : List Expr).length + ([] : List Keyword).length + (if ([] : List Keyword).isEmpty then 0 else 1) < 30)) = true := by rfl)
    (hline : (apos.endLine == cpos.line) = true := by rfl) (hs : starEach [e] X.env = (false, eval e X.env) :: starEach [] X.env := by rfl) (hplain : (backTo cpos (starEach [] X.env)).any (·.1) = false := by rfl) :
    EvK X F0 (.Call (.Attribute o "remove" apos) [e] [] cpos) Γ L k :=
  ek_remD hu (evk_mono h fun x L1 ⟨p, ds1, e1, a1, h1⟩ => ⟨p, ds1, e1, a1, evk_mono h1 fun y L2 ⟨M, f, t, L3, g, af, hf, pt, h2⟩ => by
    obtain ⟨h3, h4, h5⟩ := erase_idx hf
    refine ⟨dII M, t, L3, M.idxOf f, pI f, M.map pI, pI f, g, dpds_dII, dpd_as af, shp_ok (k := 2) shp_dII (by decide), shaped_dI, by rw [List.getElem?_map, h3]; rfl, by rw [eqv_pI]; simp, fun m z' hm hz => ?_, ?_, h2⟩
    · rw [List.getElem?_map] at hz
      cases hz2 : M[m]? with
      | none => rw [hz2] at hz; cases hz
      | some z =>
        rw [hz2] at hz
        cases hz
        rw [eqv_pI]
        exact decide_eq_false (h5 m z hm hz2)
    · rw [erase_mapG, h4]
      exact pt⟩) hbase hfew hline hs hplain
end
section
variable {X : Cx} {F0 : Hp} {Γ : Gm} {L : Lg} {k : D → Lg → Prop} {pos : Pos} {sc : Scope} {elt tg iter : Expr} {ifs : List Expr} {bs bs0 : Scope} {M : List Str}
/-- a comprehension by promise within another -/
theorem ek_lcBO (own : List (Str × Nat)) (cb : Cb X M sc bs0) (ok : blkC M bs0 bs own = true)
    (h : EiK X F0 tg iter Γ L fun ds L1 => ∃ Pv : Nat → List D → Lg → Prop, Pv 0 [] L1 ∧ ds.length ≤ 1000000 ∧
      (∀ (F1 : UpH F0) (n : Nat) (d : D) (acc : List D) (Lc : Lg) (Dp : Addr), ds[n]? = some d → acc.length ≤ n → Pv n acc Lc →
        (∀ X', Cb X' M sc bs → (∃ s H C cl fp, X' = X.blk s H bs (compEnvC bs cl C X.env) fp) → TbK X' F1.h tg (own.map (·.2)) d (wipeG Γ (own.map (·.2))) (Lc ++ [(Dp, .lst acc)]) fun Γ2 L2 =>
          (∀ X', Cb X' M sc bs → (∃ s H C cl fp, X' = X.blk s H bs (compEnvC bs cl C X.env) fp) → EsK X' F1.h ifs Γ2 L2 fun t L3 =>
            (t = true → ∀ X', Cb X' M sc bs → (∃ s H C cl fp, X' = X.blk s H bs (compEnvC bs cl C X.env) fp) → EvK X' F1.h elt Γ2 L3 fun y L4 => ∃ L5, L4 = L5 ++ [(Dp, .lst acc)] ∧ Pv (n + 1) (acc ++ [y]) L5) ∧
            (t = false → ∃ L5, L3 = L5 ++ [(Dp, .lst acc)] ∧ Pv (n + 1) acc L5)))) ∧ (∀ acc L' Dp, Pv ds.length acc L' → acc.length ≤ ds.length → k (.ref Dp) ((Dp, .lst acc) :: L')))
    (hs : ∀ x, foldedSetIterable iter X.env x = pure x := by intro _; rfl) : EvK X F0 (.ListComp elt [⟨tg, iter, ifs, 0⟩] bs pos) Γ L k := by
  obtain ⟨env, he⟩ := cb.rel
  exact (rd_lcO own cb.n cb.nd cb.calm h).ev (pe_lc (own := own) cb.calm (by rw [cb.n]; exact cb.nd) wi (by rw [cb.n, he]; exact blk_rel (blkOk_by ok)) pgS ptS peS hs)
end
end Vs

set_option Elab.async false
set_option linter.all false
set_option maxRecDepth 100000
set_option maxHeartbeats 4000000
namespace Vs
open PySem PySem.Spec PyProof.Rows L2
/-! ### < of data that are alike -/
def rLtD (K : PySem.W.Frag) : R2 := fun x y H Q => ∃ d e, Dp K H x d ∧ Dp K H y e ∧ PySem.W.alike d e = true ∧ d ≠ .none ∧ d.depth ≤ 20 ∧ Q (.bl (PySem.W.dataLt d e)) H
theorem op_ltD {X : Cx} (hu : X.A.units + 64 < cLine) : OpR X (compareOp .Lt) (rLtD X.K) := by
  intro pins s σ H x y v u Q I rx ry h
  obtain ⟨d, e, hd, he, ha, hn, hdp, q⟩ := h
  obtain ⟨as, r1⟩ := Dp.reads I d x v hd rx
  obtain ⟨bs, r2⟩ := Dp.reads I e y u he ry
  have R := PySem.W.rcLt_alike d e X.A s v u as bs r1 r2 ha hn (by omega)
  have z : wpAny (model X.prog X.w) X.A (compareOp .Lt v u) (EP X pins σ Q) X.xe s := R X.prog X.w X.xe (EP X pins σ Q) ⟨.bl _, H, I, rfl, q⟩
  exact z
section
variable {X : Cx} {F0 : Hp} {Γ : Gm} {L : Lg} {k : D → Lg → Prop} {kt : Bool → Lg → Prop} {a b e : Expr} {pos : Pos}
theorem rd_ltD (h : EvK X F0 a Γ L fun x L1 => EvK X F0 b Γ L1 fun y L2 => ∃ d e, Dpd L2 x d ∧ Dpd L2 y e ∧ PySem.W.alike d e = true ∧ d ≠ .none ∧ d.depth ≤ 20 ∧ k (.bl (PySem.W.dataLt d e)) L2) : RdK X F0 (tOp (rLtD X.K) (wpE X a) (wpE X b)) Γ L k := fun F σ H Q E q =>
  h F σ H _ E fun x L1 F1 v H1 h1 E1 s1 r1 => h1 F1 σ H1 _ E1 fun y L2 F2 u H2 ⟨d, e, d1, d2, z1, z2, z3, h2⟩ E2 s2 r2 =>
    ⟨d, e, d1.dp E2.led (r1.mono s2), d2.dp E2.led r2, z1, z2, z3, q _ L2 F2 _ H2 h2 E2 (s1.trans s2) .bl⟩
theorem ek_ltD (hu : X.A.units + 64 < cLine) (h : EvK X F0 a Γ L fun x L1 => EvK X F0 b Γ L1 fun y L2 => ∃ d e, Dpd L2 x d ∧ Dpd L2 y e ∧ PySem.W.alike d e = true ∧ d ≠ .none ∧ d.depth ≤ 20 ∧ k (.bl (PySem.W.dataLt d e)) L2) (hm : behindInMarks .Lt b = false := by rfl) : EvK X F0 (.Compare a [.Lt] [b] pos) Γ L k := (rd_ltD h).ev (pe_cmpR (op_ltD hu) we we hm)
theorem et_ltD (hu : X.A.units + 64 < cLine) (h : EvK X F0 a Γ L fun x L1 => EvK X F0 b Γ L1 fun y L2 => ∃ d e, Dpd L2 x d ∧ Dpd L2 y e ∧ PySem.W.alike d e = true ∧ d ≠ .none ∧ d.depth ≤ 20 ∧ ∃ t, D.bl (PySem.W.dataLt d e) = .bl t ∧ kt t L2) (hm : behindInMarks .Lt b = false := by rfl) : EtK X F0 (.Compare a [.Lt] [b] pos) Γ L kt := (rd_ltD (k := fun d L2 => ∃ t, d = .bl t ∧ kt t L2) h).tst (pt_cmpR (op_ltD hu) we we hm)
end
/-! ### sorted(xs) of data that are alike -/
def rSortedD (K : PySem.W.Frag) : List V → Hp → VK → Prop := fun vs H Q => ∃ (a : Addr) (xs : List V) (ds : List PyData), vs = [V.ref a] ∧ SqL K H a xs ∧ DpAll K H xs ds ∧ PySem.W.AllAlike ds ∧ PySem.W.Sortable ds ∧ (∀ d ∈ ds, d.depth ≤ 20) ∧
  ∀ p, H p = none → Q (.ref p) (upd H p (.lst (((xs.zip ds).mergeSort (PySem.W.dataLe false (·.2))).map (·.1))))
theorem dpall_len {K : PySem.W.Frag} {H : Hp} : ∀ {xs : List V} {ds : List PyData}, DpAll K H xs ds → xs.length = ds.length
  | _, _, .nil => rfl
  | _, _, .cons _ t => by rw [List.length_cons, List.length_cons, dpall_len t]
theorem zip_snd {α β : Type} : ∀ {xs : List α} {ds : List β}, xs.length = ds.length → (xs.zip ds).map (·.2) = ds
  | [], [], _ => rfl
  | x :: xs, d :: ds, h => by
    show d :: (xs.zip ds).map (·.2) = d :: ds
    rw [zip_snd (Nat.succ.inj h)]
theorem zip_fst {α β : Type} : ∀ {xs : List α} {ds : List β}, xs.length = ds.length → (xs.zip ds).map (·.1) = xs
  | [], [], _ => rfl
  | x :: xs, d :: ds, h => by
    show x :: (xs.zip ds).map (·.1) = x :: xs
    rw [zip_fst (Nat.succ.inj h)]
theorem each_rel {K : PySem.W.Frag} {H : Hp} : ∀ {xs : List V} {ds : List PyData} {us : List Value}, DpAll K H xs ds → Vals xs us → PySem.W.EachIs (fun (v : Value) (b : V × PyData) => RelV b.1 v) us (xs.zip ds)
  | _, _, _, .nil, .nil => .nil
  | _, _, _, .cons _ t, .cons r r' => .cons r (each_rel t r')
theorem each_reads {X : Cx} {pins : List (Addr × Obj)} {σ : L2.St} {H : Hp} {s : Shared} (I : Inv X pins σ H s) : ∀ {xs : List V} {ds : List PyData} {us : List Value}, DpAll X.K H xs ds → Vals xs us → PySem.W.EachIs (fun (v : Value) (b : V × PyData) => ∃ as, Reads s.heap v b.2 as) us (xs.zip ds)
  | _, _, _, .nil, .nil => .nil
  | _, _, _, .cons d t, .cons r r' => .cons (Dp.reads I _ _ _ d r) (each_reads I t r')
theorem vals_each : ∀ {us : List Value} {bs : List (V × PyData)}, PySem.W.EachIs (fun (v : Value) (b : V × PyData) => RelV b.1 v) us bs → Vals (bs.map (·.1)) us
  | _, _, .nil => .nil
  | _, _, .cons r t => .cons r (vals_each t)
theorem cr_sortedD {X : Cx} (hu : X.A.units + 64 < cLine) : CallR X (.builtin "sorted") (rSortedD X.K) := by
  intro pins s σ H vs us Q I r h
  obtain ⟨a, xs, ds, rfl, hs, hx, hal, hso, hdp, q⟩ := h
  obtain ⟨its, rv, hl, hz⟩ := I.list hs
  obtain ⟨u, rfl, ru⟩ := vals1 r
  obtain rfl : u = Value.ref a := ru
  have hlen := dpall_len hx
  have hsn : (xs.zip ds).map (·.2) = ds := zip_snd hlen
  have hzl : (xs.zip ds).length = xs.length := by rw [List.length_zip, ← hlen, Nat.min_self]
  refine PySem.W.sorted_data (enc := fun b : V × PyData => b.2) hl.isList (each_rel hx rv) (each_reads I hx rv) (by rw [hsn]; exact hal) (by rw [hsn]; exact hso) (by rw [hzl]; exact hz) (fun b hb => ?_) fun out ho he => ?_
  · have h1 : b.2 ∈ ds := by rw [← hsn]; exact List.mem_map.mpr ⟨b, hb, rfl⟩
    have := hdp _ h1
    omega
  · obtain ⟨n, hn⟩ := sortedAll_at s.heap its (List.toArray out)
    have hsz : (((xs.zip ds).mergeSort (PySem.W.dataLe false (·.2))).map (·.1)).length ≤ sizeLine := by
      rw [List.length_map, List.length_mergeSort, hzl]
      exact hz
    refine ⟨.ref (s.heap.objs.size + 1), upd H (s.heap.objs.size + 1) (.lst (((xs.zip ds).mergeSort (PySem.W.dataLe false (·.2))).map (·.1))), I.laid (t' := s.toks) (fun b o e => sortedAll_old e) (Nat.le_succ _) ⟨hsz, out, n, vals_each he, hn⟩, rfl, q _ (I.hok.fresh (Nat.le_succ _))⟩
section
variable {X : Cx} {F0 : Hp} {Γ : Gm} {L : Lg} {k : D → Lg → Prop} {e : Expr} {pos : Pos}
theorem reps_of {K : PySem.W.Frag} {F : Hp} {α : Type} {f : α → D} {g : α → V} : ∀ {l : List α}, (∀ t ∈ l, Rep K F (f t) (g t)) → Reps K F (l.map f) (l.map g)
  | [], _ => .nil
  | t :: l, h => .cons (h t (List.mem_cons_self)) (reps_of fun t' ht' => h t' (List.mem_cons_of_mem _ ht'))
theorem reps_zip {K : PySem.W.Frag} {F : Hp} {α : Type} {f : α → D} : ∀ {l : List α} {vs : List V}, Reps K F (l.map f) vs → l.length = vs.length ∧ ∀ t ∈ l.zip vs, Rep K F (f t.1) t.2
  | [], _, .nil => ⟨rfl, fun t ht => nomatch ht⟩
  | x :: l, _, .cons r t => by
    obtain ⟨h1, h2⟩ := reps_zip (l := l) t
    refine ⟨congrArg Nat.succ h1, fun t ht => ?_⟩
    rcases List.mem_cons.mp ht with rfl | ht
    · exact r
    · exact h2 t ht
theorem dpds_of {L : Lg} {α : Type} {f : α → D} {enc : α → PyData} : ∀ {l : List α}, (∀ t ∈ l, Dpd L (f t) (enc t)) → Dpds L (l.map f) (l.map enc)
  | [], _ => .nil
  | t :: l, h => .cons (h t (List.mem_cons_self)) (dpds_of fun t' ht' => h t' (List.mem_cons_of_mem _ ht'))
/-- sorted(xs): f, the items as data of D; enc, as data that are compared -/
theorem ek_sortedX {p : Pos} (hu : X.A.units + 64 < cLine) (hm : X.mg "sorted" = none) (hg : Gl X "sorted") (h : EvK X F0 e Γ L fun x L1 => ∃ (α : Type) (bs : List α) (f : α → D) (enc : α → PyData), AsL L1 x (bs.map f) ∧ (∀ t ∈ bs, Dpd L1 (f t) (enc t)) ∧
      PySem.W.AllAlike (bs.map enc) ∧ PySem.W.Sortable (bs.map enc) ∧ (∀ t ∈ bs, (enc t).depth ≤ 20) ∧ k (.lst ((bs.mergeSort (PySem.W.dataLe false enc)).map f)) L1)
    (he : starEach [e] X.env = (false, eval e X.env) :: starEach [] X.env := by rfl) (hpl : (backTo pos (starEach [] X.env)).any (·.1) = false := by rfl) : EvK X F0 (.Call (.Name "sorted" p) [e] [] pos) Γ L k := fun F σ H Q E q =>
  wpE.of (pe_callB (cr_sortedD hu) hg hm (by decide +kernel) (pa_cons we pa_nil he) (by decide) (by decide) he hpl) (h F σ H _ E fun x L1 F1 v H1 ⟨α, bs, f, enc, a, hd, h2, h3, h4, h1⟩ E1 s1 r1 => by
    obtain ⟨p, xs, rfl, hx, rx⟩ := a.read E1.led r1
    obtain ⟨hlen, hz⟩ := reps_zip rx
    refine ⟨p, xs, bs.map enc, rfl, hx, Dpds.dp E1.led (dpds_of hd) rx, h2, h3, fun d hd' => ?_, fun n hn => ?_⟩
    · obtain ⟨t, ht, rfl⟩ := List.mem_map.mp hd'
      exact h4 t ht
    · have hT : xs.zip (bs.map enc) = (bs.zip xs).map fun t => (t.2, enc t.1) := by
        clear h1 h2 h3 h4 hd hz rx hx a r1
        induction bs generalizing xs with
        | nil => cases xs <;> rfl
        | cons b bs ih =>
          cases xs with
          | nil => rfl
          | cons v vs => exact congrArg ((v, enc b) :: ·) (ih vs (Nat.succ.inj hlen))
      have e1 : ((xs.zip (bs.map enc)).mergeSort (PySem.W.dataLe false (·.2))).map (·.1) = ((bs.zip xs).mergeSort (PySem.W.dataLe false fun t => enc t.1)).map (·.2) := by
        rw [hT, ← PySem.W.sort_maps (r := PySem.W.dataLe false fun t : α × V => enc t.1) (fun t : α × V => (t.2, enc t.1)) (fun a _ b _ => rfl), List.map_map]
        rfl
      have e2 : (bs.mergeSort (PySem.W.dataLe false enc)).map f = ((bs.zip xs).mergeSort (PySem.W.dataLe false fun t => enc t.1)).map (fun t => f t.1) := by
        have e3 : (bs.zip xs).map (·.1) = bs := zip_fst hlen
        have e4 := PySem.W.sort_maps (r := PySem.W.dataLe false fun t : α × V => enc t.1) (s := PySem.W.dataLe false enc) (fun t : α × V => t.1) (l := bs.zip xs) (fun a _ b _ => rfl)
        rw [e3] at e4
        rw [← e4, List.map_map]
        rfl
      rw [e1]
      have hr : Reps X.K F1 ((bs.mergeSort (PySem.W.dataLe false enc)).map f) (((bs.zip xs).mergeSort (PySem.W.dataLe false fun t => enc t.1)).map (·.2)) := by
        rw [e2]
        exact reps_of (f := fun t : α × V => f t.1) (g := fun t : α × V => t.2) fun t ht => hz t ((List.mergeSort_perm _ _).mem_iff.mp ht)
      exact q _ L1 _ _ _ h1 (E1.new hn) (s1.trans (same_new (E1.led.free hn))) (.lst (.inl (.inl upd_same)) (hr.mono (same_new (E1.led.free hn)))))
end
end Vs

set_option Elab.async false
set_option linter.all false
set_option maxRecDepth 100000
set_option maxHeartbeats 4000000
namespace Vs
open PySem PySem.Spec PyProof.Rows L2
/-! ### len(set(xs)), xs a list or a tuple of texts -/
/-- how many unlike ones are among the first i -/
def cardAt (zs : List Str) : Nat → Nat
  | 0 => 0
  | i + 1 => if decide (zs.getD i Str.empty ∈ zs.take i) = true then cardAt zs i else cardAt zs i + 1
def cardT (zs : List Str) : Nat := cardAt zs zs.length
theorem cardAt_le {zs : List Str} : ∀ i, cardAt zs i ≤ i
  | 0 => Nat.le_refl _
  | i + 1 => by
    have := cardAt_le (zs := zs) i
    unfold cardAt
    split <;> omega
theorem getD_mem_take {zs : List Str} {i j : Nat} (hj : j < i) (hi : i ≤ zs.length) : zs.getD j Str.empty ∈ zs.take i := by
  have h : (zs.take i)[j]? = zs[j]? := by rw [List.getElem?_take, if_pos hj]
  have e : zs[j]? = some (zs.getD j Str.empty) := by
    rw [List.getD_eq_getElem?_getD, List.getElem?_eq_getElem (by omega)]
    rfl
  exact List.mem_of_getElem? (h.trans e)
theorem cardAt_nodup {zs : List Str} (h : zs.Nodup) : ∀ i, i ≤ zs.length → cardAt zs i = i
  | 0, _ => rfl
  | i + 1, hi => by
    unfold cardAt
    rw [cardAt_nodup h i (by omega), if_neg]
    intro z
    obtain ⟨j, hj⟩ := List.mem_iff_getElem?.mp (of_decide_eq_true z)
    rw [List.getElem?_take] at hj
    split at hj
    · rename_i hji
      have e : zs[i]? = some (zs.getD i Str.empty) := by
        rw [List.getD_eq_getElem?_getD, List.getElem?_eq_getElem (by omega)]
        rfl
      obtain ⟨h1, h2⟩ := List.getElem?_eq_some_iff.mp hj
      obtain ⟨h3, h4⟩ := List.getElem?_eq_some_iff.mp e
      have := List.pairwise_iff_getElem.mp h j i h1 h3 hji
      exact this (h2.trans h4.symm)
    · cases hj
theorem cardT_nodup {zs : List Str} (h : zs.Nodup) : cardT zs = zs.length := cardAt_nodup h _ (Nat.le_refl _)
theorem cardAt_dup {zs : List Str} : ∀ i, i ≤ zs.length → cardAt zs i = i → (zs.take i).Nodup
  | 0, _, _ => by rw [List.take_zero]; exact List.nodup_nil
  | i + 1, hi, h => by
    have h1 := cardAt_le (zs := zs) i
    unfold cardAt at h
    split at h
    · omega
    · rename_i z
      have h2 := cardAt_dup (zs := zs) i (by omega) (by omega)
      have e : zs[i]? = some (zs.getD i Str.empty) := by
        rw [List.getD_eq_getElem?_getD, List.getElem?_eq_getElem (by omega)]
        rfl
      rw [List.take_add_one, e]
      refine List.nodup_append.mpr ⟨h2, by simp, fun a ha b hb hab => ?_⟩
      have hb : b = zs.getD i Str.empty := by simpa using hb
      rw [hab, hb] at ha
      exact z (decide_eq_true ha)
theorem cardT_iff {zs : List Str} : cardT zs < zs.length ↔ ¬ zs.Nodup := by
  have h1 := cardAt_le (zs := zs) zs.length
  constructor
  · intro h z
    rw [cardT_nodup z] at h
    omega
  · intro h
    have h2 := cardAt_dup (zs := zs) zs.length (Nat.le_refl _)
    rw [List.take_length] at h2
    have h3 : cardAt zs zs.length ≠ zs.length := fun z => h (h2 z)
    show cardAt zs zs.length < zs.length
    omega
section
variable {pr : Program} {wd : World} {B : Around} {Ex : Value → Shared → Prop} {t0 : Shared}
theorem set_texts_go {it : Addr} {fps wrs : List Addr} {Gn : Array GenState → Array GenState → Prop} {m : Nat} {Pi : Nat → Value → Prop} {Sx : Nat → Shared → Prop} {Rz : Result → Shared → Prop}
    (wk : WalksS pr wd B.in1 it fps wrs Gn m Pi Sx) (sa : Addr) (hfp : sa ∉ fps) (zs : List Str) (hm : m = zs.length) (hbd : zs.length + 1 < scanBound) (hvals : ∀ i v, Pi i v → ∃ z tk, zs[i]? = some z ∧ v = .str z tk) :
    ∀ (j i : Nat) (t : Shared), m - i = j → i ≤ m → Sx i t → t.heap.SetOf (PySem.strKind pr wd) sa (fun y => decide (y ∈ zs.take i)) (cardAt zs i) →
      (∀ t', Moved (sa :: wrs) Gn t t' → t'.heap.SetOf (PySem.strKind pr wd) sa (fun y => decide (y ∈ zs)) (cardT zs) → Rz (.ok (.ret .none)) t') →
      codeAny (model pr wd) B (.builtin "set.update.loop" ⟨[.ref sa, .ref it], []⟩) Rz t := by
  have hwr : sa ∉ wrs := fun z => hfp (wk.sub _ z)
  have hin : ∀ y ∈ wrs, y ∈ sa :: wrs := fun y hy => List.mem_cons_of_mem _ hy
  have keep : ∀ {T : Str → Bool} {c : Nat} {t t' : Shared}, Moved wrs Gn t t' → t.heap.SetOf (PySem.strKind pr wd) sa T c → t'.heap.SetOf (PySem.strKind pr wd) sa T c := fun mv h => by
    obtain ⟨ob, e1, e2, e3, hob, r⟩ := h
    exact ⟨ob, e1, e2, e3, mv.heap sa _ hwr hob, r⟩
  intro j
  induction j with
  | zero =>
    intro i t hj hi hst hset hfin
    obtain rfl : i = m := by omega
    refine codeAny_builtin PyProof.Rows.F.entry_set_update_loop (by
      rw [Around.under_plainId PyProof.Rows.F.plain_set_update_loop _]
      show wpAny _ B.in1 (pyNext (.ref it) >>= _) _ _ t
      refine wpAny_bind (wk.done t _ _ hst fun t' mv => ?_)
      have h2 := keep mv hset
      rw [show zs.take i = zs from List.take_of_length_le (by omega), hm] at h2
      show wpAny _ B.in1 (ret Value.none) _ _ t'
      exact wpAny_pure (hfin t' (mv.mono hin) h2))
  | succ j ih =>
    intro i t hj hi hst hset hfin
    have him : i < m := by omega
    refine codeAny_builtin PyProof.Rows.F.entry_set_update_loop (by
      rw [Around.under_plainId PyProof.Rows.F.plain_set_update_loop _]
      show wpAny _ B.in1 (pyNext (.ref it) >>= _) _ _ t
      refine wpAny_bind (wk.item i t _ _ him hst fun v t1 hv hst1 mv => ?_)
      obtain ⟨z, tk, hz, rfl⟩ := hvals i v hv
      have hzd : zs.getD i Str.empty = z := by rw [List.getD_eq_getElem?_getD, hz]; rfl
      have hset1 := keep mv hset
      show wpAny _ B.in1 (holding [Value.str z tk] (setAdd sa (.str z tk)) >>= _) _ _ t1
      refine wpAny_bind (wpAny_holding (by
        unfold setAdd
        refine wpAny_holding (wpAny_bind ((PySem.strKind pr wd).pyHash (k := z) (strKind_is _ _ _ _) ?_))
        refine wpAny_setAddHashed_of (knd := PySem.strKind pr wd) (s := { t1 with toks := t1.toks + 1 }) (strKind_is _ _ _ _) rfl hset1 (Nat.lt_of_le_of_lt (Nat.succ_le_succ (Nat.le_trans (cardAt_le i) (by omega))) hbd) fun h2 hsb hs2 => ?_
        have hs3 : h2.SetOf (PySem.strKind pr wd) sa (fun y => decide (y ∈ zs.take (i + 1))) (cardAt zs (i + 1)) := SetOf_congr hs2 (fun y => by
          rw [List.take_add_one, hz]
          simp [List.mem_append]) (by rw [← hzd]; rfl)
        exact wpAny_pure ⟨plainId_quiet PyProof.Rows.F.plain_set_update_loop _, ih (i + 1) { t1 with heap := h2, toks := t1.toks + 1 } (by omega) him
          (wk.frame _ t1 _ _ hst1 (Nat.le_succ _) fun y hy o e => by rw [hsb.2 y (fun q : y = sa => hfp (by rw [← q]; exact hy))]; exact e) hs3 fun t2 mv2 hs4 =>
          hfin t2 (Moved.trans wk.gtrans ((mv.mono hin).then_heap (Nat.le_succ _) fun y o hy e => by rw [hsb.2 y (fun q : y = sa => hy (by rw [q]; exact List.mem_cons_self))]; exact e) mv2) hs4⟩)))
/-- T(as), the check of __init__ told by itself -/
theorem call_type_chk {T newId initId : String} {as : List Value} {Qo Qi : Value → Shared → Prop} (tc : TypeCalled T newId initId) (h1 : checkTypeCall T ⟨as, []⟩ = pure ())
    (h3 : codeAny (model pr wd) B.in1 (.call (.builtin newId) ⟨.type T :: as, []⟩) (wants Qi Ex) t0)
    (h4 : ∀ ob t1, Qi ob t1 → t1.TypeIs ob T ∧ codeAny (model pr wd) B.in1 (.call (.builtin initId) ⟨ob :: as, []⟩) (wants (fun r t2 => r = .none ∧ Qo ob t2) Ex) t1) : wpAny (model pr wd) B (call (.type T) as) Qo Ex t0 := by
  obtain ⟨cc, tt, hm⟩ := tc.mro
  have ha := tc.made; have hb := tc.sub; have hc := tc.notType; have hd := tc.canCreate
  refine wpAny_call (codeAny_of_tree (show wpAny _ _ (callAny (.type T) _) _ _ _ from ?_))
  refine wpAny_pure ⟨Code.quiet_builtin _ (by decide +kernel), codeAny_builtin PySem.F.entry_type_call (by
    rw [Around.under_plain (weight_type_call_type T as []) rfl]
    repeat (any_goals (first | assumption | wp_step))
    refine codeAny_mono h3 fun rz t1 hz => ?_
    match rz, hz with
    | .error _, hz => exact hz
    | .ok (.ret ob), hz =>
      obtain ⟨hT, hI⟩ := h4 _ _ hz
      have he := tc.init.lookup; have hf := tc.init.bind ob
      repeat (any_goals (first | assumption | wp_step))
      refine codeAny_mono hI fun r2 t2 hz2 => ?_
      match r2, hz2 with
      | .error _, hz2 => exact hz2
      | .ok (.ret rv), hz2 =>
        obtain ⟨rfl, hq⟩ := hz2
        repeat (any_goals (first | assumption | wp_step)))⟩
theorem strs_of {zs : List Str} {us : List Value} (r : Vals (zs.map V.str) us) {i : Nat} {v : Value} (hv : us.toArray[i]? = some v) : ∃ z tk, zs[i]? = some z ∧ v = .str z tk := by
  have hv : us[i]? = some v := by simpa using hv
  have hlen : zs.length = us.length := by have := r.length; rwa [List.length_map] at this
  have hi : i < us.length := (List.getElem?_eq_some_iff.mp hv).1
  obtain ⟨tk, e⟩ := SS.strs_at (L2.strsAre_of r) i v hv
  refine ⟨zs.getD i Str.empty, tk, ?_, e⟩
  rw [List.getD_eq_getElem?_getD, List.getElem?_eq_getElem (by omega)]
  rfl
def setNew (led : Bool) : Obj := { cls := .type "set", dict := none, data := .set #[] 0 (.fresh 0 0 led) }
def iterNew (l : Addr) : Obj := { cls := .type "list_iterator", data := .fields #[.ref l, .int 0 0] }
theorem call_set_texts {l : Addr} {us : List Value} {zs : List Str} {Qo : Value → Shared → Prop} (hh : B.handled = none) (hl : t0.heap.IsList l us.toArray) (hv : Vals (zs.map V.str) us) (hbd : zs.length + 1 < scanBound)
    (h : ∀ (g : Heap) (tk : Nat), g.SetOf (PySem.strKind pr wd) t0.heap.objs.size (fun y => decide (y ∈ zs)) (cardT zs) → (∀ b o, b < t0.heap.objs.size → t0.heap.get? b = some o → g.get? b = some o) → Qo (.ref t0.heap.objs.size) { t0 with heap := g, toks := tk }) :
    wpAny (model pr wd) B (call (.type "set") [.ref l]) Qo Ex t0 := by
  refine call_type_chk (Qi := fun ob t1 => ∃ led : Bool, ob = .ref t0.heap.objs.size ∧ t1 = { t0 with heap := t0.heap.push (setNew led) }) PySem.F.called_set (PySem.F.typeCall_set_1 _) (code_set_new_1 _ fun led => ⟨led, rfl, rfl⟩) fun ob t1 ⟨led, e1, e2⟩ => ?_
  subst e1 e2
  have hS : (t0.heap.push (setNew led)).get? t0.heap.objs.size = some (setNew led) := Heap.get?_push_size _ rfl
  have hT : Shared.TypeIs { t0 with heap := t0.heap.push (setNew led) } (.ref t0.heap.objs.size) "set" := ⟨_, hS, rfl⟩
  refine ⟨hT, codeAny_call_builtin PySem.F.called_set.init.plain PySem.F.entry_set_init (check_set_init_1 hT ?_)⟩
  obtain ⟨⟨oc, od, odt, osl⟩, hol, hcl, nl, hdl⟩ := hl
  simp only at hcl hdl
  subst hcl hdl
  have hol2 : (t0.heap.push (setNew led)).get? l = some { cls := .type "list", dict := od, data := .seq us.toArray nl, slots := osl } := Heap.get?_push_of_some _ hol
  have k1 := PySem.F.sub_list_set
  have k2 := PySem.F.sub_list_frozenset
  have k3 : (Value.type "list" == Value.type "dict") = false := by decide
  have hl2 : (t0.heap.push (setNew led)).IsList l us.toArray := ⟨_, hol2, rfl, nl, rfl⟩
  unfold Builtin.«set.__init__» noKeywords Builtin.Frozenset.updateFrom
  generalize hit : pyIter = itf
  wp_walk
  subst hit
  refine wpAny_pyIter_list hl2 (wpAny_bind (wpAny_runValue ?_))
  have hlS : l < t0.heap.objs.size := Heap.lt_size hol
  have nz : (t0.heap.push (setNew led)).objs.size = t0.heap.objs.size + 1 := Heap.size_push ..
  have nI : l ≠ (t0.heap.push (setNew led)).objs.size := by rw [nz]; exact Nat.ne_of_lt (Nat.lt_succ_of_lt hlS)
  have nF : t0.heap.objs.size ∉ [(t0.heap.push (setNew led)).objs.size, l] := fun hq => (List.mem_cons.mp hq).elim (fun e => absurd (e.trans nz) (Nat.ne_of_lt (Nat.lt_succ_self _))) fun hq => absurd (List.mem_singleton.mp hq) (Nat.ne_of_gt hlS)
  have hz : us.toArray.size = zs.length := by have := hv.length; rw [List.length_map] at this; rw [List.size_toArray]; exact this.symm
  refine set_texts_go ((Walks.list (show B.in1.in1.in1.handled = none by simp [hh]) _ l nI us.toArray).toS) _ nF zs hz hbd (fun i v hv2 => strs_of hv hv2) (us.toArray.size - 0) 0 _ rfl (Nat.zero_le _) ⟨⟨_, Heap.get?_push_size _ rfl, rfl, rfl⟩, hl2.push _⟩ ?_ fun t' mv hset => ?_
  · exact SetOf_congr ((setObjOf_fresh (knd := PySem.strKind pr wd) led).setOf (Heap.get?_push_of_some _ hS) (by unfold scanBound; omega)) (fun _ => by simp) rfl
  · refine wpAny_pure (wpAny_pure ⟨rfl, ?_⟩)
    have hk : ∀ b o, b < t0.heap.objs.size → t0.heap.get? b = some o → t'.heap.get? b = some o := fun b o hb e =>
      mv.heap b o (fun hq => (List.mem_cons.mp hq).elim (fun e => absurd e (Nat.ne_of_lt hb)) fun hq => absurd ((List.mem_singleton.mp hq).trans nz) (Nat.ne_of_lt (Nat.lt_succ_of_lt hb))) (Heap.get?_push_of_some _ (Heap.get?_push_of_some _ e))
    have e1 := h t'.heap t'.toks hset hk
    have g1 : t'.gens = t0.gens := mv.gens
    have g2 : t'.drawn = t0.drawn := mv.drawn
    have g3 : t'.os = t0.os := mv.os
    rw [← g1, ← g2, ← g3] at e1
    exact e1
theorem call_set_textsT {l : Addr} {us : List Value} {zs : List Str} {Qo : Value → Shared → Prop} (hh : B.handled = none) (hl : t0.heap.IsTuple l us.toArray) (hv : Vals (zs.map V.str) us) (hbd : zs.length + 1 < scanBound)
    (h : ∀ (g : Heap) (tk : Nat), g.SetOf (PySem.strKind pr wd) t0.heap.objs.size (fun y => decide (y ∈ zs)) (cardT zs) → (∀ b o, b < t0.heap.objs.size → t0.heap.get? b = some o → g.get? b = some o) → Qo (.ref t0.heap.objs.size) { t0 with heap := g, toks := tk }) :
    wpAny (model pr wd) B (call (.type "set") [.ref l]) Qo Ex t0 := by
  refine call_type_chk (Qi := fun ob t1 => ∃ led : Bool, ob = .ref t0.heap.objs.size ∧ t1 = { t0 with heap := t0.heap.push (setNew led) }) PySem.F.called_set (PySem.F.typeCall_set_1 _) (code_set_new_1 _ fun led => ⟨led, rfl, rfl⟩) fun ob t1 ⟨led, e1, e2⟩ => ?_
  subst e1 e2
  have hS : (t0.heap.push (setNew led)).get? t0.heap.objs.size = some (setNew led) := Heap.get?_push_size _ rfl
  have hT : Shared.TypeIs { t0 with heap := t0.heap.push (setNew led) } (.ref t0.heap.objs.size) "set" := ⟨_, hS, rfl⟩
  refine ⟨hT, codeAny_call_builtin PySem.F.called_set.init.plain PySem.F.entry_set_init (check_set_init_1 hT ?_)⟩
  obtain ⟨⟨oc, od, odt, osl⟩, hol, hcl, nl, hdl⟩ := hl
  simp only at hcl hdl
  subst hcl hdl
  have hol2 : (t0.heap.push (setNew led)).get? l = some { cls := .type "tuple", dict := od, data := .seq us.toArray nl, slots := osl } := Heap.get?_push_of_some _ hol
  have k1 := PySem.F.sub_tuple_set
  have k2 := PySem.F.sub_tuple_frozenset
  have k3 : (Value.type "tuple" == Value.type "dict") = false := by decide
  have hl2 : (t0.heap.push (setNew led)).IsTuple l us.toArray := ⟨_, hol2, rfl, nl, rfl⟩
  unfold Builtin.«set.__init__» noKeywords Builtin.Frozenset.updateFrom
  generalize hit : pyIter = itf
  wp_walk
  subst hit
  refine wpAny_pyIter_tuple hl2 (wpAny_bind (wpAny_runValue ?_))
  have hlS : l < t0.heap.objs.size := Heap.lt_size hol
  have nz : (t0.heap.push (setNew led)).objs.size = t0.heap.objs.size + 1 := Heap.size_push ..
  have nI : l ≠ (t0.heap.push (setNew led)).objs.size := by rw [nz]; exact Nat.ne_of_lt (Nat.lt_succ_of_lt hlS)
  have nF : t0.heap.objs.size ∉ [(t0.heap.push (setNew led)).objs.size, l] := fun hq => (List.mem_cons.mp hq).elim (fun e => absurd (e.trans nz) (Nat.ne_of_lt (Nat.lt_succ_self _))) fun hq => absurd (List.mem_singleton.mp hq) (Nat.ne_of_gt hlS)
  have hz : us.toArray.size = zs.length := by have := hv.length; rw [List.length_map] at this; rw [List.size_toArray]; exact this.symm
  refine set_texts_go ((Walks.tuple (show B.in1.in1.in1.handled = none by simp [hh]) _ l nI us.toArray).toS) _ nF zs hz hbd (fun i v hv2 => strs_of hv hv2) (us.toArray.size - 0) 0 _ rfl (Nat.zero_le _) ⟨⟨_, Heap.get?_push_size _ rfl, rfl, rfl⟩, hl2.push _⟩ ?_ fun t' mv hset => ?_
  · exact SetOf_congr ((setObjOf_fresh (knd := PySem.strKind pr wd) led).setOf (Heap.get?_push_of_some _ hS) (by unfold scanBound; omega)) (fun _ => by simp) rfl
  · refine wpAny_pure (wpAny_pure ⟨rfl, ?_⟩)
    have hk : ∀ b o, b < t0.heap.objs.size → t0.heap.get? b = some o → t'.heap.get? b = some o := fun b o hb e =>
      mv.heap b o (fun hq => (List.mem_cons.mp hq).elim (fun e => absurd e (Nat.ne_of_lt hb)) fun hq => absurd ((List.mem_singleton.mp hq).trans nz) (Nat.ne_of_lt (Nat.lt_succ_of_lt hb))) (Heap.get?_push_of_some _ (Heap.get?_push_of_some _ e))
    have e1 := h t'.heap t'.toks hset hk
    have g1 : t'.gens = t0.gens := mv.gens
    have g2 : t'.drawn = t0.drawn := mv.drawn
    have g3 : t'.os = t0.os := mv.os
    rw [← g1, ← g2, ← g3] at e1
    exact e1
end
section
variable {X : Cx}
theorem cr_setX (hc : X.calm = true) : CallR X (.type "set") (fun xs H Q => ∃ p zs, xs = [.ref p] ∧ SqL X.K H p (zs.map V.str) ∧ zs.length ≤ 1000 ∧ ∀ a, H a = none → Q (.ref a) (upd H a (SetN a (cardT zs)))) := by
  intro pins s σ H xs us Q I r h
  obtain ⟨p, zs, rfl, hq, hl, q⟩ := h
  obtain ⟨u, rfl, ru⟩ := vals1 r
  cases (show u = Value.ref p from ru)
  obtain ⟨its, rv, pl, hz⟩ := I.list hq
  refine call_set_texts (I.ok.hd hc) pl.isList rv (by unfold scanBound; omega) fun h' tk hS hk => ?_
  obtain ⟨o, es, ep, t, ho, hex, hd, hE, hm, hb, hf, hn⟩ := hS
  have new : ObjOk X.prog X.w (upd H s.heap.objs.size (SetN s.heap.objs.size (cardT zs))) h' s.heap.objs.size (SetN s.heap.objs.size (cardT zs)) :=
    ⟨⟨o, es, ep, t, ho, hex, hd, hf, hn⟩, ⟨o, ho⟩, fun _ _ ⟨o, es, ep, t, r1, r2⟩ k => ⟨o, es, ep, t, k o r1, r2⟩⟩
  have I1 := I.laid (t' := tk) (fun b u e => hk b u (Heap.lt_size e) e) (Nat.le_refl _) new
  exact ⟨.ref s.heap.objs.size, _, I1, rfl, q _ (I.hok.fresh (Nat.le_refl _))⟩
theorem cr_setXT (hc : X.calm = true) : CallR X (.type "set") (fun xs H Q => ∃ p zs, xs = [.ref p] ∧ SqT X.K H p (zs.map V.str) ∧ zs.length ≤ 1000 ∧ ∀ a, H a = none → Q (.ref a) (upd H a (SetN a (cardT zs)))) := by
  intro pins s σ H xs us Q I r h
  obtain ⟨p, zs, rfl, hq, hl, q⟩ := h
  obtain ⟨u, rfl, ru⟩ := vals1 r
  cases (show u = Value.ref p from ru)
  obtain ⟨its, rv, pl, hz⟩ := I.tuple hq
  refine call_set_textsT (I.ok.hd hc) pl rv (by unfold scanBound; omega) fun h' tk hS hk => ?_
  obtain ⟨o, es, ep, t, ho, hex, hd, hE, hm, hb, hf, hn⟩ := hS
  have new : ObjOk X.prog X.w (upd H s.heap.objs.size (SetN s.heap.objs.size (cardT zs))) h' s.heap.objs.size (SetN s.heap.objs.size (cardT zs)) :=
    ⟨⟨o, es, ep, t, ho, hex, hd, hf, hn⟩, ⟨o, ho⟩, fun _ _ ⟨o, es, ep, t, r1, r2⟩ k => ⟨o, es, ep, t, k o r1, r2⟩⟩
  have I1 := I.laid (t' := tk) (fun b u e => hk b u (Heap.lt_size e) e) (Nat.le_refl _) new
  exact ⟨.ref s.heap.objs.size, _, I1, rfl, q _ (I.hok.fresh (Nat.le_refl _))⟩
end
section
variable {X : Cx} {F0 : Hp} {Γ : Gm} {L : Lg} {k : D → Lg → Prop} {a e : Expr} {pos p p2 cpos : Pos}
theorem ek_lensetX (hc : X.calm = true) (hm : X.mg "len" = none) (hg : Gl X "len") (hm2 : X.mg "set" = none) (hg2 : Gl X "set") (h : EvK X F0 a Γ L fun x L1 => ∃ zs : List Str, AsL L1 x (zs.map D.str) ∧ zs.length ≤ 1000 ∧ k (.int (cardT zs : Nat)) L1)
    (he : starEach [a] X.env = (false, eval a X.env) :: starEach [] X.env := by rfl) (hp : (backTo cpos (starEach [] X.env)).any (·.1) = false := by rfl) (he2 : starEach [.Call (.Name "set" p2) [a] [] cpos] X.env = (false, eval (.Call (.Name "set" p2) [a] [] cpos) X.env) :: starEach [] X.env := by rfl) (hp2 : (backTo pos (starEach [] X.env)).any (·.1) = false := by rfl) :
    EvK X F0 (.Call (.Name "len" p) [.Call (.Name "set" p2) [a] [] cpos] [] pos) Γ L k := fun F σ H Q E q =>
  wpE.of (pe_callB cr_lenS hg hm (by decide +kernel) (pa_cons (pe_callTy (cr_setX hc) hg2 hm2 (by decide +kernel) (pa_cons we pa_nil he) (by decide) (by decide) he hp) pa_nil he2) (by decide) (by decide) he2 hp2)
    (h F σ H _ E fun x L1 F1 v H1 ⟨zs, as, hl, h1⟩ E1 s1 r1 => by
      obtain ⟨p, xs, rfl, hx, rx⟩ := as.read E1.led r1
      have e := sl_reps rx
      subst e
      exact ⟨p, zs, rfl, hx, hl, fun a ha => ⟨a, cardT zs, rfl, upd_same, by have := cardAt_le (zs := zs) zs.length; show cardAt zs zs.length ≤ _; omega, q _ L1 _ _ _ h1 (E1.new ha) (s1.trans (same_new (E1.led.free ha))) .int⟩⟩)
theorem ek_lensetXT (hc : X.calm = true) (hm : X.mg "len" = none) (hg : Gl X "len") (hm2 : X.mg "set" = none) (hg2 : Gl X "set") (h : EvK X F0 a Γ L fun x L1 => ∃ zs : List Str, x = .tup (zs.map D.str) ∧ zs.length ≤ 1000 ∧ k (.int (cardT zs : Nat)) L1)
    (he : starEach [a] X.env = (false, eval a X.env) :: starEach [] X.env := by rfl) (hp : (backTo cpos (starEach [] X.env)).any (·.1) = false := by rfl) (he2 : starEach [.Call (.Name "set" p2) [a] [] cpos] X.env = (false, eval (.Call (.Name "set" p2) [a] [] cpos) X.env) :: starEach [] X.env := by rfl) (hp2 : (backTo pos (starEach [] X.env)).any (·.1) = false := by rfl) :
    EvK X F0 (.Call (.Name "len" p) [.Call (.Name "set" p2) [a] [] cpos] [] pos) Γ L k := fun F σ H Q E q =>
  wpE.of (pe_callB cr_lenS hg hm (by decide +kernel) (pa_cons (pe_callTy (cr_setXT hc) hg2 hm2 (by decide +kernel) (pa_cons we pa_nil he) (by decide) (by decide) he hp) pa_nil he2) (by decide) (by decide) he2 hp2)
    (h F σ H _ E fun x L1 F1 v H1 ⟨zs, as, hl, h1⟩ E1 s1 r1 => by
      subst as
      cases r1 with
      | tup hx rx =>
      have e := sl_reps rx
      subst e
      exact ⟨_, zs, rfl, seqT E1.led.sub hx, hl, fun a ha => ⟨a, cardT zs, rfl, upd_same, by have := cardAt_le (zs := zs) zs.length; show cardAt zs zs.length ≤ _; omega, q _ L1 _ _ _ h1 (E1.new ha) (s1.trans (same_new (E1.led.free ha))) .int⟩⟩)
/-! ### xs[::-1] -/
theorem ek_rev {k2 : Nat} {p1 p3 p4 : Pos} (h : EvK X F0 e Γ L fun x L1 => ∃ ds, AsL L1 x ds ∧ k (.lst ds.reverse) L1) :
    EvK X F0 (.Subscript e (.Slice none none (some (.UnaryOp .USub (.Constant (.int 1) k2 p1) p2)) p3) p4) Γ L k := fun F σ H Q E q =>
  wpE.of (pe_revL we) (h F σ H _ E fun x L1 F1 v H1 ⟨ds, a, h1⟩ E1 s1 r1 => by
    obtain ⟨p, xs, rfl, hx, rx⟩ := a.read E1.led r1
    exact ⟨p, xs, rfl, hx, fun n hn => q _ L1 _ _ _ h1 (E1.new hn) (s1.trans (same_new (E1.led.free hn))) (.lst (.inl (.inl upd_same)) (rx.rev.mono (same_new (E1.led.free hn))))⟩)
end
end Vs

set_option Elab.async false
set_option linter.all false
set_option maxRecDepth 100000
set_option maxHeartbeats 4000000
namespace Vs
open PySem PySem.Spec PyProof.Rows L2
/-! ### {k: v}, a dict of one pair -/
section
variable {X : Cx} {F0 : Hp} {Γ : Gm} {L : Lg} {k : D → Lg → Prop} {ke ve : Expr} {pos : Pos}
theorem ek_disp1 (h : ∀ p, EvK X F0 ke Γ ((p, C.dic []) :: L) fun x L1 => EvK X F0 ve Γ L1 fun y L2 => ∃ key j L3, x = kD key ∧ Get L2 j (p, C.dic []) ∧ Put L2 j (p, C.dic [(key, y)]) L3 ∧ k (.ref p) L3) :
    EvK X F0 (.Dict [some ke] [ve] pos) Γ L k := fun F σ H Q E q =>
  wpE.of (pe_disp (pps_cons we we pps_nil) rfl rfl (by simp) (Nat.le_of_ble_eq_true rfl)) fun p hp => by
    have E0 : At X.K F0 F Γ ((p, C.dic []) :: L) σ (upd H p (.dK [])) := E.to (Same.refl F) ⟨E.led.sub.trans (same_new hp), by
      rw [List.map_cons]
      refine List.nodup_cons.mpr ⟨fun z => ?_, E.led.nod⟩
      obtain ⟨q, hq, z⟩ := List.mem_map.mp z
      exact E.led.nofr hp q hq z, fun q hq => by
      rcases List.mem_cons.mp hq with rfl | hq
      · exact ⟨E.led.free hp, [], upd_same, .nil⟩
      · obtain ⟨h1, h2⟩ := E.led.ent q hq
        exact ⟨h1, h2.mono (Same.refl F) (upd_ne (E.led.nofr hp q hq))⟩⟩
    refine h p F σ _ _ E0 fun x L1 F1 v H1 h1 E1 s1 r1 => h1 F1 σ H1 _ E1 fun y L2 F2 u H2 ⟨key, j, L3, e1, g, pt, h2⟩ E2 s2 r2 => ?_
    subst e1
    have e3 := kD_v r1
    subst e3
    obtain ⟨_, ps, h4, h5⟩ := E2.led.ent _ g.mem
    obtain rfl : ps = [] := by
      have := h5.length
      exact List.length_eq_zero_iff.mp this.symm
    have h6 : RepP X.K F2 [(key, y)] [(key, u)] := .cons r2 .nil
    exact ⟨h4, [(key, u)], rfl, Nat.le_of_ble_eq_true rfl, q _ L3 F2 _ _ h2 (E2.to (Same.refl F2) (E2.led.put g pt ⟨_, upd_same, h6⟩)) (s1.trans s2) .ref⟩
end
/-! ### sorted(t), t a tuple -/
section
variable {pr : Program} {wd : World} {B : Around} {Ex : Value → Shared → Prop} {t0 : Shared}
open PySem.W in
theorem collect_tup {l : Addr} {vs : List Value} {Qc : List Value → Shared → Prop} (hl : t0.heap.IsTuple l vs.toArray) (hz : vs.length ≤ sizeLine)
    (h : Qc vs { t0 with heap := (t0.heap.push (seqObj "list" #[] 0)).update t0.heap.objs.size (Obj.mapSeq (· ++ vs.toArray)) }) : wpAny (model pr wd) B (collect (.ref l)) Qc Ex t0 := by
  obtain ⟨ob, hob, hoc, nn, hod⟩ := id hl
  have hob2 : (t0.heap.push (seqObj "list" #[] 0)).get? l = some ob := Heap.get?_push_of_some _ hob
  unfold collect
  refine wpAny_bind (wpAny_runValue (codeAny_builtin entry_proto_collect' (show wpAny _ _ (do again (.builtin "list.__iadd__" ⟨[← newList [], .ref l], []⟩)) _ _ t0 from ?_)))
  refine wpAny_bind (wpAny_newList (wpAny_pure ⟨Code.quiet_builtin _ (by decide +kernel), codeAny_builtin entry_list_iadd' (show wpAny _ _ (Builtin.List.listExtendWith (.ref t0.heap.objs.size) (.ref l) (.ref t0.heap.objs.size)) _ _ { t0 with heap := t0.heap.push (seqObj "list" #[] 0) } from ?_)⟩))
  unfold Builtin.List.listExtendWith
  refine wpAny_bind (wpAny_typeOf (T := "tuple") ⟨ob, hob2, hoc⟩ ?_)
  rw [if_pos (by rw [show (Value.type "tuple" == Value.type "tuple") = true from rfl]; simp)]
  refine wpAny_bind (listItems_at hob2 hod (wpAny_bind (listItems_at (xs := #[]) (n := 0) (Heap.get?_push_size _ rfl) rfl ?_)))
  rw [if_neg (by simp)]
  refine wpAny_bind (listUpdate_at (xs := #[]) (n := 0) (Heap.get?_push_size _ rfl) rfl (wpAny_pure ?_) (Nat.zero_le _) (by show (#[] ++ vs.toArray).size ≤ sizeLine + 1; simp only [Array.size_append, List.size_toArray, List.length_nil]; omega))
  show wpAny (model pr wd) B (load t0.heap.objs.size >>= _) Qc Ex { t0 with heap := (t0.heap.push (seqObj "list" #[] 0)).update t0.heap.objs.size (Obj.mapSeq (· ++ vs.toArray)) }
  refine wpAny_bind (wpAny_load (get?_update_seq (Heap.get?_push_size _ rfl) _) (show wpAny _ _ (pure ((#[] : Array Value) ++ vs.toArray).toList) Qc Ex _ from ?_))
  have e : ((#[] : Array Value) ++ vs.toArray).toList = vs := by simp
  rw [e]
  exact wpAny_pure h
open PySem.W in
theorem sortedT_data {β : Type} {enc : β → PyData} {Rl : Value → β → Prop} {l : Addr} {vs : List Value} {bs : List β} {Qo : Value → Shared → Prop} (hl : t0.heap.IsTuple l vs.toArray) (e : EachIs Rl vs bs)
    (er : EachIs (fun v b => ∃ as, Reads t0.heap v (enc b) as) vs bs) (hal : AllAlike (bs.map enc)) (hk : Sortable (bs.map enc)) (hL : bs.length ≤ sizeLine) (hu : ∀ b, b ∈ bs → B.units + 2 + (enc b).depth < cLine)
    (h : ∀ out, out.length = bs.length → EachIs Rl out (bs.mergeSort (dataLe false enc)) → Qo (.ref (t0.heap.objs.size + 1)) { t0 with heap := sortedAll t0.heap vs (List.toArray out) }) :
    wpAny (model pr wd) B (call (.builtin "sorted") [.ref l]) Qo Ex t0 := by
  have hz : vs.length ≤ sizeLine := by rw [e.length]; exact hL
  have er2 : EachIs (fun v b => ∃ as, Reads (sortingHeap (copyHeap t0.heap vs) (t0.heap.objs.size + 1) vs) v (enc b) as) vs bs := er.mono fun _ _ ⟨as, r⟩ => ⟨as, PyProof.Rows.Reads.keeps (fun _ _ => sorting_copy_old) r⟩
  have hsz : ((t0.heap.push (seqObj "list" #[] 0)).update t0.heap.objs.size (Obj.mapSeq (· ++ vs.toArray))).objs.size = t0.heap.objs.size + 1 := by rw [Heap.size_update]; exact Heap.size_push ..
  refine Calls.call_function_entry kind_sorted plain_sorted entry_sorted (args_sorted1 _) ?_
  unfold Builtin.«sorted»
  refine wpAny_bind (m := checkCount "sorted" 1 1 _) (wpAny_pure (wpAny_bind (collect_tup hl hz (wpAny_bind (wpAny_newList (show wpAny _ _ _ _ _ { t0 with heap := copyHeap t0.heap vs } from ?_) hz)))))
  rw [hsz]
  have hS := SortsAt.data (prog := pr) (w := wd) (A := B.in1.in1) (s := { t0 with heap := sortingHeap (copyHeap t0.heap vs) (t0.heap.objs.size + 1) vs }) (each_map (R := fun v d => ∃ as, Reads (sortingHeap (copyHeap t0.heap vs) (t0.heap.objs.size + 1) vs) v d as) enc er2) hal hk (bound_map hu)
  refine wpAny_bind (wpAny_holding (wpAny_call_entry slot_list_sort ⟨_, copyHeap_at t0.heap vs, rfl⟩ entry_list_sort (list_sort_vals (s := { t0 with heap := copyHeap t0.heap vs }) (copyHeap_at t0.heap vs) hS hz ⟨.none, rfl, wpAny_pure ⟨_, rfl, ?_⟩⟩) (args_list_sort _)))
  exact h _ (by rw [sortVals_length false rfl]; exact e.length) (sortVals_data false e er2 hal)
end
def rSortedDT (K : PySem.W.Frag) : List V → Hp → VK → Prop := fun vs H Q => ∃ (a : Addr) (xs : List V) (ds : List PyData), vs = [V.ref a] ∧ SqT K H a xs ∧ DpAll K H xs ds ∧ PySem.W.AllAlike ds ∧ PySem.W.Sortable ds ∧ (∀ d ∈ ds, d.depth ≤ 20) ∧
  ∀ p, H p = none → Q (.ref p) (upd H p (.lst (((xs.zip ds).mergeSort (PySem.W.dataLe false (·.2))).map (·.1))))
theorem cr_sortedDT {X : Cx} (hu : X.A.units + 64 < cLine) : CallR X (.builtin "sorted") (rSortedDT X.K) := by
  intro pins s σ H vs us Q I r h
  obtain ⟨a, xs, ds, rfl, hs, hx, hal, hso, hdp, q⟩ := h
  obtain ⟨its, rv, hl, hz⟩ := I.tuple hs
  obtain ⟨u, rfl, ru⟩ := vals1 r
  obtain rfl : u = Value.ref a := ru
  have hlen := dpall_len hx
  have hsn : (xs.zip ds).map (·.2) = ds := zip_snd hlen
  have hzl : (xs.zip ds).length = xs.length := by rw [List.length_zip, ← hlen, Nat.min_self]
  refine sortedT_data (enc := fun b : V × PyData => b.2) hl (each_rel hx rv) (each_reads I hx rv) (by rw [hsn]; exact hal) (by rw [hsn]; exact hso) (by rw [hzl]; exact hz) (fun b hb => ?_) fun out ho he => ?_
  · have h1 : b.2 ∈ ds := by rw [← hsn]; exact List.mem_map.mpr ⟨b, hb, rfl⟩
    have := hdp _ h1
    omega
  · obtain ⟨n, hn⟩ := sortedAll_at s.heap its (List.toArray out)
    have hsz : (((xs.zip ds).mergeSort (PySem.W.dataLe false (·.2))).map (·.1)).length ≤ sizeLine := by
      rw [List.length_map, List.length_mergeSort, hzl]
      exact hz
    refine ⟨.ref (s.heap.objs.size + 1), upd H (s.heap.objs.size + 1) (.lst (((xs.zip ds).mergeSort (PySem.W.dataLe false (·.2))).map (·.1))), I.laid (t' := s.toks) (fun b o e => sortedAll_old e) (Nat.le_succ _) ⟨hsz, out, n, vals_each he, hn⟩, rfl, q _ (I.hok.fresh (Nat.le_succ _))⟩
section
variable {X : Cx} {F0 : Hp} {Γ : Gm} {L : Lg} {k : D → Lg → Prop} {e : Expr} {pos : Pos}
theorem zip_enc {α : Type} {enc : α → PyData} : ∀ {bs : List α} {xs : List V}, bs.length = xs.length → xs.zip (bs.map enc) = (bs.zip xs).map fun t => (t.2, enc t.1)
  | [], [], _ => rfl
  | b :: bs, v :: vs, h => congrArg ((v, enc b) :: ·) (zip_enc (Nat.succ.inj h))
/-- sorted(t): f, the items as data of D; enc, as data that are compared -/
theorem ek_sortedXT {p : Pos} (hu : X.A.units + 64 < cLine) (hm : X.mg "sorted" = none) (hg : Gl X "sorted") (h : EvK X F0 e Γ L fun x L1 => ∃ (α : Type) (bs : List α) (f : α → D) (enc : α → PyData), x = .tup (bs.map f) ∧ (∀ t ∈ bs, Dpd L1 (f t) (enc t)) ∧
      PySem.W.AllAlike (bs.map enc) ∧ PySem.W.Sortable (bs.map enc) ∧ (∀ t ∈ bs, (enc t).depth ≤ 20) ∧ k (.lst ((bs.mergeSort (PySem.W.dataLe false enc)).map f)) L1)
    (he : starEach [e] X.env = (false, eval e X.env) :: starEach [] X.env := by rfl) (hpl : (backTo pos (starEach [] X.env)).any (·.1) = false := by rfl) : EvK X F0 (.Call (.Name "sorted" p) [e] [] pos) Γ L k := fun F σ H Q E q =>
  wpE.of (pe_callB (cr_sortedDT hu) hg hm (by decide +kernel) (pa_cons we pa_nil he) (by decide) (by decide) he hpl) (h F σ H _ E fun x L1 F1 v H1 ⟨α, bs, f, enc, a, hd, h2, h3, h4, h1⟩ E1 s1 r1 => by
    subst a
    cases r1 with
    | tup hx0 rx =>
    rename_i p xs
    obtain ⟨hlen, hz⟩ := reps_zip rx
    refine ⟨p, xs, bs.map enc, rfl, seqT E1.led.sub hx0, Dpds.dp E1.led (dpds_of hd) rx, h2, h3, fun d hd' => ?_, fun n hn => ?_⟩
    · obtain ⟨t, ht, rfl⟩ := List.mem_map.mp hd'
      exact h4 t ht
    · have hT := zip_enc (enc := enc) hlen
      have e1 : ((xs.zip (bs.map enc)).mergeSort (PySem.W.dataLe false (·.2))).map (·.1) = ((bs.zip xs).mergeSort (PySem.W.dataLe false fun t => enc t.1)).map (·.2) := by
        rw [hT, ← PySem.W.sort_maps (r := PySem.W.dataLe false fun t : α × V => enc t.1) (fun t : α × V => (t.2, enc t.1)) (fun a _ b _ => rfl), List.map_map]
        rfl
      have e2 : (bs.mergeSort (PySem.W.dataLe false enc)).map f = ((bs.zip xs).mergeSort (PySem.W.dataLe false fun t => enc t.1)).map (fun t => f t.1) := by
        have e3 : (bs.zip xs).map (·.1) = bs := zip_fst hlen
        have e4 := PySem.W.sort_maps (r := PySem.W.dataLe false fun t : α × V => enc t.1) (s := PySem.W.dataLe false enc) (fun t : α × V => t.1) (l := bs.zip xs) (fun a _ b _ => rfl)
        rw [e3] at e4
        rw [← e4, List.map_map]
        rfl
      rw [e1]
      have hr : Reps X.K F1 ((bs.mergeSort (PySem.W.dataLe false enc)).map f) (((bs.zip xs).mergeSort (PySem.W.dataLe false fun t => enc t.1)).map (·.2)) := by
        rw [e2]
        exact reps_of (f := fun t : α × V => f t.1) (g := fun t : α × V => t.2) fun t ht => hz t ((List.mergeSort_perm _ _).mem_iff.mp ht)
      exact q _ L1 _ _ _ h1 (E1.new hn) (s1.trans (same_new (E1.led.free hn))) (.lst (.inl (.inl upd_same)) (hr.mono (same_new (E1.led.free hn)))))
end
end Vs

set_option Elab.async false
set_option linter.all false
set_option maxRecDepth 100000
set_option maxHeartbeats 4000000
namespace Vs
open PySem PySem.Spec PyProof.Rows L2
/-! ### list(d): the keys -/
theorem keys_reps {K : PySem.W.Frag} {F : Hp} : ∀ {kvs : List (Key × D)} {ps : List (Key × V)}, RepP K F kvs ps → Reps K F (keysD kvs) (ps.map fun kv => kV kv.1)
  | _, _, .nil => .nil
  | _, _, .cons _ t => .cons kD_rep (keys_reps t)
section
variable {X : Cx} {F0 : Hp} {Γ : Gm} {L : Lg} {k : D → Lg → Prop} {e : Expr} {pos p : Pos}
theorem ek_listD (hc : X.calm = true) (hm : X.mg "list" = none) (hg : Gl X "list") (h : EvK X F0 e Γ L fun x L1 => ∃ kvs, AsD F0 X.K L1 x kvs ∧ k (.lst (keysD kvs)) L1)
    (he : starEach [e] X.env = (false, eval e X.env) :: starEach [] X.env := by rfl) (hpl : (backTo pos (starEach [] X.env)).any (·.1) = false := by rfl) : EvK X F0 (.Call (.Name "list" p) [e] [] pos) Γ L k := fun F σ H Q E q =>
  wpE.of (pe_callTy (call_listD hc) hg hm (by decide +kernel) (pa_cons we pa_nil he) (by decide) (by decide) he hpl) (h F σ H _ E fun x L1 F1 v H1 ⟨kvs, as, h1⟩ E1 s1 r1 => by
    obtain ⟨a, ps, rfl, rd, rp⟩ := as.read E1.ge E1.led r1
    exact ⟨a, ps, rfl, rd, fun n hn => q _ L1 _ _ _ h1 (E1.new hn) (s1.trans (same_new (E1.led.free hn))) (.lst (.inl (.inl upd_same)) ((keys_reps rp).mono (same_new (E1.led.free hn))))⟩)
theorem asl_of {L : Lg} {ds es : List D} (h : ds = es) : AsL L (.lst ds) es := by subst h; exact .lst
end
end Vs

set_option Elab.async false
set_option linter.all false
set_option maxRecDepth 100000
set_option maxHeartbeats 4000000
namespace Vs
open PySem PySem.Spec PyProof.Rows L2
/-! ### a dict locked for one statement or one expression; [.. for k in d] -/
def Lok (F0 : Hp) (K : PySem.W.Frag) (p : Addr) (kvs : List (Key × D)) : Prop := ∃ od ps, F0 p = some (.frz od (.dK ps)) ∧ RepP K F0 kvs ps
theorem Lok.up {F0 F1 : Hp} {K : PySem.W.Frag} {p : Addr} {kvs : List (Key × D)} (h : Lok F0 K p kvs) (s : Same F0 F1) : Lok F1 K p kvs := by
  obtain ⟨od, ps, h1, h2⟩ := h
  exact ⟨od, ps, s _ _ h1, h2.mono s⟩
theorem Lok.as {F0 : Hp} {K : PySem.W.Frag} {p : Addr} {kvs : List (Key × D)} (h : Lok F0 K p kvs) {L : Lg} : AsD F0 K L (.ref p) kvs := by
  obtain ⟨od, ps, h1, h2⟩ := h
  exact .lok h1 h2
section
variable {X : Cx} {F0 : Hp} {Γ : Gm} {L L1 : Lg} {e a tg : Expr} {st : Stmt} {N Nc : List Str} {sc : Scope} {Z : Xc → Gm → Lg → Prop} {p : Addr} {kvs : List (Key × D)} {j : Nat}
theorem sk_lock {k : Ks} (cf : Cf X N Nc sc F0 Z) (r : Rem L j (p, .dic kvs) L1)
    (h : ∀ F1, Cf X N Nc sc F1 Z → Lok F1 X.K p kvs → SK X F1 st Γ L1 ⟨fun Γ' L' => k.nx Γ' ((p, .dic kvs) :: L'), fun d L' => k.rt d ((p, .dic kvs) :: L'), fun Γ' L' => k.bk Γ' ((p, .dic kvs) :: L'), fun Γ' L' => k.ct Γ' ((p, .dic kvs) :: L')⟩) : SK X F0 st Γ L k := fun F σ H Dn E q => by
  obtain ⟨ps, h1, h2, h3, hl⟩ := E.led.lock r
  have hF0 : F0 p = none := E.ge.free h3
  refine wpS.of (ps_lock ws) ⟨p, .dK ps, h1, trivial, fun od => ?_⟩
  have s1 : Same F (upd F p (.frz od (.dK ps))) := same_new h3
  have g01 : Same F0 (upd F p (.frz od (.dK ps))) := E.ge.trans s1
  have E1 : At X.K (upd F p (.frz od (.dK ps))) (upd F p (.frz od (.dK ps))) Γ L1 σ (upd H p (.frz od (.dK ps))) := ⟨Same.refl _, hl od, E.sl.mono s1⟩
  have out : ∀ {F2 : Hp} {Lb : Lg} {σ2 : L2.St} {H2 : Hp} {Γ2 : Gm}, At X.K (upd F p (.frz od (.dK ps))) F2 Γ2 Lb σ2 H2 → H2 p = some (.frz od (.dK ps)) ∧ At X.K F0 (delH F2 p) Γ2 ((p, .dic kvs) :: Lb) σ2 (upd H2 p (.dK ps)) := fun E2 => by
    have hp2 := E2.ge _ _ upd_same
    exact ⟨E2.led.sub _ _ hp2, same_del (g01.trans E2.ge) hF0, E2.led.unlock hp2 (h2.mono (s1.trans E2.ge)), E2.sl.del hp2⟩
  refine h _ (cf.up g01) ⟨od, ps, upd_same, h2.mono s1⟩ _ σ _ _ E1 ⟨fun Γ L F σ H h E => ?_, fun d L F v H h s l r => ?_, fun Γ L F σ H h E => ?_, fun Γ L F σ H h E => ?_⟩
  · obtain ⟨o1, o2⟩ := out E
    exact ⟨o1, q.nx Γ _ _ σ _ h o2⟩
  · have hp5 := s _ _ upd_same
    exact ⟨l.sub _ _ hp5, q.rt d _ _ v _ h (same_del (g01.trans s) hF0) (l.unlock hp5 (h2.mono (s1.trans s))) (r.del hp5)⟩
  · obtain ⟨o1, o2⟩ := out E
    exact ⟨o1, q.bk Γ _ _ σ _ h o2⟩
  · obtain ⟨o1, o2⟩ := out E
    exact ⟨o1, q.ct Γ _ _ σ _ h o2⟩
theorem Led.subP {K : PySem.W.Frag} {F H : Hp} {L L1 : Lg} (l : Led K F L1 H) (hs : SubP L L1) : Led K F L H := by
  obtain ⟨L2, h1, h2⟩ := hs
  exact ⟨l.sub, (h1.map _).nodup ((h2.map _).nodup_iff.mpr l.nod), fun p hp => l.ent p (h2.mem_iff.mp (h1.subset hp))⟩
/-- .. the dict let go of behind the statement -/
theorem sk_lockX {k : Ks} (cf : Cf X N Nc sc F0 Z) (r : Rem L j (p, .dic kvs) L1) (h : ∀ F1, Cf X N Nc sc F1 Z → Lok F1 X.K p kvs → SK X F1 st Γ L1 k) : SK X F0 st Γ L k := fun F σ H Dn E q => by
  have sb : ∀ {L' : Lg}, SubP L' ((p, C.dic kvs) :: L') := fun {L'} => .of_sub (List.sublist_cons_self _ _)
  refine sk_lock cf r (k := ⟨fun Γ' L' => ∃ L2, SubP L2 L' ∧ k.nx Γ' L2, fun d L' => ∃ L2, SubP L2 L' ∧ k.rt d L2, fun Γ' L' => ∃ L2, SubP L2 L' ∧ k.bk Γ' L2, fun Γ' L' => ∃ L2, SubP L2 L' ∧ k.ct Γ' L2⟩) (fun F1 c lok => ?_) F σ H Dn E ?_
  · intro F σ H Dn E q
    exact h F1 c lok F σ H Dn E ⟨fun Γ L F σ H h E => q.nx Γ L F σ H ⟨L, sb, h⟩ E, fun d L F v H h s l r => q.rt d L F v H ⟨L, sb, h⟩ s l r, fun Γ L F σ H h E => q.bk Γ L F σ H ⟨L, sb, h⟩ E, fun Γ L F σ H h E => q.ct Γ L F σ H ⟨L, sb, h⟩ E⟩
  · exact ⟨fun Γ L F σ H ⟨L2, hs, h⟩ E => q.nx Γ L2 F σ H h (E.subP hs), fun d L F v H ⟨L2, hs, h⟩ s l r => q.rt d L2 F v H h s (Led.subP l hs) r, fun Γ L F σ H ⟨L2, hs, h⟩ E => q.bk Γ L2 F σ H h (E.subP hs), fun Γ L F σ H ⟨L2, hs, h⟩ E => q.ct Γ L2 F σ H h (E.subP hs)⟩
theorem keysD_get {K : PySem.W.Frag} {F : Hp} {kvs : List (Key × D)} {ps : List (Key × V)} {i : Nat} {key : Key} {v : V} (r : RepP K F kvs ps) : ps[i]? = some (key, v) → (keysD kvs)[i]? = some (kD key) := by
  induction r generalizing i with
  | nil => intro z; cases i <;> cases z
  | cons r t ih =>
    intro z
    cases i with
    | zero => cases z; rfl
    | succ i => exact ih z
/-- what is walked in a comprehension: the keys of a locked dict -/
theorem eip_keys {kl : List D → Lg → Prop} (h : EvK X F0 a Γ L fun x L1 => ∃ p kvs, x = .ref p ∧ Lok F0 X.K p kvs ∧ kl (keysD kvs) L1) : EiP X F0 tg a Γ L kl := fun F σ H R E q =>
  wpI.of (pi_keys we) (h F σ H _ E fun x L1 F1 v H1 ⟨p, kvs, e1, lk, h1⟩ E1 s1 r1 => by
    subst e1
    cases r1
    obtain ⟨od, ps, hf, hr⟩ := lk
    have rd : ∀ {F' : Hp} {L' : Lg} {H' : Hp}, Same F1 F' → Led X.K F' L' H' → H' p = some (.frz od (.dK ps)) := fun s l => l.sub _ _ (s _ _ (E1.ge _ _ hf))
    refine ⟨p, od, rfl, .inl ⟨ps, rd (Same.refl F1) E1.led, q (keysD kvs) L1 F1 H1 _ h1 E1 s1 ⟨?_, ?_, ?_⟩⟩⟩
    · intro i H F' L' hi s l
      refine ⟨rd s l, ?_⟩
      rw [← hr.length]
      have : (keysD kvs).length = kvs.length := List.length_map _
      omega
    · rintro i H x H' F' L' s l ⟨rfl, key, w, hk, rfl⟩ hi
      exact ⟨_, F', keysD_get hr hk, Same.refl F', l, kD_rep⟩
    · intro i H F' L' hi s l
      refine ⟨rd s l, ?_⟩
      rw [← hr.length]
      have : (keysD kvs).length = kvs.length := List.length_map _
      omega)
end
end Vs

set_option Elab.async false
set_option linter.all false
set_option maxRecDepth 100000
set_option maxHeartbeats 4000000
namespace Vs
open PySem PySem.Spec PyProof.Rows L2
/-! ### sorted(d), the keys whole numbers -/
theorem repP_keys {K : PySem.W.Frag} {F : Hp} : ∀ {kvs : List (Key × D)} {ps : List (Key × V)}, RepP K F kvs ps → ps.map (·.1) = kvs.map (·.1)
  | _, _, .nil => rfl
  | (g, _) :: _, _ :: _, .cons _ t => congrArg (g :: ·) (repP_keys t)
section
variable {X : Cx} {F0 : Hp} {Γ : Gm} {L : Lg} {k : D → Lg → Prop} {e : Expr} {pos : Pos}
theorem ek_sortedDI {p : Pos} (hc : X.calm = true) (hm : X.mg "sorted" = none) (hg : Gl X "sorted") (h : EvK X F0 e Γ L fun x L1 => ∃ (kvs : List (Key × D)) (ks : List Int), AsD F0 X.K L1 x kvs ∧ kvs.map (·.1) = ks.map Sum.inl ∧ ks.length < 64 ∧ ∀ ns' : List Int, ns'.Perm ks → ns'.Pairwise (· ≤ ·) → k (.lst (dI ns')) L1)
    (he : starEach [e] X.env = (false, eval e X.env) :: starEach [] X.env := by rfl) (hpl : (backTo pos (starEach [] X.env)).any (·.1) = false := by rfl) : EvK X F0 (.Call (.Name "sorted" p) [e] [] pos) Γ L k := fun F σ H Q E q =>
  wpE.of (pe_callB (call_sortedDI hc) hg hm (by decide +kernel) (pa_cons we pa_nil he) (by decide) (by decide) he hpl) (h F σ H _ E fun x L1 F1 v H1 ⟨kvs, ks, as, hk, hl, h1⟩ E1 s1 r1 => by
    obtain ⟨a, ps, rfl, rd, rp⟩ := as.read E1.ge E1.led r1
    exact ⟨a, ps, ks, rfl, rd, (repP_keys rp).trans hk, hl, fun ns' n pp pw hn => q _ L1 _ _ _ (h1 ns' pp pw) (E1.new hn) (s1.trans (same_new (E1.led.free hn))) (.lst (.inl (.inl upd_same)) reps_il)⟩)
end
end Vs

set_option Elab.async false
set_option linter.all false
set_option maxRecDepth 100000
set_option maxHeartbeats 4000000
namespace Vs
open PySem PySem.Spec PyProof.Rows L2
/-! ### sorted(set(xs)), xs a list of numbers; xs >> n -/
section
variable {P : Program} {w : World} {A : Around} {E : Value → Shared → Prop} {s : Shared}
abbrev freshS (w : World) : Obj := { cls := .type "set", dict := none, data := .set #[] 0 (.fresh 0 0 (!w.params.followText "set-order")) }
set_option maxHeartbeats 3200000 in
theorem set_of_list {l : Addr} {items : Array Value} (ns : List Int) {Q : Value → Shared → Prop} (hh : A.handled = none) (hl : s.heap.IsList l items) (hit : IntsAre items.toList ns) (hb : ns.length + 1 < scanBound)
    (h : ∀ (h' : Heap) (tk c : Nat), SetR w h' s.heap.objs.size (fun j => decide (j ∈ ns)) c → c ≤ ns.length → (∀ b o, s.heap.get? b = some o → h'.get? b = some o) → Q (.ref s.heap.objs.size) { s with heap := h', toks := tk }) :
    wpAny (model P w) A (call (.type "set") [.ref l]) Q E s := by
  have hisz : items.size = ns.length := by
    have q := IntsAre.length hit
    rw [Array.length_toList] at q
    exact q
  obtain ⟨c, tl, hmro⟩ := F.called_set.mro
  have hmade := F.called_set.made
  have hsub := F.called_set.sub
  refine wpAny_call (codeAny_of_tree ?_)
  show wpAny _ _ (callAny (.type "set") _) _ _ _
  refine wpAny_pure ⟨Code.quiet_builtin _ (by decide +kernel), codeAny_builtin F.entry_type_call ?_⟩
  rw [Around.under_plain (weight_type_call_type "set" [.ref l] []) rfl]
  have h1 := F.called_set.notType
  have h2 := F.called_set.canCreate
  have hct := F.typeCall_set_1 (.ref l)
  repeat (any_goals (first | assumption | wp_step))
  refine codeAny_mono (code_set_led1 (.ref l) (E := E) (Q₁ := fun obj s₁ => obj = .ref s.heap.objs.size ∧ s₁ = { s with heap := s.heap.push (freshS w) }) ⟨rfl, rfl⟩) fun r s₁ hr => ?_
  cases r with
  | error e => exact hr
  | ok fl =>
    cases fl with
    | ret obj =>
      obtain ⟨rfl, rfl⟩ := hr
      have hS : (s.heap.push (freshS w)).get? s.heap.objs.size = some (freshS w) := Heap.get?_push_size _ rfl
      have hT : Shared.TypeIs { s with heap := s.heap.push (freshS w) } (.ref s.heap.objs.size) "set" := ⟨_, hS, rfl⟩
      have hli := F.called_set.init.lookup
      have hbi := F.called_set.init.bind (.ref s.heap.objs.size)
      repeat (any_goals (first | assumption | wp_step))
      refine codeAny_mono (codeAny_call_builtin (R := wants (fun r s₂ => r = .none ∧ ∃ h' tk c, s₂ = { s with heap := h', toks := tk } ∧ SetR w h' s.heap.objs.size (fun j => decide (j ∈ ns)) c ∧ c ≤ ns.length ∧
          (∀ b o, s.heap.get? b = some o → h'.get? b = some o)) E) F.called_set.init.plain F.entry_set_init (check_set_init_1 hT ?_)) fun r₂ s₂ hr₂ => ?_
      · obtain ⟨ol, hol, hcl, nl, hdl⟩ := hl
        obtain ⟨ocls, odict, odata, oslots⟩ := ol
        simp only at hcl hdl
        subst hcl; subst hdl
        have hol' : (s.heap.push (freshS w)).get? l = some { cls := .type "list", dict := odict, data := .seq items nl, slots := oslots } := Heap.get?_push_of_some _ hol
        have hsls := F.sub_list_set
        have hslf := F.sub_list_frozenset
        have hne : (Value.type "list" == Value.type "dict") = false := by decide
        have hl1 : (s.heap.push (freshS w)).IsList l items := ⟨_, hol', rfl, nl, rfl⟩
        unfold Builtin.«set.__init__» noKeywords Builtin.Frozenset.updateFrom
        generalize hPI : pyIter = PI
        wp_walk
        subst hPI
        refine wpAny_pyIter_list hl1 ?_
        refine wpAny_bind (wpAny_runValue ?_)
        have hlS : l < s.heap.objs.size := Heap.lt_size hol
        have hh3 : A.in1.in1.in1.handled = none := by simp [hh]
        have hneI : l ≠ (s.heap.push (freshS w)).objs.size := by
          rw [Heap.size_push]; exact Nat.ne_of_lt (Nat.lt_succ_of_lt hlS)
        have hSf : s.heap.objs.size ∉ [(s.heap.push (freshS w)).objs.size, l] := by
          rw [Heap.size_push]; simp only [List.mem_cons, List.mem_singleton, List.not_mem_nil, or_false, not_or]
          exact ⟨Nat.ne_of_lt (Nat.lt_succ_self _), Nat.ne_of_gt hlS⟩
        have hval : ∀ (i : Nat) (v : Value), items[i]? = some v → ∃ k t, ns[i]? = some k ∧ v = .int k t := fun i v hv => by
          have hi : i < ns.length := by rw [← hisz]; exact (Array.getElem?_eq_some_iff.mp hv).1
          obtain ⟨t, e⟩ := PyProof.Rows.IntsAre.int_at hit i v (by rw [Array.getElem?_toList]; exact hv)
          refine ⟨ns[i], t, List.getElem?_eq_getElem hi, ?_⟩
          rw [e, List.getD_eq_getElem?_getD, List.getElem?_eq_getElem hi] <;> rfl
        refine set_update_ints ((Walks.list hh3 _ l hneI items).toS) s.heap.objs.size hSf ns hisz hb hval (items.size - 0) 0 _ (by omega) (Nat.zero_le _) ⟨⟨_, Heap.get?_push_size _ rfl, rfl, rfl⟩, (hl1.push _)⟩ ?hS0 ?hR
        case hS0 => exact ⟨0, Nat.le_refl 0, setR_new_at (Heap.get?_push_of_some _ hS)⟩
        case hR =>
          intro s' c' hm hc' hS'
          obtain ⟨h', g2, d', tk', os'⟩ := s'
          have eg : g2 = s.gens := hm.gens
          have ed : d' = s.drawn := hm.drawn
          have eo : os' = s.os := hm.os
          subst eg; subst ed; subst eo
          show wpAny _ _ _ _ _ _
          refine wpAny_pure ?_
          show wpAny _ _ (ret Value.none) _ _ _
          rw [hisz] at hc'
          refine wpAny_pure ⟨rfl, h', tk', c', rfl, hS', hc', fun b o e => ?_⟩
          have hb0 : b < s.heap.objs.size := Heap.lt_size e
          have hb1 : b ≠ s.heap.objs.size := Nat.ne_of_lt hb0
          have hb2 : b ≠ (s.heap.push (freshS w)).objs.size := by
            rw [Heap.size_push]; exact Nat.ne_of_lt (Nat.lt_succ_of_lt hb0)
          exact hm.heap b o (by simp only [List.mem_cons, List.mem_singleton, List.not_mem_nil, or_false, not_or]; exact ⟨hb1, hb2⟩) (Heap.get?_push_of_some _ (Heap.get?_push_of_some _ e))
      · cases r₂ with
        | error e => exact hr₂
        | ok fl₂ =>
          cases fl₂ with
          | ret r =>
            obtain ⟨rfl, h', tk, c', rfl, hS', hc', hk'⟩ := hr₂
            repeat (any_goals (first | assumption | wp_step))
            exact h _ _ _ hS' hc' hk'
          | _ => exact hr₂.elim
    | _ => exact hr.elim
end
theorem nodup_inc {l m : List Int} (hn : l.Nodup) (hs : ∀ x ∈ l, x ∈ m) : l.length ≤ m.length := by
  induction l generalizing m with
  | nil => exact Nat.zero_le _
  | cons x r ih =>
    obtain ⟨h1, h2⟩ := List.nodup_cons.mp hn
    have hx := hs x List.mem_cons_self
    have := ih (m := m.erase x) h2 fun y hy => (List.mem_erase_of_ne (fun z => h1 (by rw [← z]; exact hy))).mpr (hs y (List.mem_cons_of_mem _ hy))
    rw [List.length_erase_of_mem hx] at this
    have hp := List.length_pos_of_mem hx
    rw [List.length_cons]
    omega
section
variable {X : Cx}
theorem cr_setLR (hc : X.calm = true) : CallR X (.type "set") (fun xs H Q => ∃ (p : Addr) (ns : List Int), xs = [.ref p] ∧ SqL X.K H p (ns.map V.int) ∧ ns.length ≤ 4000 ∧ ∀ a c, (∀ U : List Int, (∀ x ∈ ns, x ∈ U) → c ≤ U.length) → H a = none → Q (.ref a) (upd H a (SetO X.w a (fun j => decide (j ∈ ns)) c))) := by
  intro pins s σ H xs us Q I r h
  obtain ⟨p, ns, rfl, hq, hl, q⟩ := h
  obtain ⟨u, rfl, ru⟩ := vals1 r
  cases (show u = Value.ref p from ru)
  obtain ⟨its, rv, pl, hz⟩ := I.list hq
  refine set_of_list ns (I.ok.hd hc) pl.isList (by have := intsAre_of rv; simpa using this) (by unfold scanBound; omega) fun h' tk c hS hcl hk => ?_
  have hU : ∀ U : List Int, (∀ x ∈ ns, x ∈ U) → c ≤ U.length := fun U hU => by
    obtain ⟨o, es, ep, t, _, _, _, _, nd, hm, _, _, hn, _⟩ := hS
    have := nodup_inc nd fun x hx => hU x (by simpa using (hm x).mpr hx)
    rw [List.length_map, Array.length_toList, hn] at this
    exact this
  exact ⟨.ref s.heap.objs.size, _, I.laid (t' := tk) (fun b u e => hk b u e) (Nat.le_refl _) (setO_new hS), rfl, q _ c hU (I.hok.fresh (Nat.le_refl _))⟩
/-- set(t), t a tuple of numbers, by its size -/
theorem firstMet_nd {val : Nat → Int} : ∀ i, (firstMet val i).Nodup
  | 0 => by rw [firstMet_zero]; exact List.nodup_nil
  | i + 1 => by
    have ih := firstMet_nd (val := val) i
    rw [firstMet_succ]
    unfold step_dedup
    by_cases h : (firstMet val i).any (· == val i) = true
    · rw [if_pos h]
      exact ih
    · rw [if_neg h, List.nodup_append]
      refine ⟨ih, by simp, fun a ha b hb z => h ?_⟩
      rw [List.mem_singleton.mp hb] at z
      rw [List.any_eq_true]
      exact ⟨a, ha, by simp [z]⟩
theorem cardI_eq {ns l : List Int} (hn : l.Nodup) (hm : ∀ x, x ∈ l ↔ x ∈ ns) : l.length = cardI ns := by
  unfold cardI
  refine ((List.perm_ext_iff_of_nodup hn (firstMet_nd _)).mpr fun x => ?_).length_eq
  rw [hm, firstMet_mem]
  constructor
  · intro hx
    obtain ⟨j, hj, e⟩ := List.mem_iff_getElem.mp hx
    exact ⟨j, hj, by rw [List.getD_eq_getElem?_getD, List.getElem?_eq_getElem hj]; exact e⟩
  · rintro ⟨j, hj, e⟩
    rw [List.getD_eq_getElem?_getD, List.getElem?_eq_getElem hj] at e
    rw [← e]
    exact List.getElem_mem hj
theorem cardI_all {ns : List Int} : cardI ns = ns.length ↔ ns.Nodup := by
  constructor
  · intro e
    refine Classical.byContradiction fun hnd => ?_
    have := cardI_dup hnd
    omega
  · exact cardI_nodup
theorem cr_setTC (hc : X.calm = true) : CallR X (.type "set") (fun xs H Q => ∃ (p : Addr) (ns : List Int), xs = [.ref p] ∧ SqT X.K H p (ns.map V.int) ∧ ns.length ≤ 4000 ∧ ∀ a, H a = none → Q (.ref a) (upd H a (SetN a (cardI ns)))) := by
  intro pins s σ H xs us Q I r h
  obtain ⟨p, ns, rfl, hq, hl, q⟩ := h
  obtain ⟨u, rfl, ru⟩ := vals1 r
  cases (show u = Value.ref p from ru)
  obtain ⟨its, rv, pl, hz⟩ := I.tuple hq
  refine call_set_tupI ns (I.ok.hd hc) pl (by have := intsAre_of rv; simpa using this) (by unfold scanBound; omega) fun h' tk c hS hcl hk => ?_
  obtain ⟨o, es, ep, t, ho, hex, hd, _, nd, hm, _, hf, hn, _⟩ := hS
  have hlen := cardI_eq (ns := ns) nd fun x => by rw [← hm x]; simp
  rw [List.length_map, Array.length_toList] at hlen
  have new : ObjOk X.prog X.w (upd H s.heap.objs.size (SetN s.heap.objs.size (cardI ns))) h' s.heap.objs.size (SetN s.heap.objs.size (cardI ns)) :=
    ⟨⟨o, es, ep, t, ho, hex, hd, hf, hlen⟩, ⟨o, ho⟩, fun _ _ ⟨o, es, ep, t, r1, r2⟩ k => ⟨o, es, ep, t, k o r1, r2⟩⟩
  exact ⟨.ref s.heap.objs.size, _, I.laid (t' := tk) (fun b u e => hk b u e) (Nat.le_refl _) new, rfl, q _ (I.hok.fresh (Nat.le_refl _))⟩
end
section
variable {X : Cx} {F0 : Hp} {Γ : Gm} {L : Lg} {k : D → Lg → Prop} {a b : Expr} {pos p p2 cpos : Pos}
theorem ek_shr (h : EvK X F0 a Γ L fun x L1 => ∃ i, x = .int i ∧ EvK X F0 b Γ L1 fun y L2 => ∃ j, y = .int j ∧ 0 ≤ j ∧ k (.int (i / 2 ^ j.toNat)) L2) : EvK X F0 (.BinOp a .RShift b pos) Γ L k := ek_opI op_shr h
theorem ek_lensetTC (hc : X.calm = true) (hm : X.mg "len" = none) (hg : Gl X "len") (hm2 : X.mg "set" = none) (hg2 : Gl X "set") (h : EvK X F0 a Γ L fun x L1 => ∃ ns : List Int, x = .tup (dI ns) ∧ ns.length ≤ 4000 ∧ k (.int (cardI ns : Nat)) L1)
    (he : starEach [a] X.env = (false, eval a X.env) :: starEach [] X.env := by rfl) (hp : (backTo cpos (starEach [] X.env)).any (·.1) = false := by rfl) (he2 : starEach [.Call (.Name "set" p2) [a] [] cpos] X.env = (false, eval (.Call (.Name "set" p2) [a] [] cpos) X.env) :: starEach [] X.env := by rfl) (hp2 : (backTo pos (starEach [] X.env)).any (·.1) = false := by rfl) :
    EvK X F0 (.Call (.Name "len" p) [.Call (.Name "set" p2) [a] [] cpos] [] pos) Γ L k := fun F σ H Q E q =>
  wpE.of (pe_callB cr_lenS hg hm (by decide +kernel) (pa_cons (pe_callTy (cr_setTC hc) hg2 hm2 (by decide +kernel) (pa_cons we pa_nil he) (by decide) (by decide) he hp) pa_nil he2) (by decide) (by decide) he2 hp2)
    (h F σ H _ E fun x L1 F1 v H1 ⟨ns, e1, hl, h1⟩ E1 s1 r1 => by
      subst e1
      cases r1 with
      | tup hx rx =>
        have e := il_reps rx
        subst e
        exact ⟨_, ns, rfl, seqT E1.led.sub hx, hl, fun a ha => ⟨a, cardI ns, rfl, upd_same, by have := cardI_le (ns := ns); omega, q _ L1 _ _ _ h1 (E1.new ha) (s1.trans (same_new (E1.led.free ha))) .int⟩⟩)
theorem ek_sortedSet (hc : X.calm = true) (hm : X.mg "sorted" = none) (hg : Gl X "sorted") (hm2 : X.mg "set" = none) (hg2 : Gl X "set")
    (h : EvK X F0 a Γ L fun x L1 => ∃ ns U : List Int, AsL L1 x (dI ns) ∧ ns.length ≤ 4000 ∧ (∀ x ∈ ns, x ∈ U) ∧ U.length < 64 ∧ ∀ ns' : List Int, (∀ x, x ∈ ns' ↔ x ∈ ns) → ns'.Pairwise (· < ·) → ns'.length ≤ U.length → k (.lst (dI ns')) L1)
    (he : starEach [a] X.env = (false, eval a X.env) :: starEach [] X.env := by rfl) (hp : (backTo cpos (starEach [] X.env)).any (·.1) = false := by rfl) (he2 : starEach [.Call (.Name "set" p2) [a] [] cpos] X.env = (false, eval (.Call (.Name "set" p2) [a] [] cpos) X.env) :: starEach [] X.env := by rfl) (hp2 : (backTo pos (starEach [] X.env)).any (·.1) = false := by rfl) :
    EvK X F0 (.Call (.Name "sorted" p) [.Call (.Name "set" p2) [a] [] cpos] [] pos) Γ L k := fun F σ H Q E q =>
  wpE.of (pe_callB (cr_sortedSet hc) hg hm (by decide +kernel) (pa_cons (pe_callTy (cr_setLR hc) hg2 hm2 (by decide +kernel) (pa_cons we pa_nil he) (by decide) (by decide) he hp) pa_nil he2) (by decide) (by decide) he2 hp2)
    (h F σ H _ E fun x L1 F1 v H1 ⟨ns, U, as, hl, hU, hUl, h1⟩ E1 s1 r1 => by
      obtain ⟨p, xs, rfl, hx, rx⟩ := as.read E1.led r1
      have e := il_reps rx
      subst e
      refine ⟨p, ns, rfl, hx, hl, fun a c hcU ha => ?_⟩
      have hcl := hcU U hU
      have E2 := E1.new (o := SetO X.w a (fun j => decide (j ∈ ns)) c) ha
      refine ⟨a, _, c, rfl, upd_same, by omega, fun ns' p2 pw hmem hlen hn => ?_⟩
      exact q _ L1 _ _ _ (h1 ns' (fun x => by rw [hmem x]; simp) pw (by omega)) (E2.new hn) (s1.trans ((same_new (E1.led.free ha)).trans (same_new (E2.led.free hn)))) (.lst (.inl (.inl upd_same)) reps_il))
end
end Vs

set_option Elab.async false
set_option linter.all false
set_option maxRecDepth 100000
set_option maxHeartbeats 4000000
namespace Vs
open PySem PySem.Spec PyProof.Rows L2
section
variable {X : Cx} {F0 : Hp} {Γ : Gm} {L : Lg} {k : D → Lg → Prop} {e o : Expr} {pos apos cpos : Pos}
/-- .. the new list owned -/
theorem ek_sortedXO {p : Pos} (hu : X.A.units + 64 < cLine) (hm : X.mg "sorted" = none) (hg : Gl X "sorted") (h : EvK X F0 e Γ L fun x L1 => ∃ (α : Type) (bs : List α) (f : α → D) (enc : α → PyData), AsL L1 x (bs.map f) ∧ (∀ t ∈ bs, Dpd L1 (f t) (enc t)) ∧
      PySem.W.AllAlike (bs.map enc) ∧ PySem.W.Sortable (bs.map enc) ∧ (∀ t ∈ bs, (enc t).depth ≤ 20) ∧ ∀ p, k (.ref p) ((p, .lst ((bs.mergeSort (PySem.W.dataLe false enc)).map f)) :: L1))
    (he : starEach [e] X.env = (false, eval e X.env) :: starEach [] X.env := by rfl) (hpl : (backTo pos (starEach [] X.env)).any (·.1) = false := by rfl) : EvK X F0 (.Call (.Name "sorted" p) [e] [] pos) Γ L k := fun F σ H Q E q =>
  wpE.of (pe_callB (cr_sortedD hu) hg hm (by decide +kernel) (pa_cons we pa_nil he) (by decide) (by decide) he hpl) (h F σ H _ E fun x L1 F1 v H1 ⟨α, bs, f, enc, a, hd, h2, h3, h4, h1⟩ E1 s1 r1 => by
    obtain ⟨p, xs, rfl, hx, rx⟩ := a.read E1.led r1
    obtain ⟨hlen, hz⟩ := reps_zip rx
    refine ⟨p, xs, bs.map enc, rfl, hx, Dpds.dp E1.led (dpds_of hd) rx, h2, h3, fun d hd' => ?_, fun n hn => ?_⟩
    · obtain ⟨t, ht, rfl⟩ := List.mem_map.mp hd'
      exact h4 t ht
    · have hT : xs.zip (bs.map enc) = (bs.zip xs).map fun t => (t.2, enc t.1) := by
        clear h1 h2 h3 h4 hd hz rx hx a r1
        induction bs generalizing xs with
        | nil => cases xs <;> rfl
        | cons b bs ih =>
          cases xs with
          | nil => rfl
          | cons v vs => exact congrArg ((v, enc b) :: ·) (ih vs (Nat.succ.inj hlen))
      have e1 : ((xs.zip (bs.map enc)).mergeSort (PySem.W.dataLe false (·.2))).map (·.1) = ((bs.zip xs).mergeSort (PySem.W.dataLe false fun t => enc t.1)).map (·.2) := by
        rw [hT, ← PySem.W.sort_maps (r := PySem.W.dataLe false fun t : α × V => enc t.1) (fun t : α × V => (t.2, enc t.1)) (fun a _ b _ => rfl), List.map_map]
        rfl
      have e2 : (bs.mergeSort (PySem.W.dataLe false enc)).map f = ((bs.zip xs).mergeSort (PySem.W.dataLe false fun t => enc t.1)).map (fun t => f t.1) := by
        have e3 : (bs.zip xs).map (·.1) = bs := zip_fst hlen
        have e4 := PySem.W.sort_maps (r := PySem.W.dataLe false fun t : α × V => enc t.1) (s := PySem.W.dataLe false enc) (fun t : α × V => t.1) (l := bs.zip xs) (fun a _ b _ => rfl)
        rw [e3] at e4
        rw [← e4, List.map_map]
        rfl
      rw [e1]
      have hr : Reps X.K F1 ((bs.mergeSort (PySem.W.dataLe false enc)).map f) (((bs.zip xs).mergeSort (PySem.W.dataLe false fun t => enc t.1)).map (·.2)) := by
        rw [e2]
        exact reps_of (f := fun t : α × V => f t.1) (g := fun t : α × V => t.2) fun t ht => hz t ((List.mergeSort_perm _ _).mem_iff.mp ht)
      exact q _ _ F1 _ _ (h1 n) (E1.to (Same.refl F1) (E1.led.newL hn hr)) s1 .ref)
theorem ek_dget1 (hu : X.A.units + 64 < cLine) (h : EvK X F0 o Γ L fun x L1 => ∃ p kvs1, x = .ref p ∧ AsD F0 X.K L1 x kvs1 ∧ EvK X F0 e Γ L1 fun y L2 => ∃ kvs key, y = kD key ∧ AsD F0 X.K L2 (.ref p) kvs ∧ k ((atK key kvs).getD .non) L2)
    (hb : attributeBase o "get" X.env (eval o X.env) = eval o X.env := by rfl)
    (hfew : ((backTo cpos (starEach [e] X.env)).all (fun x => !x.1) && (backToKw cpos (keywordEach [] X.env)).all (fun x => x.1.isSome)
      && decide (([e] : List Expr).length + ([] : List Keyword).length + (if ([] : List Keyword).isEmpty then 0 else 1) < 30)) = true := by rfl)
    (hline : (apos.endLine == cpos.line) = true := by rfl) (ht : backTo cpos (starEach [e] X.env) = [(false, eval e X.env)] := by rfl) :
    EvK X F0 (.Call (.Attribute o "get" apos) [e] [] cpos) Γ L k := fun F σ H Q E q =>
  wpE.of (pe_dget1 (by omega) we we ⟨hb, hfew, hline, ht⟩) (h F σ H _ E fun x L1 F1 v H1 ⟨p, kvs1, e1, as1, h1⟩ E1 s1 r1 => by
    subst e1
    obtain ⟨p1, ps1, ev1, rd1, rp1⟩ := as1.read E1.ge E1.led r1
    cases r1
    cases ev1
    refine ⟨p, rfl, .inl ⟨ps1, rd1⟩, h1 F1 σ H1 _ E1 fun y L2 F2 u H2 ⟨kvs, key, e2, as, h3⟩ E2 s2 r2 => ?_⟩
    subst e2
    have e3 := kD_v r2
    subst e3
    obtain ⟨p2, ps, ev, rd, rp⟩ := as.read E2.ge E2.led .ref
    cases ev
    obtain ⟨ov, g, h4, h5⟩ := rd_get (k := key) rd rp
    refine ⟨ov, g, ?_⟩
    cases hd : atK key kvs with
    | none =>
      rw [hd] at h3 h5
      cases ov with
      | none => exact q _ L2 F2 _ H2 h3 E2 (s1.trans s2) .non
      | some _ => cases h5
    | some d =>
      obtain ⟨v', rfl, rv⟩ := h4 d hd
      rw [hd] at h3
      exact q _ L2 F2 _ H2 h3 E2 (s1.trans s2) rv)
end
end Vs

set_option Elab.async false
set_option linter.all false
set_option maxRecDepth 100000
set_option maxHeartbeats 4000000
namespace Vs
open PySem PySem.Spec PyProof.Rows L2
/-! ### t[::-1] of a tuple; xs.reverse() -/
section
variable {prog : Program} {w : World} {A : Around} {E : Value → Shared → Prop} {s : Shared}
theorem adj_rev (n : Nat) : Builtin.Slice.sliceAdjust none none (-1) (n : Int) = ((n : Int) - 1, -1) := by
  unfold Builtin.Slice.sliceAdjust
  simp
theorem plc_rev (n : Nat) : Builtin.Slice.slicePlaces ((n : Int) - 1) (-1) (-1) = n := by
  unfold Builtin.Slice.slicePlaces
  simp
  omega
theorem fm_someV {α β : Type} {f : α → Option β} {g : α → β} : ∀ {l : List α}, (∀ k ∈ l, f k = some (g k)) → l.filterMap f = l.map g
  | [], _ => rfl
  | x :: r, h => by
    rw [List.filterMap_cons, h x List.mem_cons_self, List.map_cons, fm_someV fun k hk => h k (List.mem_cons_of_mem _ hk)]
theorem pick_rev (xs : Array Value) : ((List.range xs.size).filterMap fun (k : Nat) => xs[(((xs.size : Int) - 1) + (k : Int) * (-1)).toNat]?).toArray = xs.toList.reverse.toArray := by
  congr 1
  refine List.ext_getElem? fun i => ?_
  have e : ∀ k ∈ List.range xs.size, xs[(((xs.size : Int) - 1) + (k : Int) * (-1)).toNat]? = some ((xs.toList.reverse).getD k .none) := fun k hk => by
    have hk := List.mem_range.mp hk
    have e1 : (((xs.size : Int) - 1) + (k : Int) * (-1)).toNat = xs.size - 1 - k := by omega
    rw [e1, List.getD_eq_getElem?_getD, List.getElem?_reverse (by rw [Array.length_toList]; exact hk), Array.length_toList, Array.getElem?_toList, Array.getElem?_eq_getElem (by omega)]
    rfl
  have e2 : ((List.range xs.size).filterMap fun (k : Nat) => xs[(((xs.size : Int) - 1) + (k : Int) * (-1)).toNat]?) = (List.range xs.size).map fun k => (xs.toList.reverse).getD k .none := by
    exact fm_someV e
  rw [e2, List.getElem?_map]
  by_cases hi : i < xs.size
  · rw [List.getElem?_range hi, Option.map_some, List.getD_eq_getElem?_getD, List.getElem?_eq_getElem (by rw [List.length_reverse, Array.length_toList]; exact hi)]
    rfl
  · rw [List.getElem?_eq_none (by rw [List.length_range]; omega), List.getElem?_eq_none (by rw [List.length_reverse, Array.length_toList]; omega)]
    rfl
theorem appl_rev {sl : Addr} {n : Nat} {u : Tok} {Q : Int × Int × Nat → Shared → Prop} (hs : s.heap.IsSliceOf sl .none .none (.int (-1) u)) (h : Q ((n : Int) - 1, -1, n) s) : wpAny (model prog w) A (Builtin.Slice.sliceApplied (.ref sl) (pure (n : Int))) Q E s := by
  obtain ⟨os, hos, hcs, hds⟩ := id hs
  unfold Builtin.Slice.sliceApplied Builtin.Slice.sliceFields
  refine wpAny_bind (wpAny_bind (wpAny_field hos hds (x := .none) rfl (wpAny_bind (wpAny_field hos hds (x := .none) rfl (wpAny_bind (wpAny_field hos hds (x := .int (-1) u) rfl (wpAny_pure ?_)))))))
  refine wpAny_bind (slicePart_int ?_)
  show wpAny _ _ (if ((-1 : Int) == 0) = true then _ else _) _ _ s
  rw [if_neg (by decide)]
  refine wpAny_bind (slicePart_none (wpAny_bind (slicePart_none (wpAny_bind (wpAny_pure ?_)))))
  show wpAny _ _ (match Builtin.Slice.sliceAdjust none none (-1) (n : Int) with | (lo, hi) => pure (lo, (-1 : Int), Builtin.Slice.slicePlaces lo hi (-1))) _ _ s
  rw [adj_rev n]
  show wpAny _ _ (pure ((n : Int) - 1, (-1 : Int), Builtin.Slice.slicePlaces ((n : Int) - 1) (-1) (-1))) _ _ s
  rw [plc_rev n]
  exact wpAny_pure h
theorem getItem_rev {t sl : Addr} {items : Array Value} {u : Tok} {Q : Value → Shared → Prop} (ht : IsTup s.heap t items) (hs : s.heap.IsSliceOf sl .none .none (.int (-1) u))
    (h : Q (.ref s.heap.objs.size) { s with heap := s.heap.push { cls := .type "tuple", data := .seq items.toList.reverse.toArray } }) (hsz : items.size ≤ sizeLine) : wpAny (model prog w) A (getItem (.ref t) (.ref sl)) Q E s := by
  have hdrop : sizeOk (.seq items.toList.reverse.toArray) := by
    show items.toList.reverse.toArray.size ≤ sizeLine
    rw [List.size_toArray, List.length_reverse, Array.length_toList]
    exact hsz
  obtain ⟨os, hos, hcs, hds⟩ := id hs
  have hTs : s.TypeIs (.ref sl) "slice" := ⟨os, hos, hcs⟩
  unfold getItem
  try with_reducible refine wpAny_holding ?_
  first | refine wpAny_bind (wpAny_pure ?_) | skip
  refine wpAny_bind (wpAny_sequenceKey ht.typeIs (by decide) ?_)
  refine wpAny_bind (wpAny_callSpecial?_slot (name := Str.ofString "__getitem__") ht.typeIs PyProof.Rows.slot_tuple_getitem
    (wpAny_call_entry PyProof.Rows.slot_tuple_getitem ht.typeIs entry_tuple_getitem ?_ (args_tuple_getitem _ _)))
  show wpAny _ _ (Builtin.Tuple.tupleItemsOf (.ref t) >>= _) _ _ s
  refine wpAny_bind (tupleItemsOf_ ht ?_)
  refine wpAny_bind (wpAny_typeOf hTs ?_)
  rw [if_pos (by decide)]
  refine wpAny_bind (appl_rev (n := items.size) hs ?_)
  have hno : ¬ (((items.size : Int) - 1 == 0 && (-1 : Int) == 1 && items.size == items.size) = true) := by simp
  show wpAny _ _ (if (((items.size : Int) - 1 == 0 && (-1 : Int) == 1 && items.size == items.size)) = true then _ else _) _ _ s
  rw [if_neg hno, pick_rev items]
  first
    | exact wpAny_bind (m := Builtin.Tuple.tupleExact _) (wpAny_newObj_type (wpAny_pure ⟨_, rfl, wpAny_pure h⟩) hdrop)
    | exact wpAny_bind (m := Builtin.Tuple.tupleExact _) (wpAny_newObj_type (wpAny_bind (wpAny_pure (wpAny_pure ⟨_, rfl, wpAny_pure h⟩))) hdrop)
    | exact wpAny_bind (wpAny_bind (m := Builtin.Tuple.tupleExact _) (wpAny_newObj_type (wpAny_pure (wpAny_pure ⟨_, rfl, wpAny_pure h⟩)) hdrop))
    | exact wpAny_bind (wpAny_bind (m := Builtin.Tuple.tupleExact _) (wpAny_newObj_type (wpAny_pure ⟨_, rfl, wpAny_pure h⟩) hdrop))
end
section
variable {X : Cx}
def tRevT (K : PySem.W.Frag) (te : TE) : TE := fun σ H Q => te σ H fun x H1 => ∃ a xs, x = .ref a ∧ SqT K H1 a xs ∧ ∀ p, H1 p = none → Q (.ref p) (upd H1 p (.tup xs.reverse))
theorem pe_revT {e : Expr} {te : TE} {k : Nat} {p1 p2 p3 pos : Pos} (he : PE X e te) : PE X (.Subscript e (.Slice none none (some (.UnaryOp .USub (.Constant (.int 1) k p1) p2)) p3) pos) (tRevT X.K te) := by
  refine ⟨fun pins s σ H Q I h => ?_⟩
  refine Subscript_ (thn (he.run pins s σ H _ I h) fun v s1 ⟨x, H1, I1, r1, q1⟩ => ?_)
  obtain ⟨a, xs, ex, hx, q⟩ := q1
  subst ex
  cases r1
  have hst : PO X (some (.UnaryOp .USub (.Constant (.int 1) k p1) p2)) (tPart (tUn (rU fun i => .int (-i)) (tC (.int 1)))) := po_some (pe_un un_neg pe_int)
  refine wpAny_Slice (thn (po_none.run pins s1 σ H1 (fun o H2 => o = none ∧ H2 = H1) I1 ⟨rfl, rfl⟩) fun vl s2 ⟨l, H2, I2, pl, el, e2⟩ => ?_)
  subst el e2
  refine thn (po_none.run pins s2 σ H2 (fun o H3 => o = none ∧ H3 = H2) I2 ⟨rfl, rfl⟩) fun vu s3 ⟨u, H3, I3, pu, eu, e3⟩ => ?_
  subst eu e3
  refine thn (hst.run pins s3 σ H3 (fun o H4 => o = some (-1) ∧ H4 = H3) I3 ⟨1, rfl, -1, rfl, rfl, rfl⟩) fun vs s4 ⟨o, H4, I4, ps, eo, e4⟩ => ?_
  subst eo e4
  cases pl
  cases pu
  obtain ⟨tk, rfl⟩ : ∃ tk, vs = Value.int (-1) tk := by
    cases ps
    exact ⟨_, rfl⟩
  have I5 : Inv X pins σ H4 { s4 with heap := s4.heap.push { cls := .type "slice", data := .fields #[.none, .none, .int (-1) tk] } } := I4.kept (t' := s4.toks) fun b ob q => Heap.get?_push_of_some _ q
  obtain ⟨its, r, ht, hz⟩ := I5.tuple hx
  have hlen := r.length
  show wpAny (model X.prog X.w) X.A (subscriptTail e (.Slice none none (some (.UnaryOp .USub (.Constant (.int 1) k p1) p2)) p3) (.ref a) (.ref s4.heap.objs.size)) (EP X pins σ Q) X.xe { s4 with heap := s4.heap.push { cls := .type "slice", data := .fields #[.none, .none, .int (-1) tk] } }
  refine tail_any (ops := [.ref a, .ref s4.heap.objs.size]) ht.typeIs (PyProof.Rows.slot_tuple_getitem.lookup) ?_ (by with_unfolding_all rfl)
  refine getItem_rev ht (Heap.IsSliceOf.new _ .none .none (.int (-1) tk)) ?_ (by rw [List.size_toArray]; omega)
  refine ⟨.ref _, _, I5.laid (t' := s4.toks) (o := .tup xs.reverse) (fun b ob q => Heap.get?_push_of_some _ q) (Nat.le_refl _) ?_, rfl, q _ (I5.hok.fresh (Nat.le_refl _))⟩
  exact ⟨by rw [List.length_reverse]; exact hz, _, r.reverse, IsTup.new _ _⟩
end
section
variable {X : Cx} {F0 : Hp} {Γ : Gm} {L : Lg} {k : D → Lg → Prop} {e o : Expr} {pos apos cpos : Pos}
theorem ek_revT {k2 : Nat} {p1 p3 p4 p2 : Pos} (h : EvK X F0 e Γ L fun x L1 => ∃ ds, x = .tup ds ∧ k (.tup ds.reverse) L1) :
    EvK X F0 (.Subscript e (.Slice none none (some (.UnaryOp .USub (.Constant (.int 1) k2 p1) p2)) p3) p4) Γ L k := fun F σ H Q E q =>
  wpE.of (pe_revT we) (h F σ H _ E fun x L1 F1 v H1 ⟨ds, e1, h1⟩ E1 s1 r1 => by
    subst e1
    cases r1 with
    | tup hx rx => exact ⟨_, _, rfl, seqT E1.led.sub hx, fun p hp => q _ L1 _ _ _ h1 (E1.new hp) (s1.trans (same_new (E1.led.free hp))) (.tup (.inl (.inl upd_same)) (rx.rev.mono (same_new (E1.led.free hp))))⟩)
theorem ek_revM (h : EvK X F0 o Γ L fun x L1 => ∃ p ds j L2, x = .ref p ∧ Get L1 j (p, C.lst ds) ∧ Put L1 j (p, C.lst ds.reverse) L2 ∧ k .non L2)
    (hbase : attributeBase o "reverse" X.env (eval o X.env) = eval o X.env := by rfl) (hline : (apos.endLine == cpos.line) = true := by rfl) :
    EvK X F0 (.Call (.Attribute o "reverse" apos) [] [] cpos) Γ L k := fun F σ H Q E q =>
  wpE.of (pe_bm0 PySem.F.plainAttrs_list PySem.F.slot_list_reverse PySem.F.type_list_reverse mt_reverse we hbase hline)
    (h F σ H _ E fun x L1 F1 v H1 ⟨p, ds, j, L2, e1, g, pt, h1⟩ E1 s1 r1 => by
      subst e1
      obtain ⟨xs, hx, rx⟩ := E1.led.lst g
      cases r1
      exact ⟨.inl ⟨rfl, xs, .inl (.inl hx)⟩, p, xs, rfl, rfl, hx, q _ L2 F1 _ _ h1 (E1.to (Same.refl F1) (E1.led.put g pt ⟨_, upd_same, rx.rev⟩)) s1 .non⟩)
end
end Vs

set_option Elab.async false
set_option linter.all false
set_option maxRecDepth 100000
set_option maxHeartbeats 4000000
namespace Vs
open PySem PySem.Spec PyProof.Rows L2
/-! ### tuple(reversed(t)), t a tuple -/
theorem nolen_rt : typeLookup (.type "reversed") "__len__" = pure none := by rw [typeLookup_type, builtinLookup_eq_fast]; kernel_rfl
theorem slot_rt_hint : Slot "reversed" "__length_hint__" "reversed.__length_hint__" :=
  .of (owner := "reversed") (n := "__length_hint__") (by rw [typeLookup_type, builtinLookup_eq_fast]; kernel_rfl) (by decide +kernel) (by decide +kernel) (by decide +kernel)
    (by first | exact .inl (by decide +kernel) | exact .inr (by decide +kernel)) (by rw [isSubtype_type]; kernel_rfl)
theorem entry_rt_hint : entryFor table "reversed.__length_hint__" = some Builtin.«reversed.__length_hint__» := entryFor_of_tree (by kernel_rfl)
theorem args_rt_hint (a : Value) : argsOk "reversed.__length_hint__" ⟨[a], []⟩ := by
  unfold argsOk; rw [signature?_of (id := "reversed.__length_hint__") (n := ['_', '_', 't', 'n', 'i', 'h', '_', 'h', 't', 'g', 'n', 'e', 'l', '_', '_']) (o := ['d', 'e', 's', 'r', 'e', 'v', 'e', 'r']) (by kernel_rfl) RT.owner_rt]; kernel_rfl
section
variable {prog : Program} {w : World} {A : Around} {E : Value → Shared → Prop} {s : Shared}
theorem hint_rt {it t : Addr} {items : Array Value} {Q : Bool → Shared → Prop} (hit : RT.IsRt s.heap it t ((items.size : Int) - 1)) (ht : IsTup s.heap t items) (hsz : items.size ≤ sizeLine)
    (hQ : ∀ b tk, Q b { s with toks := tk }) : wpAny (model prog w) A (Builtin.List.listLengthHint (.ref it)) Q E s := by
  obtain ⟨o, ho, hc, hd⟩ := id hit
  have hT := RT.IsRt.typeIs hit
  have hz := hsz
  rw [sizeLine_eq] at hz
  unfold Builtin.List.listLengthHint
  refine wpAny_bind (wpAny_specialOf hT nolen_rt ?_)
  show wpAny _ A (specialOf (Value.ref it) (Str.ofString "__length_hint__") >>= _) _ _ _
  refine wpAny_bind (wpAny_specialOf hT slot_rt_hint.lookup ?_)
  generalize hid : ("reversed.__length_hint__" : String) = id0
  wp_delta
  rw [show splitId id0 = some ("reversed", "__length_hint__") from by subst hid; decide +kernel]
  subst hid
  refine wpAny_bind (wpAny_isInstance (b := true) hT (by rw [isSubtype_type]; kernel_rfl) ?_)
  rw [if_neg (by decide)]
  try dsimp only
  rw [if_neg (by decide +kernel)]
  refine wpAny_bind (wpAny_rule ?_)
  refine wpAny_bind (wpAny_of_eq (slot_rt_hint.bind _) ?_)
  try dsimp only
  refine wpAny_bind (wpAny_attempt (wpAny_call_entry slot_rt_hint hT entry_rt_hint ?_ (args_rt_hint _)))
  unfold Builtin.«reversed.__length_hint__»
  refine wpAny_bind (wpAny_of_eq (a := Value.ref it) rfl ?_)
  refine wpAny_bind (wpAny_field ho hd (x := .ref t) rfl ?_)
  try dsimp only
  rw [if_neg (show ¬ ((Value.ref t == Value.none) = true) from by simp)]
  refine wpAny_bind (len_tuple ht (by omega) ?_)
  refine wpAny_bind (wpAny_of_eq (a := some (items.size : Int)) rfl ?_)
  try dsimp only
  refine wpAny_bind (wpAny_field (s := { s with toks := s.toks + 1 + 1 }) ho hd (x := rawInt ((items.size : Int) - 1)) rfl ?_)
  show wpAny _ _ (if (items.size : Int) < (items.size : Int) - 1 + 1 then _ else retInt ((items.size : Int) - 1 + 1)) _ _ _
  rw [if_neg (by omega), show (items.size : Int) - 1 + 1 = (items.size : Int) by omega]
  unfold retInt
  refine wpAny_bind (wpAny_mkInt ?_)
  refine wpAny_pure ⟨_, rfl, ?_⟩
  try dsimp only
  have ea : asInt? (Value.int (items.size : Int) (s.toks + 1 + 1)) = pure (some (items.size : Int)) := rfl
  rw [ea, pure_bind]
  generalize hn : (items.size : Int) = n at *
  have h1 : Builtin.List.listFitsIndex n = true := by rw [← hn]; exact fitsIndex_of (by omega) (by omega)
  have h2 : ¬ n < 0 := by omega
  have h3 : Builtin.List.listTooLong n.toNat = false := by rw [← hn, Int.toNat_natCast]; exact notLongL hsz
  simp only [h1, h2, h3, Bool.not_true, Bool.false_eq_true, if_false]
  exact wpAny_pure (hQ _ _)
theorem touch_list {S : Addr} {c₀ : Nat} {Q : Unit → Shared → Prop} (hS : s.heap.get? S = some { cls := .type "list", data := .seq #[] c₀ })
    (hQ : ∀ h' c', h'.get? S = some { cls := .type "list", data := .seq #[] c' } → Heap.SameBut S s.heap h' → Q () { s with heap := h' }) : wpAny (model prog w) A (Builtin.List.listTouch (.ref S)) Q E s := by
  unfold Builtin.List.listTouch
  refine wpAny_bind (listUpdate_at hS rfl ?_ (Nat.zero_le _) (by decide +kernel))
  have h2 := Heap.get?_update_self (Obj.mapSeq (·.push Value.none)) hS rfl
  refine listUpdate_at (s := { s with heap := s.heap.update S (Obj.mapSeq (·.push Value.none)) }) h2 rfl ?_ (by decide +kernel) (by decide +kernel)
  have h3 := Heap.get?_update_self (Obj.mapSeq (·.pop)) h2 rfl
  exact hQ _ _ h3 ((Heap.SameBut.update s.heap S _).trans (Heap.SameBut.update _ S _))
theorem tup_at {h h' : Heap} {t : Addr} {items : Array Value} (x : IsTup h t items) (e : ∀ o, h.get? t = some o → h'.get? t = some o) : IsTup h' t items := by
  obtain ⟨o, ho, r⟩ := x
  exact ⟨o, e o ho, r⟩
theorem room_any {b : Bool} {S : Addr} {c₀ : Nat} {α : Type} {k : Sem α} {Q : α → Shared → Prop} (hS : s.heap.get? S = some { cls := .type "list", data := .seq #[] c₀ })
    (h : ∀ h' c', h'.get? S = some { cls := .type "list", data := .seq #[] c' } → Heap.SameBut S s.heap h' → wpAny (model prog w) A k Q E { s with heap := h' }) :
    wpAny (model prog w) A (if b = true then (do rule "list.extend.makes-room"; Builtin.List.listTouch (.ref S); k) else k) Q E s := by
  cases b with
  | false => rw [if_neg (by decide)]; exact h s.heap c₀ hS (Heap.SameBut.refl S s.heap)
  | true =>
    rw [if_pos rfl]
    refine wpAny_bind (wpAny_rule (wpAny_bind (touch_list hS fun h' c' h1 h2 => h h' c' h1 h2)))
theorem walks_rt (hh : A.handled = none) (I t : Addr) (hne : t ≠ I) (items : Array Value) (hsz : items.size ≤ sizeLine) :
    Walks prog w A I [I, t] [I] items.size (fun i v => items[items.size - 1 - i]? = some v) (fun i h => i ≤ items.size ∧ RT.IsRt h I t ((items.size : Int) - 1 - (i : Int)) ∧ IsTup h t items) where
  sub := fun b hb => by simp at hb; simp [hb]
  frame := fun _ _ _ x hk => ⟨x.1, x.2.1.at fun o e => hk I (by simp) o e, tup_at x.2.2 fun o e => hk t (by simp) o e⟩
  item := fun i s Q E hi x hQ => by
    have e : (items.size : Int) - 1 - (i : Int) = ((items.size - 1 - i : Nat) : Int) := by omega
    have hit := x.2.1
    rw [e] at hit
    have hx : items[items.size - 1 - i]? = some (items[items.size - 1 - i]'(by omega)) := Array.getElem?_eq_getElem (by omega)
    refine RT.next_rt_item hit x.2.2 hx hsz fun h' hit' hs' => ?_
    have e2 : ((items.size - 1 - i : Nat) : Int) - 1 = (items.size : Int) - 1 - ((i + 1 : Nat) : Int) := by omega
    rw [e2] at hit'
    exact hQ _ h' _ hx ⟨hi, hit', tup_at x.2.2 fun o eo => (hs'.2 t hne).trans eo⟩ fun b o hb eo => hs'.extBut b o (fun h => hb (by simp [h])) eo
  done := fun s Q E x hQ => by
    have e : (items.size : Int) - 1 - (items.size : Int) = -1 := by omega
    have hit := x.2.1
    rw [e] at hit
    exact RT.next_rt_end hh hit fun h' he' => hQ h' s.toks fun b o hb eo => he' b o (fun h => hb (by simp [h])) eo
  self := fun _ _ _ _ x hQ => RT.iter_rt x.2.1 hQ
theorem collect_rt {it t : Addr} {items : Array Value} {Q : List Value → Shared → Prop} (hh : A.handled = none) (hit : RT.IsRt s.heap it t ((items.size : Int) - 1)) (ht : IsTup s.heap t items) (hne : t ≠ it) (hn : items.size ≤ sizeLine)
    (hQ : ∀ (h' : Heap) (tk : Nat) (acc : Array Value), (∀ b o, b ≠ it → s.heap.get? b = some o → h'.get? b = some o) → ItemsOf (fun i v => items[items.size - 1 - i]? = some v) acc items.size → Q acc.toList { s with heap := h', toks := tk }) :
    wpAny (model prog w) A (collect (.ref it)) Q E s := by
  have W := (walks_rt (prog := prog) (w := w) (A := A.in1) hh it t hne items hn).toS
  obtain ⟨oi, hoi, _⟩ := id hit
  obtain ⟨ol, hol, _⟩ := id ht
  have hSi : s.heap.objs.size ≠ it := Nat.ne_of_gt (Heap.lt_size hoi)
  have hSl : s.heap.objs.size ≠ t := Nat.ne_of_gt (Heap.lt_size hol)
  have hSf : s.heap.objs.size ∉ [it, t] := by simp only [List.mem_cons, List.not_mem_nil, or_false, not_or]; exact ⟨hSi, hSl⟩
  unfold collect
  refine wpAny_bind (wpAny_runValue (codeAny_builtin F.entry_proto_collect ?_))
  rw [Around.under_plainId F.plain_proto_collect _]
  show wpAny _ A.in1 (newList [] >>= fun l' => again (.builtin "list.__iadd__" ⟨[l', .ref it], []⟩)) _ _ s
  refine wpAny_bind (wpAny_newObj_type ?_)
  refine wpAny_pure ⟨plainId_quiet F.plain_list_iadd _, codeAny_builtin F.entry_list_iadd ?_⟩
  rw [Around.under_plainId F.plain_list_iadd _]
  have hS₁ : (s.heap.push { cls := .type "list", data := .seq ([] : List Value).toArray }).get? s.heap.objs.size = some { cls := .type "list", data := .seq ([] : List Value).toArray } := Heap.get?_push_size _ rfl
  have hit1 : RT.IsRt (s.heap.push { cls := .type "list", data := .seq ([] : List Value).toArray }) it t ((items.size : Int) - 1) := hit.at fun o e => Heap.get?_push_of_some _ e
  have ht1 : IsTup (s.heap.push { cls := .type "list", data := .seq ([] : List Value).toArray }) t items := tup_at ht fun o e => Heap.get?_push_of_some _ e
  have hT : ({ s with heap := s.heap.push { cls := .type "list", data := .seq ([] : List Value).toArray } } : Shared).TypeIs (.ref it) "reversed" := RT.IsRt.typeIs (s := { s with heap := s.heap.push { cls := .type "list", data := .seq ([] : List Value).toArray } }) hit1
  have h1 : Builtin.List.listSameRef (.ref s.heap.objs.size) (.ref it) = false := by simp [Builtin.List.listSameRef, hSi]
  show wpAny _ A.in1 (Builtin.List.listExtendWith (.ref s.heap.objs.size) (.ref it) (.ref s.heap.objs.size)) _ _ _
  unfold Builtin.List.listExtendWith
  refine wpAny_bind (wpAny_typeOf hT ?_)
  rw [if_neg (by rw [h1]; decide)]
  refine wpAny_bind (RT.iter_rt (s := { s with heap := s.heap.push { cls := .type "list", data := .seq ([] : List Value).toArray } }) hit1 ?_)
  refine wpAny_bind (wpAny_holding ?_)
  refine hint_rt (s := { s with heap := s.heap.push { cls := .type "list", data := .seq ([] : List Value).toArray } }) hit1 ht1 hn fun b tk => ?_
  refine room_any (s := { s with heap := s.heap.push { cls := .type "list", data := .seq ([] : List Value).toArray }, toks := tk }) hS₁ fun h2 c2 hS2 hsb => ?_
  have old : ∀ b o, b ≠ s.heap.objs.size → (s.heap.push { cls := .type "list", data := .seq ([] : List Value).toArray }).get? b = some o → h2.get? b = some o := fun b o hb e => (hsb.2 b hb).trans e
  have hit2 : RT.IsRt h2 it t ((items.size : Int) - 1) := hit1.at fun o e => old it o (Ne.symm hSi) e
  have ht2 : IsTup h2 t items := tup_at ht1 fun o e => old t o (Ne.symm hSl) e
  have e0 : ((items.size : Nat) : Int) - 1 - ((0 : Nat) : Int) = (items.size : Int) - 1 := by omega
  refine wpAny_pure ⟨plainId_quiet F.plain_extend_loop _, codeAny_extend_loopS W hn _ hSf _ items.size 0 _ _ _ rfl (Nat.zero_le _) ⟨Nat.zero_le _, by rw [e0]; exact hit2, ht2⟩ hS2 (ItemsOf.nil _) fun s' acc' c' hm hS' hacc => ?_⟩
  show wpAny _ A (load s.heap.objs.size >>= _) _ _ s'
  refine wpAny_bind (wpAny_load hS' ?_)
  refine wpAny_pure ?_
  rw [Moved.eq_with hm]
  refine hQ s'.heap s'.toks acc' (fun b o hb e => hm.heap b o (fun hmem => ?_) (old b o (Nat.ne_of_lt (Heap.lt_size e)) (Heap.get?_push_of_some _ e))) hacc
  rcases List.mem_cons.mp hmem with e' | hmem
  · exact absurd (Heap.lt_size e) (by rw [e']; exact Nat.lt_irrefl _)
  · exact hb (List.mem_singleton.mp hmem)
theorem code_tup_rt {it t : Addr} {items : Array Value} {Q₁ : Value → Shared → Prop} (hh : A.handled = none) (hit : RT.IsRt s.heap it t ((items.size : Int) - 1)) (ht : IsTup s.heap t items) (hne : t ≠ it) (hn : items.size ≤ sizeLine)
    (h : ∀ (h' : Heap) (tk : Nat) (acc : Array Value), (∀ b o, b ≠ it → s.heap.get? b = some o → h'.get? b = some o) → ItemsOf (fun i v => items[items.size - 1 - i]? = some v) acc items.size →
      Q₁ (.ref h'.objs.size) { s with heap := h'.push { cls := .type "tuple", data := .seq acc }, toks := tk }) :
    codeAny (model prog w) A (.call (.builtin "tuple.__new__") ⟨[.type "tuple", .ref it], []⟩) (wants Q₁ E) s := by
  refine codeAny_of_tree ?_
  show wpAny _ A.in1 (do checkBuiltinCall "tuple.__new__" ⟨[.type "tuple", .ref it], []⟩; again (.builtin "tuple.__new__" ⟨[.type "tuple", .ref it], []⟩)) _ _ s
  refine wpAny_bind (wpAny_of_eq (F.newCall_tuple_1 _) (wpAny_pure ⟨plainId_quiet F.plain_tuple_new _, codeAny_builtin F.entry_tuple_new ?_⟩))
  rw [Around.under_plainId F.plain_tuple_new _]
  have hsub := sub_tuple_self
  have hinit := init_tuple_lookup
  have hmh := madeHere_tuple
  have hTI := RT.IsRt.typeIs hit
  have hh1 : A.in1.handled = none := hh
  wp_walk using wpAny_typeOf hTI, collect_rt (A := A.in1) hh1 hit ht hne hn
  intro h' tk acc hk hacc
  show wpAny _ _ (Builtin.Tuple.tupleExact acc.toList.toArray >>= fun v => ret v) _ _ _
  unfold Builtin.Tuple.tupleExact
  refine wpAny_bind (wpAny_newObj_type ?_ (by show acc.toList.toArray.size ≤ sizeLine; simp only [Array.toArray_toList]; rw [hacc.1]; exact hn))
  refine wpAny_pure ?_
  have e : acc.toList.toArray = acc := by simp
  rw [e]
  exact h h' tk acc hk hacc
theorem call_tup_rt {it t : Addr} {items : Array Value} {Q : Value → Shared → Prop} (hh : A.handled = none) (hit : RT.IsRt s.heap it t ((items.size : Int) - 1)) (ht : IsTup s.heap t items) (hne : t ≠ it) (hn : items.size ≤ sizeLine)
    (hQ : ∀ (h' : Heap) (tk : Nat) (acc : Array Value), (∀ b o, b ≠ it → s.heap.get? b = some o → h'.get? b = some o) → ItemsOf (fun i v => items[items.size - 1 - i]? = some v) acc items.size →
      Q (.ref h'.objs.size) { s with heap := h'.push { cls := .type "tuple", data := .seq acc }, toks := tk }) :
    wpAny (model prog w) A (call (.type "tuple") [.ref it]) Q E s := by
  refine callType_codes (Q₁ := fun obj s₁ => s₁.TypeIs obj "tuple" ∧ Q obj s₁) F.called_tuple (F.typeCall_tuple_1 _) F.entry_object_init
    (code_tup_rt (A := A.in1) hh hit ht hne hn fun h' tk acc hk hacc => ⟨⟨_, Heap.get?_push_size _ rfl, rfl⟩, hQ h' tk acc hk hacc⟩) fun obj s₁ h₁ => ?_
  exact ⟨h₁.1, F.args_object_init_2 obj _, object_init_meets F.called_tuple.init.lookup F.called_tuple.made (by decide) prog w A.in1 _ s₁ ⟨h₁.1, rfl, h₁.2⟩⟩
end
def tTupRevT (K : PySem.W.Frag) (te : TE) : TE := fun σ H Q => te σ H fun v H1 => ∃ (a : Addr) (xs : List V), v = .ref a ∧ SqT K H1 a xs ∧ ∀ q, H1 q = none → Q (.ref q) (upd H1 q (.tup xs.reverse))
theorem pe_tupRevT {X : Cx} {e : Expr} {te : TE} {p p2 pos pos2 : Pos} (hc : X.calm = true) (hg : Gl X "tuple") (hm : X.mg "tuple" = none) (hg2 : Gl X "reversed") (hm2 : X.mg "reversed" = none) (he : PE X e te)
    (hs : starEach [e] X.env = (false, eval e X.env) :: starEach [] X.env := by rfl)
    (hs2 : starEach [.Call (.Name "reversed" p2) [e] [] pos2] X.env = (false, eval (.Call (.Name "reversed" p2) [e] [] pos2) X.env) :: starEach [] X.env := by rfl) :
    PE X (.Call (.Name "tuple" p) [.Call (.Name "reversed" p2) [e] [] pos2] [] pos) (tTupRevT X.K te) := by
  refine ⟨fun pins s σ H Q I h => ?_⟩
  refine Call_ (ld_blt I hg hm boot_tuple (PyProof.Rows.callWith_type1 (args_cons (Call_ (ld_blt I hg2 hm2 PyProof.Rows.boot_reversed (PyProof.Rows.callWith_type1 (args_cons (thn (he.run pins s σ H _ I h) fun u s1 ⟨v, H1, I1, r1, q1⟩ => args_nil ?_) hs) hs rfl))) hs2) hs2 rfl))
  obtain ⟨a, xs, ev, hq, q⟩ := q1
  subst ev
  obtain rfl : u = Value.ref a := r1
  obtain ⟨its, rv, p', hz⟩ := I1.tuple hq
  have hzs := hz
  rw [sizeLine_eq] at hzs
  have hn : its.toArray.size ≤ sizeLine := by rw [List.size_toArray, ← rv.length]; exact hz
  have hn2 := hn
  rw [sizeLine_eq] at hn2
  refine RT.call_reversed_tup p' (fun A E Q k => len_tuple p' (by omega) k) (args_nil ?_)
  have k0 : ∀ b o, s1.heap.get? b = some o → (s1.heap.push (RT.rtObj a ((its.toArray.size : Int) - 1))).get? b = some o := fun b o e => Heap.get?_push_of_some _ e
  have I2 : L2.Inv X pins σ H1 { s1 with heap := s1.heap.push (RT.rtObj a ((its.toArray.size : Int) - 1)), toks := s1.toks + 1 + 1 } := I1.kept (t' := s1.toks + 1 + 1) k0
  obtain ⟨f0, f1, f2, f3, f4, f5⟩ := I1.fpOk (H' := H1) (b := s1.heap.objs.size) (Nat.le_refl _) (I1.hok.fresh (Nat.le_refl _))
  obtain ⟨ol, hol, _⟩ := id p'
  have hne : a ≠ s1.heap.objs.size := Nat.ne_of_lt (Heap.lt_size hol)
  refine call_tup_rt (s := { s1 with heap := s1.heap.push (RT.rtObj a ((its.toArray.size : Int) - 1)), toks := s1.toks + 1 + 1 }) (I1.ok.hd hc) ⟨_, Heap.get?_push_size _ rfl, rfl, rfl⟩ (tup_at p' fun o e => k0 a o e) hne hn fun h' tk acc hk hi => ?_
  have I3 : L2.Inv X pins σ H1 { s1 with heap := h', toks := tk } := I2.turned (t' := tk) (fun b o hb e => hk b o hb e) f0 f1 f3 f4 f5
  refine ⟨.ref h'.objs.size, upd H1 h'.objs.size (.tup xs.reverse), I3.laid (t' := tk) (fun c o e => Heap.get?_push_of_some _ e) (Nat.le_refl _) (show ObjOk X.prog X.w _ _ _ (.tup xs.reverse) from ⟨by rw [List.length_reverse]; exact hz, acc.toList, RT.vals_rev rv hi, ?_⟩), rfl, q _ (I3.hok.fresh (Nat.le_refl _))⟩
  rw [Array.toArray_toList]
  exact IsTup.new _ _
section
variable {X : Cx} {F0 : Hp} {Γ : Gm} {L : Lg} {k : D → Lg → Prop} {e : Expr} {pos p p2 pos2 : Pos}
theorem ek_tupRevT (hc : X.calm = true) (hm : X.mg "tuple" = none) (hg : Gl X "tuple") (hm2 : X.mg "reversed" = none) (hg2 : Gl X "reversed") (h : EvK X F0 e Γ L fun x L1 => ∃ ds, x = .tup ds ∧ k (.tup ds.reverse) L1)
    (hs : starEach [e] X.env = (false, eval e X.env) :: starEach [] X.env := by rfl)
    (hs2 : starEach [.Call (.Name "reversed" p2) [e] [] pos2] X.env = (false, eval (.Call (.Name "reversed" p2) [e] [] pos2) X.env) :: starEach [] X.env := by rfl) :
    EvK X F0 (.Call (.Name "tuple" p) [.Call (.Name "reversed" p2) [e] [] pos2] [] pos) Γ L k := fun F σ H Q E q =>
  wpE.of (pe_tupRevT hc hg hm hg2 hm2 we hs hs2) (h F σ H _ E fun x L1 F1 v H1 ⟨ds, e1, h1⟩ E1 s1 r1 => by
    subst e1
    cases r1 with
    | tup hx rx => exact ⟨_, _, rfl, seqT E1.led.sub hx, fun p hp => q _ L1 _ _ _ h1 (E1.new hp) (s1.trans (same_new (E1.led.free hp))) (.tup (.inl (.inl upd_same)) (rx.rev.mono (same_new (E1.led.free hp))))⟩)
end
end Vs

set_option Elab.async false
set_option linter.all false
set_option maxRecDepth 100000
set_option maxHeartbeats 4000000
namespace Vs
open PySem PySem.Spec PyProof.Rows L2
/-! ### xs[i], .. = d, .. -/
section
variable {X : Cx} {F0 : Hp} {Γ : Gm} {L : Lg} {k : Gm → Lg → Prop} {es : List Expr} {ds : List D} {d : D} {o i : Expr} {p' : Pos}
theorem tn_s (h : EvK X F0 o Γ L fun x L2 => EvK X F0 i Γ L2 fun z L3 => ∃ p xs n j m L4, x = .ref p ∧ z = .int n ∧ Get L3 m (p, C.lst xs) ∧ ixN xs.length n = some j ∧ Put L3 m (p, C.lst (xs.set j d)) L4 ∧ TnK X F0 es ds Γ L4 k)
    (ha : ∀ v, assign (.Subscript o i p') X.env v = (do let ov ← holding [v] (eval o X.env); let iv ← holding [v, ov] (eval i X.env); standAt p'; holding [v, ov, iv] (setItem ov iv v); release [v, ov, iv] []) := by intros; rfl)
    (hs : (assignEach (.Subscript o i p' :: es) X.env).map (·.2) = assign (.Subscript o i p') X.env :: (assignEach es X.env).map (·.2) := by rfl) : TnK X F0 (.Subscript o i p' :: es) (d :: ds) Γ L k := fun F σ H us Q E r q => by
  cases r with
  | cons r rr =>
    refine wpGs.of (pgs_cons (pg_sub we we set_list ha) wgs hs) ⟨_, _, rfl, ?_⟩
    refine h F σ H _ E fun x L2 F2 u H2 h2 E2 s2 r2 => h2 F2 σ H2 _ E2 fun z L3 F3 w H3 ⟨p, xs, n, j, m, L4, e1, e2, g, hj, pt, h3⟩ E3 s3 r3 => ?_
    subst e1 e2
    cases r2
    cases r3
    obtain ⟨vs, hx, rx⟩ := E3.led.lst g
    refine ⟨p, vs, n, j, rfl, rfl, hx, by rw [← rx.length]; exact hj, ?_⟩
    exact h3 F3 σ _ _ Q (E3.to (Same.refl F3) (E3.led.put g pt ⟨_, upd_same, rx.set (r.mono (s2.trans s3)) j⟩)) (rr.mono (s2.trans s3)) q
end
end Vs

set_option Elab.async false
set_option linter.all false
set_option maxRecDepth 100000
set_option maxHeartbeats 4000000
namespace Vs
open PySem PySem.Spec PyProof.Rows L2
/-! ### d.setdefault(k, x), [.. for x in d.values()], a == b == c, d == {} -/
section
variable {X : Cx} {F0 : Hp} {Γ : Gm} {L : Lg} {k : D → Lg → Prop} {kt : Bool → Lg → Prop} {o e f a b c tg : Expr} {apos cpos pos : Pos}
theorem ek_dsetd (h : EvK X F0 o Γ L fun x L1 => ∃ p kvs1 j1, x = .ref p ∧ Get L1 j1 (p, C.dic kvs1) ∧ EvK X F0 e Γ L1 fun y L2 => EvK X F0 f Γ L2 fun z L3 => ∃ kvs key j, y = kD key ∧ Get L3 j (p, C.dic kvs) ∧ kvs.length < sizeLine ∧
      (∀ d, atK key kvs = some d → k d L3) ∧ (atK key kvs = none → ∃ L4, Put L3 j (p, C.dic (putB kvs key z)) L4 ∧ k z L4))
    (hb : attributeBase o "setdefault" X.env (eval o X.env) = eval o X.env := by rfl)
    (hfew : ((backTo cpos (starEach [e, f] X.env)).all (fun x => !x.1) && (backToKw cpos (keywordEach [] X.env)).all (fun x => x.1.isSome)
      && decide (([e, f] : List Expr).length + ([] : List Keyword).length + (if ([] : List Keyword).isEmpty then 0 else 1) < 30)) = true := by rfl)
    (hline : (apos.endLine == cpos.line) = true := by rfl) (ht : backTo cpos (starEach [e, f] X.env) = [(false, eval e X.env), (false, eval f X.env)] := by rfl) :
    EvK X F0 (.Call (.Attribute o "setdefault" apos) [e, f] [] cpos) Γ L k := fun F σ H Q E q =>
  wpE.of (pe_dsetd we we we ⟨hb, hfew, hline, ht⟩) (h F σ H _ E fun x L1 F1 v H1 ⟨p, kvs1, j1, e1, g1, h1⟩ E1 s1 r1 => by
    subst e1
    cases r1
    obtain ⟨_, ps1, a1, b1⟩ := E1.led.ent _ g1.mem
    refine ⟨p, rfl, .inl ⟨ps1, .inl a1⟩, h1 F1 σ H1 _ E1 fun y L2 F2 u H2 h2 E2 s2 r2 => h2 F2 σ H2 _ E2 fun z L3 F3 w H3 ⟨kvs, key, j, e2, g, hz, h3, h4⟩ E3 s3 r3 => ?_⟩
    subst e2
    have e3 := kD_v r2
    subst e3
    obtain ⟨_, ps, a3, b3⟩ := E3.led.ent _ g.mem
    refine ⟨ps, key, a3, rfl, by rw [← b3.length]; exact hz, fun v hv => ?_, fun hv => ?_⟩
    · cases hd : atK key kvs with
      | none => rw [b3.val.2 hd] at hv; cases hv
      | some d =>
        obtain ⟨v', e4, r4⟩ := b3.val.1 d hd
        rw [e4] at hv
        cases hv
        exact q d L3 F3 v H3 (h3 d hd) E3 (s1.trans (s2.trans s3)) r4
    · cases hd : atK key kvs with
      | some d =>
        obtain ⟨v', e4, r4⟩ := b3.val.1 d hd
        rw [e4] at hv
        cases hv
      | none =>
        obtain ⟨L4, pt, hk⟩ := h4 hd
        exact q z L4 F3 w _ hk (E3.to (Same.refl F3) (E3.led.put g pt ⟨_, upd_same, b3.putK r3⟩)) (s1.trans (s2.trans s3)) r3)
theorem vals_get {K : PySem.W.Frag} {F : Hp} {kvs : List (Key × D)} {ps : List (Key × V)} {i : Nat} {key : Key} {v : V} (r : RepP K F kvs ps) : ps[i]? = some (key, v) → ∃ d, (kvs.map (·.2))[i]? = some d ∧ Rep K F d v := by
  induction r generalizing i with
  | nil => intro z; cases i <;> cases z
  | cons r t ih =>
    intro z
    cases i with
    | zero => cases z; exact ⟨_, rfl, r⟩
    | succ i => exact ih z
/-- what is walked in a comprehension: the values of a locked dict -/
theorem eip_vals {kl : List D → Lg → Prop} (h : EvK X F0 a Γ L fun x L1 => ∃ p kvs, x = .ref p ∧ Lok F0 X.K p kvs ∧ kl (kvs.map (·.2)) L1) (hbase : attributeBase a "values" X.env (eval a X.env) = eval a X.env := by rfl) (hline : (apos.endLine == cpos.line) = true := by rfl) :
    EiP X F0 tg (.Call (.Attribute a "values" apos) [] [] cpos) Γ L kl := fun F σ H R E q =>
  wpI.of (pi_values we hbase hline) (h F σ H _ E fun x L1 F1 v H1 ⟨p, kvs, e1, lk, h1⟩ E1 s1 r1 => by
    subst e1
    cases r1
    obtain ⟨od, ps, hf, hr⟩ := lk
    have rd : ∀ {F' : Hp} {L' : Lg} {H' : Hp}, Same F1 F' → Led X.K F' L' H' → H' p = some (.frz od (.dK ps)) := fun s l => l.sub _ _ (s _ _ (E1.ge _ _ hf))
    refine ⟨p, od, ps, rfl, rd (Same.refl F1) E1.led, q (kvs.map (·.2)) L1 F1 H1 _ h1 E1 s1 ⟨?_, ?_, ?_⟩⟩
    · intro i H F' L' hi s l
      refine ⟨rd s l, ?_⟩
      rw [← hr.length]
      have : (kvs.map (·.2)).length = kvs.length := List.length_map _
      omega
    · rintro i H x H' F' L' s l ⟨rfl, key, hk⟩ hi
      obtain ⟨d, hd, rd2⟩ := vals_get hr hk
      exact ⟨d, F', hd, Same.refl F', l, rd2.mono (E1.ge.trans s)⟩
    · intro i H F' L' hi s l
      refine ⟨rd s l, ?_⟩
      rw [← hr.length]
      have : (kvs.map (·.2)).length = kvs.length := List.length_map _
      omega)
/-- a == b == c, of data -/
theorem ek_chD (hu : X.A.units + 64 < cLine) (h : EvK X F0 a Γ L fun x L1 => EvK X F0 b Γ L1 fun y L2 => ∃ d e, Dpd L2 x d ∧ Dpd L2 y e ∧ SeqAt.shaped d = true ∧ SeqAt.shaped e = true ∧
      (PyData.eqv d e = true → EvK X F0 c Γ L2 fun z L3 => ∃ e2 f, Dpd L3 y e2 ∧ Dpd L3 z f ∧ SeqAt.shaped e2 = true ∧ SeqAt.shaped f = true ∧ k (.bl (PyData.eqv e2 f)) L3) ∧ (PyData.eqv d e = false → k (.bl false) L2))
    (hm : lastMarks [.Eq, .Eq] [b, c] = false := by with_unfolding_all rfl) : EvK X F0 (.Compare a [.Eq, .Eq] [b, c] pos) Γ L k := fun F σ H Q E q =>
  wpE.of (pe_chain (op_eqD hu) (op_eqD hu) we we we hm) (h F σ H _ E fun x L1 F1 v H1 h1 E1 s1 r1 => h1 F1 σ H1 _ E1 fun y L2 F2 u H2 ⟨d, e, d1, d2, z1, z2, h2, h3⟩ E2 s2 r2 => by
    refine ⟨d, e, d1.dp E2.led (r1.mono s2), d2.dp E2.led r2, z1, z2, _, rfl, ?_⟩
    cases hg : PyData.eqv d e with
    | true =>
      rw [if_pos rfl]
      exact h2 hg F2 σ H2 _ E2 fun z L3 F3 w H3 ⟨e2, f, d3, d4, z3, z4, h4⟩ E3 s3 r3 => ⟨e2, f, d3.dp E3.led (r2.mono s3), d4.dp E3.led r3, z3, z4, q _ L3 F3 _ H3 h4 E3 (s1.trans (s2.trans s3)) .bl⟩
    | false =>
      rw [if_neg Bool.false_ne_true]
      exact q _ L2 F2 _ H2 (h3 hg) E2 (s1.trans s2) .bl)
/-- d == {}, d empty -/
theorem ek_eqD0 (hu : X.A.units + 64 < cLine) (h : EvK X F0 a Γ L fun x L1 => EvK X F0 b Γ L1 fun y L2 => ∃ p p2 j j2, x = .ref p ∧ y = .ref p2 ∧ Get L2 j (p, C.dic []) ∧ Get L2 j2 (p2, C.dic []) ∧ k (.bl true) L2) (hm : behindInMarks .Eq b = false := by rfl) :
    EvK X F0 (.Compare a [.Eq] [b] pos) Γ L k := fun F σ H Q E q =>
  wpE.of (pe_cmpR (op_eq_dictA (by omega)) we we hm) (h F σ H _ E fun x L1 F1 v H1 h1 E1 s1 r1 => h1 F1 σ H1 _ E1 fun y L2 F2 u H2 ⟨p, p2, j, j2, e1, e2, g1, g2, h2⟩ E2 s2 r2 => by
    subst e1 e2
    cases r1
    cases r2
    obtain ⟨_, ps1, a1, b1⟩ := E2.led.ent _ g1.mem
    obtain ⟨_, ps2, a2, b2⟩ := E2.led.ent _ g2.mem
    cases b1
    cases b2
    exact ⟨p, p2, [], [], rfl, rfl, a1, a2, rfl, (fun p hp => nomatch hp), q _ L2 F2 _ H2 h2 E2 (s1.trans s2) .bl⟩)
end
end Vs

set_option Elab.async false
set_option linter.all false
set_option maxRecDepth 100000
set_option maxHeartbeats 4000000
namespace Vs
open PySem PySem.Spec PyProof.Rows L2
/-! ### dicts whose keys are tuples of any depth -/
mutual
inductive DkN : D → NestedKey → Prop
  | non : DkN .non .none
  | int {i : Int} : DkN (.int i) (.num i)
  | str {x : Str} : DkN (.str x) (.text x)
  | tup {ds : List D} {ks : List NestedKey} : DkNs ds ks → DkN (.tup ds) (.tup ks)
inductive DkNs : List D → List NestedKey → Prop
  | nil : DkNs [] []
  | cons {d : D} {k : NestedKey} {ds : List D} {ks : List NestedKey} : DkN d k → DkNs ds ks → DkNs (d :: ds) (k :: ks)
end
mutual
theorem DkN.eq : ∀ {d : D} {k : NestedKey}, DkN d k → d = nkD k
  | _, _, .non => rfl
  | _, _, .int => rfl
  | _, _, .str => rfl
  | _, _, .tup h => by rw [DkNs.eq h]; rfl
theorem DkNs.eq : ∀ {ds : List D} {ks : List NestedKey}, DkNs ds ks → ds = nkDs ks
  | _, _, .nil => rfl
  | _, _, .cons h t => by rw [DkN.eq h, DkNs.eq t]; rfl
end
mutual
theorem nk_dk : ∀ (k : NestedKey), DkN (nkD k) k
  | .none => .non
  | .num _ => .int
  | .text _ => .str
  | .tup ks => .tup (nks_dk ks)
theorem nks_dk : ∀ (ks : List NestedKey), DkNs (nkDs ks) ks
  | [] => .nil
  | k :: ks => .cons (nk_dk k) (nks_dk ks)
end
section
variable {X : Cx} {pins : List (Addr × Obj)} {σ : L2.St} {H F : Hp} {s : Shared}
mutual
theorem nk_is (I : Inv X pins σ H s) (sm : Same F H) : ∀ (k : NestedKey) {v : V} {u : Value}, Rep X.K F (nkD k) v → RelV v u → NestedIs s.heap k u
  | .none, _, _, r, h => by
    cases r
    cases h
    exact .none
  | .num i, _, _, r, h => by
    cases r
    obtain ⟨t, rfl⟩ := h
    exact .int i t
  | .text x, _, _, r, h => by
    cases r
    obtain ⟨t, rfl⟩ := h
    exact .text x t
  | .tup ks, _, _, r, h => by
    cases r with
    | tup hx rx =>
      cases h
      obtain ⟨its, rv, ⟨o, g, hc, n, hd⟩, _⟩ := I.tuple (seqT sm hx)
      exact .tup g hc hd (by simpa using nks_is I sm ks rx rv)
theorem nks_is (I : Inv X pins σ H s) (sm : Same F H) : ∀ (ks : List NestedKey) {vs : List V} {us : List Value}, Reps X.K F (nkDs ks) vs → Vals vs us → NestedAll s.heap ks us
  | [], _, _, r, h => by
    cases r
    cases h
    exact .nil
  | k :: ks, _, _, r, h => by
    cases r with
    | cons r t =>
      cases h with
      | cons h1 h2 => exact .cons (nk_is I sm k r h1) (nks_is I sm ks t h2)
end
end
section
variable {K : PySem.W.Frag} {F H : Hp} {kvs : List (NestedKey × D)} {xs : List (NestedKey × Addr × Value)} {k : NestedKey} {b : Addr} {u : Value} {d : D} {v : V}
theorem RepN.keys (r : RepN K F kvs xs) : xs.map (·.1) = kvs.map (·.1) := by
  induction r with
  | nil => rfl
  | cons _ _ _ _ _ ih => rw [List.map_cons, List.map_cons, ih]
theorem RepN.len (r : RepN K F kvs xs) : xs.length = kvs.length := by
  have := congrArg List.length r.keys
  simpa using this
theorem RepN.is (r : RepN K F kvs xs) : ∀ x ∈ xs, Rep K F (nkD x.1) (.ref x.2.1) ∧ x.1.depth ≤ 8 := by
  induction r with
  | nil => intro x hx; cases hx
  | cons r1 h1 _ _ _ ih =>
    intro x hx
    rcases List.mem_cons.mp hx with rfl | hx
    · exact ⟨r1, h1⟩
    · exact ih x hx
theorem RepN.at (r : RepN K F kvs xs) : (∀ d, atK k kvs = some d → ∃ b u v, atKey xs k = some (b, u) ∧ RelV v u ∧ Rep K F d v) ∧ (atK k kvs = none → atKey xs k = none) := by
  induction r with
  | nil => exact ⟨fun d h => (by cases h), fun _ => rfl⟩
  | @cons k2 b2 u2 d2 v2 ds xs r1 h1 r2 r3 t ih =>
    by_cases h : k2 = k
    · subst h
      refine ⟨fun d h => ?_, fun h => ?_⟩
      · unfold atK at h
        rw [if_pos rfl] at h
        cases h
        exact ⟨b2, u2, v2, by simp [atKey], r2, r3⟩
      · unfold atK at h
        rw [if_pos rfl] at h
        cases h
    · have e1 : atK k ((k2, d2) :: ds) = atK k ds := by
        show (if k2 = k then _ else _) = _
        rw [if_neg h]
      have e2 : atKey ((k2, b2, u2) :: xs) k = atKey xs k := by
        unfold atKey
        rw [List.find?_cons]
        simp [h]
      rw [e1, e2]
      exact ih
theorem RepN.smE (r : RepN K F kvs xs) : (atKey xs k).isSome = (atK k kvs).isSome := by
  obtain ⟨h1, h2⟩ := r.at (k := k)
  cases e : atK k kvs with
  | none => rw [h2 e]; rfl
  | some d =>
    obtain ⟨b, u, v, h, _⟩ := h1 d e
    rw [h]; rfl
theorem any_atK {κ : Type} [DecidableEq κ] {k : κ} : ∀ {kvs : List (κ × D)}, (kvs.any fun kv => decide (kv.1 = k)) = (atK k kvs).isSome
  | [] => rfl
  | (k2, d) :: kvs => by
    rw [List.any_cons, any_atK (kvs := kvs)]
    show _ = (if k2 = k then some d else atK k kvs).isSome
    by_cases h : k2 = k
    · rw [if_pos h]; simp [h]
    · rw [if_neg h]; simp [h]
theorem RepN.put (r : RepN K F kvs xs) (rk : Rep K F (nkD k) (.ref b)) (hk : k.depth ≤ 8) (ru : RelV v u) (rd : Rep K F d v) : RepN K F (putB kvs k d) (storedH xs k b u) := by
  unfold putB storedH
  rw [any_atK, r.smE]
  split
  · rename_i hs
    clear rk hs
    induction r with
    | nil => exact .nil
    | @cons k2 b2 u2 d2 v2 ds xs r1 h1 r2 r3 t ih =>
      rw [List.map_cons, List.map_cons]
      unfold putAt
      by_cases h : k2 = k
      · simp only [h, if_true]
        subst h
        exact .cons r1 h1 ru rd ih
      · simp only [h, if_false]
        exact .cons r1 h1 r2 r3 ih
  · rename_i hs
    clear hs
    induction r with
    | nil => exact .cons rk hk ru rd .nil
    | cons r1 h1 r2 r3 t ih =>
      rw [List.cons_append, List.cons_append]
      exact .cons r1 h1 r2 r3 ih
end
/-- the dict at a, in H -/
structure NkA (K : PySem.W.Frag) (w : World) (F H : Hp) (a : Addr) (kvs : List (NestedKey × D)) (xs : List (NestedKey × Addr × Value)) : Prop where
  rd : Rd H a (.ext (nkO w a xs))
  len : kvs.length ≤ sizeLine
  sm : (a == sysModules) = false
  nd : (kvs.map (·.1)).Nodup
  rp : RepN K F kvs xs
section
variable {X : Cx} {pins : List (Addr × Obj)} {σ : L2.St} {H F : Hp} {s : Shared} {a b : Addr} {kvs : List (NestedKey × D)} {xs : List (NestedKey × Addr × Value)} {k : NestedKey} {A : Around} {E : Value → Shared → Prop} {v : V} {u : Value} {d : D}
theorem NkA.dd (n : NkA X.K X.w F H a kvs xs) (I : Inv X pins σ H s) (sm : Same F H) : s.heap.DictOfH (nestedKind X.prog X.w) a xs := by
  obtain ⟨⟨o, es, ep, h1, h2, h3, h4⟩, _, _⟩ := (show ObjOk X.prog X.w H s.heap a (.ext (nkO X.w a xs)) from n.rd.ok I.hok)
  refine ⟨o, es, ep, h1, h2, h3, h4, fun x hx => ?_, ?_⟩
  · obtain ⟨r1, r2⟩ := n.rp.is x hx
    exact ⟨nk_is I sm x.1 r1 rfl, r2⟩
  · rw [n.rp.keys]; exact n.nd
theorem nk_key (I : Inv X pins σ H s) (sm : Same F H) (rk : Rep X.K F (nkD k) (.ref b)) (hk : k.depth ≤ 8) : (nestedKind X.prog X.w).is s.heap k b := ⟨nk_is I sm k rk rfl, hk⟩
theorem nk_room (hu : A.units + 64 < cLine) : (nestedKind X.prog X.w).room A.in1 := by
  show A.in1.units + 8 < cLine
  rw [Around.in1_units]
  omega
theorem n_getItem {Q : Value → Shared → Prop} (hu : A.units + 64 < cLine) (I : Inv X pins σ H s) (sm : Same F H) (n : NkA X.K X.w F H a kvs xs) (rk : Rep X.K F (nkD k) (.ref b)) (hk : k.depth ≤ 8) (hd : atK k kvs = some d)
    (h : ∀ v w' s', Inv X pins σ H s' → RelV v w' → Rep X.K F d v → Q w' s') : wpAny (model X.prog X.w) A (getItem (.ref a) (.ref b)) Q E s := by
  obtain ⟨b2, u, v, h1, h2, h3⟩ := n.rp.at.1 d hd
  refine wpAny_getItem_heap (nk_room hu) (nk_key I sm rk hk) (n.dd I sm) h1 ?_
  exact h v u _ (I.tok _) h2 h3
theorem n_in {Q : Value → Shared → Prop} (hu : A.units + 64 < cLine) (I : Inv X pins σ H s) (sm : Same F H) (n : NkA X.K X.w F H a kvs xs) (rk : Rep X.K F (nkD k) (.ref b)) (hk : k.depth ≤ 8)
    (h : ∀ s', Inv X pins σ H s' → Q (.bool (atK k kvs).isSome) s') : wpAny (model X.prog X.w) A (compareOp .In (.ref b) (.ref a)) Q E s := by
  refine wpAny_in_heap (nk_room hu) (nk_key I sm rk hk) n.sm (n.dd I sm) ?_
  rw [n.rp.smE]
  exact h _ (I.tok _)
theorem n_notIn {Q : Value → Shared → Prop} (hu : A.units + 64 < cLine) (I : Inv X pins σ H s) (sm : Same F H) (n : NkA X.K X.w F H a kvs xs) (rk : Rep X.K F (nkD k) (.ref b)) (hk : k.depth ≤ 8)
    (h : ∀ s', Inv X pins σ H s' → Q (.bool (!(atK k kvs).isSome)) s') : wpAny (model X.prog X.w) A (compareOp .NotIn (.ref b) (.ref a)) Q E s := by
  refine wpAny_notIn_heap (nk_room hu) (nk_key I sm rk hk) n.sm (n.dd I sm) ?_
  rw [n.rp.smE]
  exact h _ (I.tok _)
theorem n_get1 {Q : Value → Shared → Prop} (hu : A.units + 64 < cLine) (I : Inv X pins σ H s) (sm : Same F H) (n : NkA X.K X.w F H a kvs xs) (rk : Rep X.K F (nkD k) (.ref b)) (hk : k.depth ≤ 8)
    (h : ∀ v w' s', Inv X pins σ H s' → RelV v w' → Rep X.K F ((atK k kvs).getD .non) v → Q w' s') : wpAny (model X.prog X.w) A (call (.builtin "dict.get") [.ref a, .ref b]) Q E s := by
  have dd := n.dd I sm
  refine call_meetsIn PySem.F.slot_dict_get dd.typeIs PySem.F.entry_dict_get (PySem.F.args_dict_get_2 _ _) (meetsH_dict_get (nestedKind X.prog X.w) a b n.sm) ⟨nk_room hu, k, xs, nk_key I sm rk hk, dd, ?_⟩
  cases e : atK k kvs with
  | none =>
    rw [n.rp.at.2 e]
    rw [e] at h
    exact h .non _ _ (I.tok _) rfl .non
  | some d =>
    obtain ⟨b2, u, v, h1, h2, h3⟩ := n.rp.at.1 d e
    rw [h1]
    rw [e] at h
    exact h v u _ (I.tok _) h2 h3
theorem n_get2 {Q : Value → Shared → Prop} {z : D} {vz : V} {uz : Value} (hu : A.units + 64 < cLine) (I : Inv X pins σ H s) (sm : Same F H) (n : NkA X.K X.w F H a kvs xs) (rk : Rep X.K F (nkD k) (.ref b)) (hk : k.depth ≤ 8) (rz : Rep X.K F z vz) (ruz : RelV vz uz)
    (h : ∀ v w' s', Inv X pins σ H s' → RelV v w' → Rep X.K F ((atK k kvs).getD z) v → Q w' s') : wpAny (model X.prog X.w) A (call (.builtin "dict.get") [.ref a, .ref b, uz]) Q E s := by
  have dd := n.dd I sm
  refine call_meetsIn PySem.F.slot_dict_get dd.typeIs PySem.F.entry_dict_get (PySem.F.args_dict_get_3 _ _ _) (meetsH_dict_get_default (nestedKind X.prog X.w) a b n.sm uz) ⟨nk_room hu, k, xs, nk_key I sm rk hk, dd, ?_⟩
  cases e : atK k kvs with
  | none =>
    rw [n.rp.at.2 e]
    rw [e] at h
    exact h vz _ _ (I.tok _) ruz rz
  | some d =>
    obtain ⟨b2, u, v, h1, h2, h3⟩ := n.rp.at.1 d e
    rw [h1]
    rw [e] at h
    exact h v u _ (I.tok _) h2 h3
theorem nk_ext {h : Heap} {P : Program} {w : World} {H : Hp} (g : nkO w a xs h) : ObjOk P w H h a (.ext (nkO w a xs)) := by
  refine ⟨g, ?_, ?_⟩
  · obtain ⟨o, es, ep, h1, _⟩ := g
    exact ⟨o, h1⟩
  · rintro h1 h2 ⟨o, es, ep, g1, g2⟩ hk
    exact ⟨o, es, ep, hk _ g1, g2⟩
theorem n_setItem {Q : Unit → Shared → Prop} (hu : A.units + 64 < cLine) (I : Inv X pins σ H s) (sm : Same F H) (e : H a = some (.ext (nkO X.w a xs))) (n : NkA X.K X.w F H a kvs xs) (rk : Rep X.K F (nkD k) (.ref b)) (hk : k.depth ≤ 8) (ru : RelV v u) (rd : Rep X.K F d v)
    (h : ∀ s', Inv X pins σ (upd H a (.ext (nkO X.w a (storedH xs k b u)))) s' → ((putB kvs k d).map (·.1)).Nodup → RepN X.K F (putB kvs k d) (storedH xs k b u) → Q () s') : wpAny (model X.prog X.w) A (setItem (.ref a) (.ref b) u) Q E s := by
  have hz : xs.length ≤ sizeLine := by rw [n.rp.len]; exact n.len
  refine wpAny_setItem_heap (hsz := hz) (nk_room hu) (nk_key I sm rk hk) (n.dd I sm) fun h' dd' hs => ?_
  have rp' := n.rp.put rk hk ru rd
  obtain ⟨q, es, ep, hq, h2, h3, h4, h6, h5⟩ := dd'
  refine h _ ?_ (by rw [← rp'.keys]; exact h5) rp'
  exact d_write I (by rw [e]; exact True.intro) hs ⟨q, hq⟩ (nk_ext ⟨q, es, ep, hq, h2, h3, h4⟩)
theorem n_len {Q : Value → Shared → Prop} (I : Inv X pins σ H s) (sm : Same F H) (n : NkA X.K X.w F H a kvs xs) (h : ∀ t s', Inv X pins σ H s' → Q (.int kvs.length t) s') : wpAny (model X.prog X.w) A (call (.builtin "len") [.ref a]) Q E s := by
  have hz := n.len
  refine call_len_dictH n.sm (n.dd I sm) (by rw [n.rp.len]; rw [sizeLine_eq] at hz; omega) ?_
  rw [n.rp.len]
  exact h _ _ (I.tok _)
end
end Vs

set_option Elab.async false
set_option linter.all false
set_option maxRecDepth 100000
set_option maxHeartbeats 4000000
namespace Vs
open PySem PySem.Spec PyProof.Rows L2
/-! ### rules of the hand layer's kind for dicts with nested keys -/
def tNGet (X : Cx) (td ty : TE) : TE := fun σ H Q => td σ H fun x H1 => ty σ H1 fun y H2 => ∃ a b kvs xs k d F, x = .ref a ∧ y = .ref b ∧ Same F H2 ∧ NkA X.K X.w F H2 a kvs xs ∧ Rep X.K F (nkD k) (.ref b) ∧ k.depth ≤ 8 ∧ atK k kvs = some d ∧ ∀ v, Rep X.K F d v → Q v H2
def tNIn (X : Cx) (g : Bool → Bool) (ty td : TE) : TE := fun σ H Q => ty σ H fun y H1 => td σ H1 fun x H2 => ∃ a b kvs xs k F, x = .ref a ∧ y = .ref b ∧ Same F H2 ∧ NkA X.K X.w F H2 a kvs xs ∧ Rep X.K F (nkD k) (.ref b) ∧ k.depth ≤ 8 ∧ Q (.bl (g (atK k kvs).isSome)) H2
def sNPut (X : Cx) (td ty tv : TE) : TS := fun D σ H => tv σ H fun v H1 => td σ H1 fun x H2 => ty σ H2 fun y H3 => ∃ a b kvs xs k d F, x = .ref a ∧ y = .ref b ∧ Same F H3 ∧ H3 a = some (.ext (nkO X.w a xs)) ∧ NkA X.K X.w F H3 a kvs xs ∧ Rep X.K F (nkD k) (.ref b) ∧ k.depth ≤ 8 ∧ Rep X.K F d v ∧
  ∀ xs', ((putB kvs k d).map (·.1)).Nodup → RepN X.K F (putB kvs k d) xs' → D.nx σ (upd H3 a (.ext (nkO X.w a xs')))
def tNNew (X : Cx) : TE := fun _ H Q => ∀ p, H p = none → (p == sysModules) = false → Q (.ref p) (upd H p (.ext (nkO X.w p [])))
def tNGet1 (X : Cx) (td ty : TE) : TE := fun σ H Q => td σ H fun x H1 => ∃ a, x = .ref a ∧ (∃ F kvs xs, Same F H1 ∧ NkA X.K X.w F H1 a kvs xs) ∧ ty σ H1 fun y H2 => ∃ b kvs xs k F, y = .ref b ∧ Same F H2 ∧ NkA X.K X.w F H2 a kvs xs ∧ Rep X.K F (nkD k) (.ref b) ∧ k.depth ≤ 8 ∧ ∀ v, Rep X.K F ((atK k kvs).getD .non) v → Q v H2
def tNGet2 (X : Cx) (td ty tz : TE) : TE := fun σ H Q => td σ H fun x H1 => ∃ a, x = .ref a ∧ (∃ F kvs xs, Same F H1 ∧ NkA X.K X.w F H1 a kvs xs) ∧ ty σ H1 fun y H2 => tz σ H2 fun z H3 => ∃ b kvs xs k F dz, y = .ref b ∧ Same F H3 ∧ NkA X.K X.w F H3 a kvs xs ∧ Rep X.K F (nkD k) (.ref b) ∧ k.depth ≤ 8 ∧ Rep X.K F dz z ∧ ∀ v, Rep X.K F ((atK k kvs).getD dz) v → Q v H3
section
variable {X : Cx} {o i e f value : Expr} {pos pos' tpos apos cpos : Pos} {td ty tv tz : TE}
theorem nk_ty {pins : List (Addr × Obj)} {σ : L2.St} {H F : Hp} {s : Shared} {a : Addr} {kvs : List (NestedKey × D)} {xs : List (NestedKey × Addr × Value)} (I : Inv X pins σ H s) (sm : Same F H) (n : NkA X.K X.w F H a kvs xs) :
    s.TypeIs (.ref a) "dict" ∧ ∀ b, Value.ref a = .ref b → ∃ ob, s.heap.get? b = some ob ∧ ob.dict = none := by
  have dd := n.dd I sm
  refine ⟨dd.typeIs, fun b q => ?_⟩
  cases q
  obtain ⟨ob, _, _, h1, h2, _⟩ := dd
  exact ⟨ob, h1, h2.2.1⟩
theorem pe_nget (hu : X.A.units + 64 < cLine) (ho : PE X o td) (hi : PE X i ty) (hs : NoSl i) : PE X (.Subscript o i pos) (tNGet X td ty) := by
  refine ⟨fun pins s σ H Q I h => ?_⟩
  refine subD_of PySem.F.slot_dict_getitem.lookup hs (thn (ho.run pins s σ H _ I h) fun u s1 ⟨x, H1, I1, rx, q1⟩ => thn (hi.run pins s1 σ H1 _ I1 q1) fun iv s2 ⟨y, H2, I2, ry, a, b, kvs, xs, k, d, F, ex, ey, sm, n, rk, hk, hd, q2⟩ => ?_)
  subst ex ey
  obtain rfl : u = Value.ref a := rx
  obtain rfl : iv = Value.ref b := ry
  exact ⟨(nk_ty I2 sm n).1, n_getItem hu I2 sm n rk hk hd fun v w' s3 I3 rw' rv => ⟨v, H2, I3, rw', q2 v rv⟩⟩
theorem pc_nin (hu : X.A.units + 64 < cLine) (hi : PE X i ty) (ho : PE X o td) : PC X .In i o (tNIn X (fun b => b) ty td) := by
  refine ⟨fun pins s σ H Q I h => ?_⟩
  refine thn (hi.run pins s σ H _ I h) fun iv s1 ⟨y, H1, I1, ry, q1⟩ => thn (ho.run pins s1 σ H1 _ I1 q1) fun u s2 ⟨x, H2, I2, rx, a, b, kvs, xs, k, F, ex, ey, sm, n, rk, hk, q2⟩ => ?_
  subst ex ey
  obtain rfl : u = Value.ref a := rx
  obtain rfl : iv = Value.ref b := ry
  exact n_in hu I2 sm n rk hk fun s3 I3 => ⟨.bl (atK k kvs).isSome, H2, I3, rfl, q2⟩
theorem pc_nnotin (hu : X.A.units + 64 < cLine) (hi : PE X i ty) (ho : PE X o td) : PC X .NotIn i o (tNIn X (fun b => !b) ty td) := by
  refine ⟨fun pins s σ H Q I h => ?_⟩
  refine thn (hi.run pins s σ H _ I h) fun iv s1 ⟨y, H1, I1, ry, q1⟩ => thn (ho.run pins s1 σ H1 _ I1 q1) fun u s2 ⟨x, H2, I2, rx, a, b, kvs, xs, k, F, ex, ey, sm, n, rk, hk, q2⟩ => ?_
  subst ex ey
  obtain rfl : u = Value.ref a := rx
  obtain rfl : iv = Value.ref b := ry
  exact n_notIn hu I2 sm n rk hk fun s3 I3 => ⟨.bl (!(atK k kvs).isSome), H2, I3, rfl, q2⟩
theorem ps_nput (hu : X.A.units + 64 < cLine) (ho : PE X o td) (hi : PE X i ty) (hv : PE X value tv) (hs : swapsWith value (some (.Subscript o i pos')) pos.line X.env = pure false) :
    PS X (.Assign [.Subscript o i pos'] value pos) (sNPut X td ty tv) := by
  refine ⟨fun pins s σ H D I h => ?_⟩
  refine wpAny_Assign_Subscript (thn (hv.run pins s σ H _ I h) fun r s1 ⟨v, H1, I1, rv, q1⟩ => thn (ho.run pins s1 σ H1 _ I1 q1) fun u s2 ⟨x, H2, I2, rx, q2⟩ => thn (hi.run pins s2 σ H2 _ I2 q2) fun iv s3 ⟨y, H3, I3, ry, a, b, kvs, xs, k, d, F, ex, ey, sm, e, n, rk, hk, rd, q3⟩ => ?_) hs
  subst ex ey
  obtain rfl : u = Value.ref a := rx
  obtain rfl : iv = Value.ref b := ry
  exact n_setItem hu I3 sm e n rk hk rv rd fun s4 I4 nd rp => ⟨σ, _, I4, q3 _ nd rp⟩
theorem pe_nnew : PE X (.Dict [] [] pos) (tNNew X) := ⟨fun pins s σ H Q I h =>
  wpAny_Dict_empty ⟨.ref s.heap.objs.size, _, I.laid (a := s.heap.objs.size) (o := .ext (nkO X.w s.heap.objs.size [])) (t' := s.toks) (fun _ _ q => Heap.get?_push_of_some _ q) (Nat.le_refl _)
    (nk_ext ⟨_, #[], 0, Heap.get?_push_size _ rfl, ⟨rfl, rfl, rfl⟩, rfl, rfl⟩), rfl, h _ (I.hok.fresh (Nat.le_refl _)) (beq_eq_false_iff_ne.mpr (Ne.symm (Nat.ne_of_lt I.big)))⟩⟩
theorem pe_nget1 (hu : X.A.units + 64 < cLine) (ho : PE X o td) (he : PE X e ty) (m : M1 X o "get" apos e cpos) : PE X (.Call (.Attribute o "get" apos) [e] [] cpos) (tNGet1 X td ty) := by
  refine ⟨fun pins s σ H Q I h => ?_⟩
  refine wpAny_Call_method m.base m.few m.line PySem.F.plainAttrs_dict PySem.F.slot_dict_get PySem.F.type_dict_get (thn (ho.run pins s σ H _ I h) fun u s1 ⟨x, H1, I1, rx, a, ex, ⟨F, kvs, xs, sm, n⟩, q1⟩ => ?_)
  subst ex
  obtain rfl : u = Value.ref a := rx
  obtain ⟨t1, t2⟩ := nk_ty I1 sm n
  refine ⟨t1, t2, ?_⟩
  rw [m.trees]
  refine Calls.callWith_builtin rfl (Calls.evalArgs_plain (Calls.spliced_cons (thn (he.run pins s1 σ H1 _ I1 q1) fun iv s2 ⟨y, H2, I2, ry, b, kvs, xs, k, F, ey, sm, n, rk, hk, q2⟩ => Calls.spliced_nil ?_)))
  subst ey
  obtain rfl : iv = Value.ref b := ry
  exact n_get1 hu I2 sm n rk hk fun v w' s3 I3 rw' rv => ⟨v, H2, I3, rw', q2 v rv⟩
theorem pe_nget2 (hu : X.A.units + 64 < cLine) (ho : PE X o td) (he : PE X e ty) (hf : PE X f tz) (m : M2 X o "get" apos e f cpos) : PE X (.Call (.Attribute o "get" apos) [e, f] [] cpos) (tNGet2 X td ty tz) := by
  refine ⟨fun pins s σ H Q I h => ?_⟩
  refine wpAny_Call_method m.base m.few m.line PySem.F.plainAttrs_dict PySem.F.slot_dict_get PySem.F.type_dict_get (thn (ho.run pins s σ H _ I h) fun u s1 ⟨x, H1, I1, rx, a, ex, ⟨F, kvs, xs, sm, n⟩, q1⟩ => ?_)
  subst ex
  obtain rfl : u = Value.ref a := rx
  obtain ⟨t1, t2⟩ := nk_ty I1 sm n
  refine ⟨t1, t2, ?_⟩
  rw [m.trees]
  refine Calls.callWith_builtin rfl (Calls.evalArgs_plain (Calls.spliced_cons (thn (he.run pins s1 σ H1 _ I1 q1) fun iv s2 ⟨y, H2, I2, ry, q2⟩ =>
    Calls.spliced_cons (thn (hf.run pins s2 σ H2 _ I2 q2) fun fv s3 ⟨z, H3, I3, rz, b, kvs, xs, k, F, dz, ey, sm, n, rk, hk, rdz, q3⟩ => Calls.spliced_nil ?_))))
  subst ey
  obtain rfl : iv = Value.ref b := ry
  exact n_get2 hu I3 sm n rk hk rdz rz fun v w' s4 I4 rw' rv => ⟨v, H3, I4, rw', q3 v rv⟩
def rLenN (X : Cx) : List V → Hp → VK → Prop := fun xs H Q => ∃ p kvs ys F, xs = [.ref p] ∧ Same F H ∧ NkA X.K X.w F H p kvs ys ∧ Q (.int (kvs.length : Int)) H
theorem call_lenN : CallR X (.builtin "len") (rLenN X) := by
  intro pins s σ H xs us Q I r h
  obtain ⟨p, kvs, ys, F, rfl, sm, n, q⟩ := h
  obtain ⟨u, rfl, rx⟩ := vals1 r
  obtain rfl : u = .ref p := rx
  exact n_len I sm n fun t s' I' => ⟨.int (kvs.length : Int), H, I', ⟨_, rfl⟩, q⟩
end
/-! walks -/
def Itn (d : Addr) (o : Obj) (w : World) (xs : List (NestedKey × Addr × Value)) : It :=
  ⟨fun i H => H d = some (.frz o (.ext (nkO w d xs))) ∧ i < xs.length, fun i H x H' => H' = H ∧ ∃ e, xs[i]? = some e ∧ x = .ref e.2.1, fun i H => H d = some (.frz o (.ext (nkO w d xs))) ∧ xs.length ≤ i⟩
section
variable {X : Cx} {pins : List (Addr × Obj)} {σ : L2.St} {H : Hp} {s : Shared} {d : Addr} {o : Obj} {w : World} {xs : List (NestedKey × Addr × Value)}
theorem Inv_frzN (I : Inv X pins σ H s) (h : H d = some (.frz o (.ext (nkO w d xs)))) : s.heap.get? d = some o ∧ o.ExactDict ∧ ∃ (es : Array DictEntry) (ep : Nat), o.data = .dict es ep ∧ es.toList = xs.map (nkE w) ∧ es.size = xs.length := by
  obtain ⟨hd, ⟨o', es, ep, ho, hx, hdt, he⟩, _, _⟩ := I.hok d _ h
  rw [hd] at ho
  cases ho
  refine ⟨hd, hx, es, ep, hdt, he, ?_⟩
  rw [← Array.length_toList, he, List.length_map]
end
section
variable {P : Program} {w0 : World} {K : PySem.W.Frag} {tg : Expr} {d : Addr} {o : Obj} {es : Array DictEntry} {ep : Nat}
theorem turn_keysN {w : World} {xs : List (NestedKey × Addr × Value)} (it : Addr) (hod : o.data = .dict es ep) : Turn P w0 K tg (Itn d o w xs) [it] it (fun i h => h.IsKeyIter it d i xs.length ep) where
  mem := by simp
  obj := fun i h st b hb => by
    have e : b = it := by simpa using hb
    subst e
    obtain ⟨oi, e, c, dd⟩ := st
    exact ⟨oi, e, fun v z => by rw [dd] at z; cases z⟩
  keep := fun i h h' st k => st.at fun oi e => k it (by simp) oi e
  item := by
    intro X hP hw hK hc i pins s σ H E I hf st hg
    subst hP hw hK
    obtain ⟨hd, hi⟩ := hg
    obtain ⟨f0, f1, f2, f3, f4, f5⟩ := hf it (by simp)
    obtain ⟨hgd, hx, es', ep', hdt, he, hsz⟩ := Inv_frzN I hd
    obtain ⟨rfl, rfl⟩ := dict_ep hod hdt
    have hen : es'[i]? = some (nkE w xs[i]) := by
      rw [← Array.getElem?_toList, he, List.getElem?_map, List.getElem?_eq_getElem hi]
      rfl
    refine next_key_item st hgd hdt hsz hen fun h' st' sb => ?_
    have I1 : Inv X pins σ H { s with heap := h' } := I.turned (t' := s.toks) (fun b ob hb e => (sb.2 b hb).trans e) f0 f1 f3 f4 f5
    obtain ⟨oi, e, c, dd⟩ := id st'
    exact ⟨_, rfl, go_of (s := { s with heap := h' }) e c dd (by decide) ⟨.ref xs[i].2.1, H, I1, rfl, ⟨rfl, xs[i], List.getElem?_eq_getElem hi, rfl⟩, st', fun b hb => (hf b hb).1⟩⟩
  done := by
    intro X hP hw hK hc i pins s σ H E I hf st hg
    subst hP hw hK
    obtain ⟨hd, hi⟩ := hg
    obtain ⟨f0, f1, f2, f3, f4, f5⟩ := hf it (by simp)
    obtain ⟨hgd, hx, es', ep', hdt, he, hsz⟩ := Inv_frzN I hd
    obtain ⟨rfl, rfl⟩ := dict_ep hod hdt
    exact next_key_end (I.ok.hd hc) st hgd hdt hsz hi fun h' eb => ⟨rfl, I.turned (t' := s.toks) (fun b ob hb e => eb b ob hb e) f0 f1 f3 f4 f5⟩
  self := fun A i s Q E st h => wpAny_pyIter_keyiter st h
end
def iKeysN (td : TE) : TI := fun σ H R => td σ H fun x H1 => ∃ d o w xs, x = .ref d ∧ (d == sysModules) = false ∧ H1 d = some (.frz o (.ext (nkO w d xs))) ∧ R (Itn d o w xs) H1
section
variable {X : Cx} {tg e : Expr} {td : TE}
theorem pi_keysN (he : PE X e td) : PI X tg e (iKeysN td) := by
  refine ⟨fun pins s σ H R I h => ?_⟩
  refine thn (he.run pins s σ H _ I h) fun u s1 ⟨x, H1, I1, rx, d, o, w, xs, ex, hs, hd, q⟩ => ?_
  subst ex
  obtain rfl : u = Value.ref d := rx
  obtain ⟨hgd, hx, es, ep, hdt, he2, hsz⟩ := Inv_frzN I1 hd
  refine iter_keys hs hgd hx hdt (pi_one (tk := s1.toks) I1 _ (turn_keysN _ hdt) ⟨_, Heap.get?_push_size _ rfl, rfl, ?_⟩ q)
  rw [hsz] <;> rfl
theorem call_list_dN (hc : X.calm = true) : CallR X (.type "list") (fun vs H Q => ∃ d w xs, vs = [V.ref d] ∧ (d == sysModules) = false ∧ Rd H d (.ext (nkO w d xs)) ∧ xs.length ≤ sizeLine ∧ ∀ p, H p = none → Q (.ref p) (upd H p (.lst (xs.map fun x => V.ref x.2.1)))) := by
  intro pins s σ H vs us Q I r h
  obtain ⟨d, w, ks, rfl, hs, hd, hz, q⟩ := h
  obtain ⟨u, rfl, rx⟩ := r.one
  cases rx
  obtain ⟨⟨o, es, ep, ho, hx, hdt, he⟩, _, _⟩ := (show ObjOk X.prog X.w H s.heap d (.ext (nkO w d ks)) from hd.ok I.hok)
  have l1 : es.size = ks.length := by rw [← Array.length_toList, he, List.length_map]
  refine PySem.W.kdl_call (kdl_raw hs hx hdt) (I.ok.hd hc) ho (by omega) fun h' tk acc' c' kp e it => ?_
  have ea : acc'.toList = ks.map fun x => Value.ref x.2.1 := by
    have hl : acc'.toList.length = ks.length := by rw [Array.length_toList, it.1]; exact l1
    apply List.ext_getElem?
    intro j
    rw [List.getElem?_map]
    cases hj : acc'.toList[j]? with
    | none =>
      have h1 := List.getElem?_eq_none_iff.mp hj
      rw [List.getElem?_eq_none (by omega)]
      all_goals rfl
    | some v =>
      obtain ⟨en, hen, hv⟩ := it.2 j v (by rw [← Array.getElem?_toList]; exact hj)
      have qe : es[j]? = (ks[j]?).map (nkE w) := by rw [← Array.getElem?_toList, he, List.getElem?_map]
      rw [hen] at qe
      cases hb : ks[j]? with
      | none =>
        rw [hb] at qe
        exact nomatch (show some en = none from qe)
      | some b =>
        rw [hb] at qe
        have e2 : en = nkE w b := Option.some.inj qe
        rw [hv, e2]
        all_goals rfl
  have rv : Vals (ks.map fun x => V.ref x.2.1) acc'.toList := by
    rw [ea]
    have : ∀ l : List (NestedKey × Addr × Value), Vals (l.map fun x => V.ref x.2.1) (l.map fun x => Value.ref x.2.1) := fun l => by
      induction l with
      | nil => exact .nil
      | cons x l ih => exact .cons rfl ih
    exact this ks
  have hz2 : (ks.map fun x => V.ref x.2.1).length ≤ sizeLine := by rw [List.length_map]; exact hz
  refine ⟨.ref s.heap.objs.size, _, I.laid (t' := tk) (o := .lst (ks.map fun x => V.ref x.2.1)) kp (Nat.le_refl _) ?_, rfl, q _ (I.hok.fresh (Nat.le_refl _))⟩
  exact ⟨hz2, acc'.toList, c', rv, by rw [Array.toArray_toList]; exact e⟩
end
end Vs

set_option Elab.async false
set_option linter.all false
set_option maxRecDepth 100000
set_option maxHeartbeats 4000000
namespace Vs
open PySem PySem.Spec PyProof.Rows L2
/-! ### dicts with nested keys: of the ledger, or locked -/
inductive AsN (F1 : Hp) (K : PySem.W.Frag) (w : World) (L : Lg) : D → List (NestedKey × D) → Prop
  | own {p : Addr} {kvs : List (NestedKey × D)} {j : Nat} : Get L j (p, C.dit w kvs) → AsN F1 K w L (.ref p) kvs
  | lok {p : Addr} {kvs : List (NestedKey × D)} {od : Obj} {xs : List (NestedKey × Addr × Value)} : F1 p = some (.frz od (.ext (nkO w p xs))) → kvs.length ≤ sizeLine → (p == sysModules) = false → (kvs.map (·.1)).Nodup → RepN K F1 kvs xs → AsN F1 K w L (.ref p) kvs
theorem AsN.read {K : PySem.W.Frag} {w : World} {F1 F H : Hp} {L : Lg} {x : D} {v : V} {kvs : List (NestedKey × D)} (a : AsN F1 K w L x kvs) (s : Same F1 F) (l : Led K F L H) (r : Rep K F x v) : ∃ p xs, v = .ref p ∧ NkA K w F H p kvs xs := by
  cases a with
  | own g =>
    cases r
    obtain ⟨_, xs, h1, h2, h3, h4, h5⟩ := l.ent _ g.mem
    exact ⟨_, xs, rfl, .inl h1, h2, h3, h4, h5⟩
  | lok h1 h2 h3 h4 h5 =>
    cases r
    exact ⟨_, _, rfl, .inr ⟨_, l.sub _ _ (s _ _ h1)⟩, h2, h3, h4, h5.mono s⟩
theorem AsN.app {F1 : Hp} {K : PySem.W.Frag} {w : World} {L M : Lg} {x : D} {kvs : List (NestedKey × D)} (a : AsN F1 K w L x kvs) : AsN F1 K w (L ++ M) x kvs := by
  cases a with
  | own g => exact .own g.app
  | lok h1 h2 h3 h4 h5 => exact .lok h1 h2 h3 h4 h5
theorem AsN.up {F0 F1 : Hp} {K : PySem.W.Frag} {w : World} {L : Lg} {x : D} {kvs : List (NestedKey × D)} (a : AsN F0 K w L x kvs) (s : Same F0 F1) : AsN F1 K w L x kvs := by
  cases a with
  | own g => exact .own g
  | lok h1 h2 h3 h4 h5 => exact .lok (s _ _ h1) h2 h3 h4 (h5.mono s)
/-- the datum is a tuple that is a key -/
structure KyT (y : D) (k : NestedKey) : Prop where
  dk : DkN y k
  tp : ∃ ds, y = .tup ds
  dp : k.depth ≤ 8
theorem KyT.rep {K : PySem.W.Frag} {F : Hp} {y : D} {k : NestedKey} {u : V} (h : KyT y k) (r : Rep K F y u) : ∃ b, u = .ref b ∧ Rep K F (nkD k) (.ref b) := by
  obtain ⟨ds, e⟩ := h.tp
  have e2 := h.dk.eq
  subst e
  cases r with
  | tup h1 h2 => exact ⟨_, rfl, by rw [← e2]; exact .tup h1 h2⟩
theorem KyT.of {ds : List D} {ks : List NestedKey} (h : DkNs ds ks) (hd : NestedKey.depthAll ks ≤ 7) : KyT (.tup ds) (.tup ks) := ⟨.tup h, ⟨_, rfl⟩, by simp only [NestedKey.depth]; omega⟩
section
variable {X : Cx} {F0 : Hp} {Γ : Gm} {L : Lg} {k : D → Lg → Prop} {ka : List D → Lg → Prop} {kt : Bool → Lg → Prop} {e a b c o i f : Expr} {es rest : List Expr} {pos p2 apos cpos p' : Pos} {N Nc : List Str} {sc : Scope} {Z : Xc → Gm → Lg → Prop}
theorem Led.newN {K : PySem.W.Frag} {w : World} {F H : Hp} {L : Lg} {p : Addr} (e : Led K F L H) (hp : H p = none) (hs : (p == sysModules) = false) : Led K F ((p, .dit w []) :: L) (upd H p (.ext (nkO w p []))) := ⟨e.sub.trans (same_new hp), by
    rw [List.map_cons]
    refine List.nodup_cons.mpr ⟨fun z => ?_, e.nod⟩
    obtain ⟨q, hq, z⟩ := List.mem_map.mp z
    exact e.nofr hp q hq z, fun q hq => by
    rcases List.mem_cons.mp hq with rfl | hq
    · exact ⟨e.free hp, [], upd_same, Nat.zero_le _, hs, List.nodup_nil, .nil⟩
    · obtain ⟨h1, h2⟩ := e.ent q hq
      exact ⟨h1, h2.mono (Same.refl F) (upd_ne (e.nofr hp q hq))⟩⟩
theorem ek_nnew (h : ∀ p, k (.ref p) ((p, .dit X.w []) :: L)) : EvK X F0 (.Dict [] [] pos) Γ L k := fun F σ H Q E q =>
  wpE.of pe_nnew fun p hp hs => q _ _ F _ _ (h p) (E.to (Same.refl F) (E.led.newN hp hs)) (Same.refl F) .ref
theorem ek_nget (hu : X.A.units + 64 < cLine) (h : EvK X F0 o Γ L fun x L1 => EvK X F0 i Γ L1 fun y L2 => ∃ kvs key d, AsN F0 X.K X.w L2 x kvs ∧ KyT y key ∧ atK key kvs = some d ∧ k d L2) (hs : NoSl i := by intro _ _; rfl) : EvK X F0 (.Subscript o i pos) Γ L k := fun F σ H Q E q =>
  wpE.of (pe_nget hu we we hs) (h F σ H _ E fun x L1 F1 v H1 h1 E1 s1 r1 => h1 F1 σ H1 _ E1 fun y L2 F2 u H2 ⟨kvs, key, d, as, ky, hd, h2⟩ E2 s2 r2 => by
    obtain ⟨p, xs, rfl, n⟩ := as.read E2.ge E2.led (r1.mono s2)
    obtain ⟨b, rfl, rk⟩ := ky.rep r2
    exact ⟨p, b, kvs, xs, key, d, F2, rfl, rfl, E2.led.sub, n, rk, ky.dp, hd, fun v rv => q d L2 F2 v H2 h2 E2 (s1.trans s2) rv⟩)
theorem ek_nin (hu : X.A.units + 64 < cLine) (h : EvK X F0 i Γ L fun y L1 => EvK X F0 o Γ L1 fun x L2 => ∃ kvs key, AsN F0 X.K X.w L2 x kvs ∧ KyT y key ∧ k (.bl (atK key kvs).isSome) L2) (hm : behindInMarks .In o = false := by rfl) : EvK X F0 (.Compare i [.In] [o] pos) Γ L k := fun F σ H Q E q =>
  wpE.of (pe_cmp (pc_nin hu we we) hm) (h F σ H _ E fun y L1 F1 v H1 h1 E1 s1 r1 => h1 F1 σ H1 _ E1 fun x L2 F2 u H2 ⟨kvs, key, as, ky, h2⟩ E2 s2 r2 => by
    obtain ⟨p, xs, rfl, n⟩ := as.read E2.ge E2.led r2
    obtain ⟨b, rfl, rk⟩ := ky.rep r1
    exact ⟨p, b, kvs, xs, key, F2, rfl, rfl, E2.led.sub, n, rk.mono s2, ky.dp, q _ L2 F2 _ H2 h2 E2 (s1.trans s2) .bl⟩)
theorem ek_nnotin (hu : X.A.units + 64 < cLine) (h : EvK X F0 i Γ L fun y L1 => EvK X F0 o Γ L1 fun x L2 => ∃ kvs key, AsN F0 X.K X.w L2 x kvs ∧ KyT y key ∧ k (.bl (!(atK key kvs).isSome)) L2) (hm : behindInMarks .NotIn o = false := by rfl) : EvK X F0 (.Compare i [.NotIn] [o] pos) Γ L k := fun F σ H Q E q =>
  wpE.of (pe_cmp (pc_nnotin hu we we) hm) (h F σ H _ E fun y L1 F1 v H1 h1 E1 s1 r1 => h1 F1 σ H1 _ E1 fun x L2 F2 u H2 ⟨kvs, key, as, ky, h2⟩ E2 s2 r2 => by
    obtain ⟨p, xs, rfl, n⟩ := as.read E2.ge E2.led r2
    obtain ⟨b, rfl, rk⟩ := ky.rep r1
    exact ⟨p, b, kvs, xs, key, F2, rfl, rfl, E2.led.sub, n, rk.mono s2, ky.dp, q _ L2 F2 _ H2 h2 E2 (s1.trans s2) .bl⟩)
theorem et_nin (hu : X.A.units + 64 < cLine) (h : EvK X F0 i Γ L fun y L1 => EvK X F0 o Γ L1 fun x L2 => ∃ kvs key, AsN F0 X.K X.w L2 x kvs ∧ KyT y key ∧ kt (atK key kvs).isSome L2) (hm : behindInMarks .In o = false := by rfl) : EtK X F0 (.Compare i [.In] [o] pos) Γ L kt := fun F σ H Q E q =>
  wpT.of (pt_cmp (pc_nin hu we we) hm) (h F σ H _ E fun y L1 F1 v H1 h1 E1 s1 r1 => h1 F1 σ H1 _ E1 fun x L2 F2 u H2 ⟨kvs, key, as, ky, h2⟩ E2 s2 r2 => by
    obtain ⟨p, xs, rfl, n⟩ := as.read E2.ge E2.led r2
    obtain ⟨b, rfl, rk⟩ := ky.rep r1
    exact ⟨p, b, kvs, xs, key, F2, rfl, rfl, E2.led.sub, n, rk.mono s2, ky.dp, _, rfl, q _ L2 F2 H2 h2 E2 (s1.trans s2)⟩)
theorem et_nnotin (hu : X.A.units + 64 < cLine) (h : EvK X F0 i Γ L fun y L1 => EvK X F0 o Γ L1 fun x L2 => ∃ kvs key, AsN F0 X.K X.w L2 x kvs ∧ KyT y key ∧ kt (!(atK key kvs).isSome) L2) (hm : behindInMarks .NotIn o = false := by rfl) : EtK X F0 (.Compare i [.NotIn] [o] pos) Γ L kt := fun F σ H Q E q =>
  wpT.of (pt_cmp (pc_nnotin hu we we) hm) (h F σ H _ E fun y L1 F1 v H1 h1 E1 s1 r1 => h1 F1 σ H1 _ E1 fun x L2 F2 u H2 ⟨kvs, key, as, ky, h2⟩ E2 s2 r2 => by
    obtain ⟨p, xs, rfl, n⟩ := as.read E2.ge E2.led r2
    obtain ⟨b, rfl, rk⟩ := ky.rep r1
    exact ⟨p, b, kvs, xs, key, F2, rfl, rfl, E2.led.sub, n, rk.mono s2, ky.dp, _, rfl, q _ L2 F2 H2 h2 E2 (s1.trans s2)⟩)
theorem sk_nput {ks : Ks} (hu : X.A.units + 64 < cLine) (h : EvK X F0 e Γ L fun v L1 => EvK X F0 o Γ L1 fun x L2 => EvK X F0 i Γ L2 fun y L3 => ∃ p kvs key j L4, x = .ref p ∧ Get L3 j (p, C.dit X.w kvs) ∧ KyT y key ∧ kvs.length < sizeLine ∧ Put L3 j (p, C.dit X.w (putB kvs key v)) L4 ∧ ks.nx Γ L4)
    (hs : swapsWith e (some (.Subscript o i p')) pos.line X.env = pure false := by rfl) : SK X F0 (.Assign [.Subscript o i p'] e pos) Γ L ks := fun F σ H Dn E q =>
  wpS.of (ps_nput hu we we we hs) (h F σ H _ E fun v L1 F1 u H1 h1 E1 s1 r1 => h1 F1 σ H1 _ E1 fun x L2 F2 u2 H2 h2 E2 s2 r2 => h2 F2 σ H2 _ E2 fun y L3 F3 u3 H3 ⟨p, kvs, key, j, L4, e1, g, ky, hz, pt, h3⟩ E3 s3 r3 => by
    subst e1
    cases r2
    obtain ⟨_, xs, g1, g2, g3, g4, g5⟩ := E3.led.ent _ g.mem
    obtain ⟨b, rfl, rk⟩ := ky.rep r3
    refine ⟨p, b, kvs, xs, key, v, F3, rfl, rfl, E3.led.sub, g1, ⟨.inl g1, g2, g3, g4, g5⟩, rk, ky.dp, r1.mono (s2.trans s3), fun xs' nd rp => ?_⟩
    exact q.nx Γ L4 F3 σ _ h3 (E3.to (Same.refl F3) (E3.led.put g pt ⟨xs', upd_same, Nat.le_trans putB_len hz, g3, nd, rp⟩)))
theorem ek_nget1 (hu : X.A.units + 64 < cLine) (h : EvK X F0 o Γ L fun x L1 => ∃ p kvs1, x = .ref p ∧ AsN F0 X.K X.w L1 x kvs1 ∧ EvK X F0 e Γ L1 fun y L2 => ∃ kvs key, KyT y key ∧ AsN F0 X.K X.w L2 (.ref p) kvs ∧ k ((atK key kvs).getD .non) L2)
    (hb : attributeBase o "get" X.env (eval o X.env) = eval o X.env := by rfl)
    (hfew : ((backTo cpos (starEach [e] X.env)).all (fun x => !x.1) && (backToKw cpos (keywordEach [] X.env)).all (fun x => x.1.isSome)
      && decide (([e] : List Expr).length + ([] : List Keyword).length + (if ([] : List Keyword).isEmpty then 0 else 1) < 30)) = true := by rfl)
    (hline : (apos.endLine == cpos.line) = true := by rfl) (ht : backTo cpos (starEach [e] X.env) = [(false, eval e X.env)] := by rfl) :
    EvK X F0 (.Call (.Attribute o "get" apos) [e] [] cpos) Γ L k := fun F σ H Q E q =>
  wpE.of (pe_nget1 hu we we ⟨hb, hfew, hline, ht⟩) (h F σ H _ E fun x L1 F1 v H1 ⟨p, kvs1, e1, as1, h1⟩ E1 s1 r1 => by
    obtain ⟨p1, ys, rfl, n1⟩ := as1.read E1.ge E1.led r1
    subst e1
    cases r1
    refine ⟨p, rfl, ⟨F1, kvs1, ys, E1.led.sub, n1⟩, h1 F1 σ H1 _ E1 fun y L2 F2 u H2 ⟨kvs, key, ky, as, h2⟩ E2 s2 r2 => ?_⟩
    obtain ⟨p2, xs, e2, n⟩ := as.read E2.ge E2.led .ref
    cases e2
    obtain ⟨b, rfl, rk⟩ := ky.rep r2
    exact ⟨b, kvs, xs, key, F2, rfl, E2.led.sub, n, rk, ky.dp, fun v rv => q _ L2 F2 v H2 h2 E2 (s1.trans s2) rv⟩)
theorem ek_nget2 (hu : X.A.units + 64 < cLine) (h : EvK X F0 o Γ L fun x L1 => ∃ p kvs1, x = .ref p ∧ AsN F0 X.K X.w L1 x kvs1 ∧ EvK X F0 e Γ L1 fun y L2 => EvK X F0 f Γ L2 fun z L3 => ∃ kvs key, KyT y key ∧ AsN F0 X.K X.w L3 (.ref p) kvs ∧ k ((atK key kvs).getD z) L3)
    (hb : attributeBase o "get" X.env (eval o X.env) = eval o X.env := by rfl)
    (hfew : ((backTo cpos (starEach [e, f] X.env)).all (fun x => !x.1) && (backToKw cpos (keywordEach [] X.env)).all (fun x => x.1.isSome)
      && decide (([e, f] : List Expr).length + ([] : List Keyword).length + (if ([] : List Keyword).isEmpty then 0 else 1) < 30)) = true := by rfl)
    (hline : (apos.endLine == cpos.line) = true := by rfl) (ht : backTo cpos (starEach [e, f] X.env) = [(false, eval e X.env), (false, eval f X.env)] := by rfl) :
    EvK X F0 (.Call (.Attribute o "get" apos) [e, f] [] cpos) Γ L k := fun F σ H Q E q =>
  wpE.of (pe_nget2 hu we we we ⟨hb, hfew, hline, ht⟩) (h F σ H _ E fun x L1 F1 v H1 ⟨p, kvs1, e1, as1, h1⟩ E1 s1 r1 => by
    obtain ⟨p1, ys, rfl, n1⟩ := as1.read E1.ge E1.led r1
    subst e1
    cases r1
    refine ⟨p, rfl, ⟨F1, kvs1, ys, E1.led.sub, n1⟩, h1 F1 σ H1 _ E1 fun y L2 F2 u H2 h2 E2 s2 r2 => h2 F2 σ H2 _ E2 fun z L3 F3 w H3 ⟨kvs, key, ky, as, h3⟩ E3 s3 r3 => ?_⟩
    obtain ⟨p2, xs, e2, n⟩ := as.read E3.ge E3.led .ref
    cases e2
    obtain ⟨b, rfl, rk⟩ := ky.rep r2
    exact ⟨b, kvs, xs, key, F3, z, rfl, E3.led.sub, n, rk.mono s3, ky.dp, r3, fun v rv => q _ L3 F3 v H3 h3 E3 (s1.trans (s2.trans s3)) rv⟩)
theorem ek_lenN {p : Pos} (hm : X.mg "len" = none) (hg : Gl X "len") (h : EvK X F0 e Γ L fun x L1 => ∃ kvs, AsN F0 X.K X.w L1 x kvs ∧ k (.int (kvs.length : Int)) L1)
    (he : starEach [e] X.env = (false, eval e X.env) :: starEach [] X.env := by rfl) (hpl : (backTo pos (starEach [] X.env)).any (·.1) = false := by rfl) : EvK X F0 (.Call (.Name "len" p) [e] [] pos) Γ L k := fun F σ H Q E q =>
  wpE.of (pe_callB call_lenN hg hm boot_len (pa_cons we pa_nil he) (by decide) (by decide) he hpl) (h F σ H _ E fun x L1 F1 v H1 ⟨kvs, as, h1⟩ E1 s1 r1 => by
    obtain ⟨p, xs, rfl, n⟩ := as.read E1.ge E1.led r1
    exact ⟨p, kvs, xs, F1, rfl, E1.led.sub, n, q _ L1 F1 _ H1 h1 E1 s1 .int⟩)
def keysN (kvs : List (NestedKey × D)) : List D := kvs.map fun kv => nkD kv.1
theorem keysN_reps {K : PySem.W.Frag} {F : Hp} {kvs : List (NestedKey × D)} {xs : List (NestedKey × Addr × Value)} (r : RepN K F kvs xs) : Reps K F (keysN kvs) (xs.map fun x => V.ref x.2.1) := by
  induction r with
  | nil => exact .nil
  | cons r1 _ _ _ _ ih => exact .cons r1 ih
theorem ek_listN {p : Pos} (hc : X.calm = true) (hm : X.mg "list" = none) (hg : Gl X "list") (h : EvK X F0 e Γ L fun x L1 => ∃ kvs, AsN F0 X.K X.w L1 x kvs ∧ k (.lst (keysN kvs)) L1)
    (he : starEach [e] X.env = (false, eval e X.env) :: starEach [] X.env := by rfl) (hpl : (backTo pos (starEach [] X.env)).any (·.1) = false := by rfl) : EvK X F0 (.Call (.Name "list" p) [e] [] pos) Γ L k := fun F σ H Q E q =>
  wpE.of (pe_callTy (call_list_dN hc) hg hm (by decide +kernel) (pa_cons we pa_nil he) (by decide) (by decide) he hpl) (h F σ H _ E fun x L1 F1 v H1 ⟨kvs, as, h1⟩ E1 s1 r1 => by
    obtain ⟨a, xs, rfl, n⟩ := as.read E1.ge E1.led r1
    exact ⟨a, X.w, xs, rfl, n.sm, n.rd, by rw [n.rp.len]; exact n.len, fun m hn => q _ L1 _ _ _ h1 (E1.new hn) (s1.trans (same_new (E1.led.free hn))) (.lst (.inl (.inl upd_same)) ((keysN_reps n.rp).mono (same_new (E1.led.free hn))))⟩)
end
/-! locked -/
section
variable {K : PySem.W.Frag} {F : Hp} {p : Addr} {od : Obj} {φ : Heap → Prop}
theorem SqL.delX (hp : F p = some (.frz od (.ext φ))) {a : Addr} {xs : List V} (h : SqL K F a xs) : SqL K (delH F p) a xs := by
  rcases h with (h | ⟨o, h⟩) | h
  · refine .inl (.inl ?_)
    rw [delH_ne]
    · exact h
    · intro z; subst z; rw [hp] at h; cases h
  · refine .inl (.inr ⟨o, ?_⟩)
    rw [delH_ne]
    · exact h
    · intro z; subst z; rw [hp] at h; cases h
  · exact .inr h
theorem SqT.delX (hp : F p = some (.frz od (.ext φ))) {a : Addr} {xs : List V} (h : SqT K F a xs) : SqT K (delH F p) a xs := by
  rcases h with (h | ⟨o, h⟩) | h
  · refine .inl (.inl ?_)
    rw [delH_ne]
    · exact h
    · intro z; subst z; rw [hp] at h; cases h
  · refine .inl (.inr ⟨o, ?_⟩)
    rw [delH_ne]
    · exact h
    · intro z; subst z; rw [hp] at h; cases h
  · exact .inr h
mutual
theorem Rep.delX (hp : F p = some (.frz od (.ext φ))) : ∀ {d : D} {v : V}, Rep K F d v → Rep K (delH F p) d v
  | _, _, .non => .non
  | _, _, .bl => .bl
  | _, _, .int => .int
  | _, _, .str => .str
  | _, _, .lst h r => .lst (SqL.delX hp h) (Reps.delX hp r)
  | _, _, .tup h r => .tup (SqT.delX hp h) (Reps.delX hp r)
  | _, _, .ref => .ref
  | _, _, .ty => .ty
  | _, _, .exc h x => .exc (by
    rw [delH_ne]
    · exact h
    · intro z
      subst z
      rw [hp] at h
      cases h
      obtain ⟨φ, z, _⟩ := x
      cases z) x
  | _, _, .exf h x hd r => .exf (by
    rw [delH_ne]
    · exact h
    · intro z
      subst z
      rw [hp] at h
      cases h
      obtain ⟨φ, z, _⟩ := x
      cases z) x (by
    rw [delH_ne]
    · exact hd
    · intro z
      subst z
      rw [hp] at hd
      cases hd) (Reps.delX hp r)
  | _, _, .rng h => .rng (by
    rw [delH_ne]
    · exact h
    · intro z; subst z; rw [hp] at h; cases h)
theorem Reps.delX (hp : F p = some (.frz od (.ext φ))) : ∀ {ds : List D} {vs : List V}, Reps K F ds vs → Reps K (delH F p) ds vs
  | _, _, .nil => .nil
  | _, _, .cons r t => .cons (Rep.delX hp r) (Reps.delX hp t)
end
theorem RepP.delX (hp : F p = some (.frz od (.ext φ))) {κ : Type} {ds : List (κ × D)} {vs : List (κ × V)} (r : RepP K F ds vs) : RepP K (delH F p) ds vs := by
  induction r with
  | nil => exact .nil
  | cons r t ih => exact .cons (r.delX hp) ih
theorem Slots.delX (hp : F p = some (.frz od (.ext φ))) {Γ : Gm} {σ : L2.St} (r : Slots K F Γ σ) : Slots K (delH F p) Γ σ := by
  induction r with
  | nil => exact .nil
  | no t ih => exact .no ih
  | so r t ih => exact .so (r.delX hp) ih
theorem RepN.delX (hp : F p = some (.frz od (.ext φ))) {ds : List (NestedKey × D)} {xs : List (NestedKey × Addr × Value)} (r : RepN K F ds xs) : RepN K (delH F p) ds xs := by
  induction r with
  | nil => exact .nil
  | cons r1 h1 r2 r3 _ ih => exact .cons (r1.delX hp) h1 r2 (r3.delX hp) ih
theorem CRep.delX (hp : F p = some (.frz od (.ext φ))) {H H' : Hp} {a : Addr} {c : C} (e : H' a = H a) (h : CRep K F H a c) : CRep K (delH F p) H' a c := by
  cases c with
  | lst ds => obtain ⟨xs, h1, h2⟩ := h; exact ⟨xs, e.trans h1, h2.delX hp⟩
  | obj c fs => obtain ⟨dx, qs, h1, h2⟩ := h; exact ⟨dx, qs, e.trans h1, h2.delX hp⟩
  | dic kvs => obtain ⟨qs, h1, h2⟩ := h; exact ⟨qs, e.trans h1, h2.delX hp⟩
  | dit w kvs => obtain ⟨xs, h1, h2, h3, h4, h5⟩ := h; exact ⟨xs, e.trans h1, h2, h3, h4, h5.delX hp⟩
end
/-- what is known of a locked dict -/
def LokN (F0 : Hp) (K : PySem.W.Frag) (w : World) (p : Addr) (kvs : List (NestedKey × D)) : Prop := ∃ od xs, F0 p = some (.frz od (.ext (nkO w p xs))) ∧ kvs.length ≤ sizeLine ∧ (p == sysModules) = false ∧ (kvs.map (·.1)).Nodup ∧ RepN K F0 kvs xs
theorem LokN.up {F0 F1 : Hp} {K : PySem.W.Frag} {w : World} {p : Addr} {kvs : List (NestedKey × D)} (h : LokN F0 K w p kvs) (s : Same F0 F1) : LokN F1 K w p kvs := by
  obtain ⟨od, xs, h1, h2, h3, h4, h5⟩ := h
  exact ⟨od, xs, s _ _ h1, h2, h3, h4, h5.mono s⟩
theorem LokN.as {F0 : Hp} {K : PySem.W.Frag} {w : World} {p : Addr} {kvs : List (NestedKey × D)} (h : LokN F0 K w p kvs) {L : Lg} : AsN F0 K w L (.ref p) kvs := by
  obtain ⟨od, xs, h1, h2, h3, h4, h5⟩ := h
  exact .lok h1 h2 h3 h4 h5
theorem Led.lockN {K : PySem.W.Frag} {w : World} {F H : Hp} {L L1 : Lg} {p : Addr} {kvs : List (NestedKey × D)} {j : Nat} (e : Led K F L H) (r : Rem L j (p, .dit w kvs) L1) : ∃ xs, H p = some (.ext (nkO w p xs)) ∧ kvs.length ≤ sizeLine ∧ (p == sysModules) = false ∧ (kvs.map (·.1)).Nodup ∧ RepN K F kvs xs ∧ F p = none ∧
    ∀ od, Led K (upd F p (.frz od (.ext (nkO w p xs)))) L1 (upd H p (.frz od (.ext (nkO w p xs)))) := by
  obtain ⟨hF, xs, h1, h2, h3, h4, h5⟩ := e.ent _ r.get.mem
  refine ⟨xs, h1, h2, h3, h4, h5, hF, fun od => ⟨fun b u z => ?_, (r.sub.map _).nodup e.nod, fun q hq => ?_⟩⟩
  · by_cases hb : b = p
    · subst hb; rw [upd_same] at z ⊢; exact z
    · rw [upd_ne hb] at z ⊢; exact e.sub b u z
  · obtain ⟨a1, a2⟩ := e.ent q (r.sub.subset hq)
    have ne := Rem.ne e.nod r q hq
    exact ⟨(upd_ne ne).trans a1, a2.mono (same_new hF) (upd_ne ne)⟩
theorem Led.unlockN {K : PySem.W.Frag} {w : World} {F H : Hp} {L : Lg} {p : Addr} {kvs : List (NestedKey × D)} {od : Obj} {xs : List (NestedKey × Addr × Value)} (e : Led K F L H) (hF : F p = some (.frz od (.ext (nkO w p xs)))) (h2 : kvs.length ≤ sizeLine) (h3 : (p == sysModules) = false) (h4 : (kvs.map (·.1)).Nodup) (rp : RepN K F kvs xs) :
    Led K (delH F p) ((p, .dit w kvs) :: L) (upd H p (.ext (nkO w p xs))) := by
  have ne : ∀ q ∈ L, q.1 ≠ p := fun q hq z => by
    have := (e.ent q hq).1
    rw [z, hF] at this
    cases this
  refine ⟨fun b u z => ?_, ?_, fun q hq => ?_⟩
  · by_cases hb : b = p
    · subst hb; rw [delH_at] at z; cases z
    · rw [delH_ne hb] at z; rw [upd_ne hb]; exact e.sub b u z
  · rw [List.map_cons]
    refine List.nodup_cons.mpr ⟨fun z => ?_, e.nod⟩
    obtain ⟨q, hq, z⟩ := List.mem_map.mp z
    exact ne q hq z
  · rcases List.mem_cons.mp hq with rfl | hq
    · exact ⟨delH_at, xs, upd_same, h2, h3, h4, rp.delX hF⟩
    · obtain ⟨a1, a2⟩ := e.ent q hq
      exact ⟨(delH_ne (ne q hq)).trans a1, a2.delX hF (upd_ne (ne q hq))⟩
section
variable {X : Cx} {F0 : Hp} {Γ : Gm} {L L1 : Lg} {e a tg : Expr} {st : Stmt} {body : List Stmt} {pos : Pos} {N Nc : List Str} {sc : Scope} {Z : Xc → Gm → Lg → Prop} {w : World} {p : Addr} {kvs : List (NestedKey × D)} {j : Nat}
/-- a dict with nested keys locked for one statement -/
theorem sk_lockN {k : Ks} (cf : Cf X N Nc sc F0 Z) (r : Rem L j (p, .dit w kvs) L1)
    (h : ∀ F1, Cf X N Nc sc F1 Z → LokN F1 X.K w p kvs → SK X F1 st Γ L1 ⟨fun Γ' L' => k.nx Γ' ((p, .dit w kvs) :: L'), fun d L' => k.rt d ((p, .dit w kvs) :: L'), fun Γ' L' => k.bk Γ' ((p, .dit w kvs) :: L'), fun Γ' L' => k.ct Γ' ((p, .dit w kvs) :: L')⟩) : SK X F0 st Γ L k := fun F σ H Dn E q => by
  obtain ⟨xs, h1, g2, g3, g4, h2, h3, hl⟩ := E.led.lockN r
  have hF0 : F0 p = none := E.ge.free h3
  refine wpS.of (ps_lock ws) ⟨p, .ext (nkO w p xs), h1, trivial, fun od => ?_⟩
  have s1 : Same F (upd F p (.frz od (.ext (nkO w p xs)))) := same_new h3
  have g01 : Same F0 (upd F p (.frz od (.ext (nkO w p xs)))) := E.ge.trans s1
  have E1 : At X.K (upd F p (.frz od (.ext (nkO w p xs)))) (upd F p (.frz od (.ext (nkO w p xs)))) Γ L1 σ (upd H p (.frz od (.ext (nkO w p xs)))) := ⟨Same.refl _, hl od, E.sl.mono s1⟩
  have out : ∀ {F2 : Hp} {Lb : Lg} {σ2 : L2.St} {H2 : Hp} {Γ2 : Gm}, At X.K (upd F p (.frz od (.ext (nkO w p xs)))) F2 Γ2 Lb σ2 H2 → H2 p = some (.frz od (.ext (nkO w p xs))) ∧ At X.K F0 (delH F2 p) Γ2 ((p, .dit w kvs) :: Lb) σ2 (upd H2 p (.ext (nkO w p xs))) := fun E2 => by
    have hp2 := E2.ge _ _ upd_same
    exact ⟨E2.led.sub _ _ hp2, same_del (g01.trans E2.ge) hF0, E2.led.unlockN hp2 g2 g3 g4 (h2.mono (s1.trans E2.ge)), E2.sl.delX hp2⟩
  refine h _ (cf.up g01) ⟨od, xs, upd_same, g2, g3, g4, h2.mono s1⟩ _ σ _ _ E1 ⟨fun Γ L F σ H h E => ?_, fun d L F v H h s l r => ?_, fun Γ L F σ H h E => ?_, fun Γ L F σ H h E => ?_⟩
  · obtain ⟨o1, o2⟩ := out E
    exact ⟨o1, q.nx Γ _ _ σ _ h o2⟩
  · have hp5 := s _ _ upd_same
    exact ⟨l.sub _ _ hp5, q.rt d _ _ v _ h (same_del (g01.trans s) hF0) (l.unlockN hp5 g2 g3 g4 (h2.mono (s1.trans s))) (r.delX hp5)⟩
  · obtain ⟨o1, o2⟩ := out E
    exact ⟨o1, q.bk Γ _ _ σ _ h o2⟩
  · obtain ⟨o1, o2⟩ := out E
    exact ⟨o1, q.ct Γ _ _ σ _ h o2⟩
theorem keysN_get {K : PySem.W.Frag} {F : Hp} {kvs : List (NestedKey × D)} {xs : List (NestedKey × Addr × Value)} {i : Nat} {x : NestedKey × Addr × Value} (r : RepN K F kvs xs) (h : xs[i]? = some x) : (keysN kvs)[i]? = some (nkD x.1) ∧ Rep K F (nkD x.1) (.ref x.2.1) := by
  induction r generalizing i with
  | nil => cases i <;> cases h
  | cons r1 _ _ _ _ ih =>
    cases i with
    | zero => cases h; exact ⟨rfl, r1⟩
    | succ i => exact ih h
theorem itn_ok {K : PySem.W.Frag} {F : Hp} {od : Obj} {xs : List (NestedKey × Addr × Value)} (hf : F p = some (.frz od (.ext (nkO w p xs)))) (hr : RepN K F kvs xs) : ItD K (keysN kvs) F (Itn p od w xs) := by
  have rd : ∀ {F' : Hp} {L' : Lg} {H' : Hp}, Same F F' → Led K F' L' H' → H' p = some (.frz od (.ext (nkO w p xs))) := fun s l => l.sub _ _ (s _ _ hf)
  have hl : (keysN kvs).length = xs.length := by unfold keysN; rw [List.length_map, hr.len]
  refine ⟨?_, ?_, ?_⟩
  · intro i H F' L' hi s l
    exact ⟨rd s l, by omega⟩
  · rintro i H x H' F' L' s l ⟨rfl, e, he, rfl⟩ hi
    obtain ⟨h1, h2⟩ := keysN_get hr he
    exact ⟨_, F', h1, Same.refl F', l, h2.mono s⟩
  · intro i H F' L' hi s l
    exact ⟨rd s l, by omega⟩
/-- what is walked: the keys of a locked dict -/
theorem ei_keysN {kl : List D → Lg → Prop} (h : EvK X F0 a Γ L fun x L1 => ∃ p w kvs, x = .ref p ∧ LokN F0 X.K w p kvs ∧ kl (keysN kvs) L1) : EiK X F0 tg a Γ L kl := fun F σ H R E q =>
  wpI.of (pi_keysN we) (h F σ H _ E fun x L1 F1 v H1 ⟨p, w, kvs, e1, lk, h1⟩ E1 s1 r1 => by
    subst e1
    cases r1
    obtain ⟨od, xs, hf, g2, g3, g4, hr⟩ := lk
    have hf1 := E1.ge _ _ hf
    exact ⟨p, od, w, xs, rfl, g3, E1.led.sub _ _ hf1, q _ L1 F1 H1 _ h1 E1 s1 (itn_ok hf1 (hr.mono E1.ge))⟩)
theorem eip_keysN {kl : List D → Lg → Prop} (h : EvK X F0 a Γ L fun x L1 => ∃ p w kvs, x = .ref p ∧ LokN F0 X.K w p kvs ∧ kl (keysN kvs) L1) : EiP X F0 tg a Γ L kl := ei_p (ei_keysN h)
end
end Vs

set_option Elab.async false
set_option linter.all false
set_option maxRecDepth 100000
set_option maxHeartbeats 4000000
namespace Vs
open PySem PySem.Spec PyProof.Rows L2
/-! ### {k: v} with a nested key; x in t, flat data -/
def tNDisp1 (X : Cx) (tk tv : TE) : TE := fun σ H Q => ∀ p, H p = none → (p == sysModules) = false → tk σ (upd H p (.ext (nkO X.w p []))) fun y H1 => tv σ H1 fun z H2 => ∃ b k d F, y = .ref b ∧ Same F H2 ∧ H2 p = some (.ext (nkO X.w p [])) ∧ Rep X.K F (nkD k) (.ref b) ∧ k.depth ≤ 8 ∧ Rep X.K F d z ∧
  ∀ xs', RepN X.K F [(k, d)] xs' → Q (.ref p) (upd H2 p (.ext (nkO X.w p xs')))
section
variable {X : Cx} {k v : Expr} {pos : Pos} {tk tv : TE}
theorem pe_ndisp1 (hu : X.A.units + 64 < cLine) (hk : PE X k tk) (hv : PE X v tv) : PE X (.Dict [some k] [v] pos) (tNDisp1 X tk tv) := by
  refine ⟨fun pins s σ H Q I q => ?_⟩
  have hn := I.hok.fresh (Nat.le_refl s.heap.objs.size)
  have hs : (s.heap.objs.size == sysModules) = false := beq_eq_false_iff_ne.mpr (Ne.symm (Nat.ne_of_lt I.big))
  have I1 := I.laid (a := s.heap.objs.size) (o := .ext (nkO X.w s.heap.objs.size [])) (h' := s.heap.push { cls := .type "dict", data := .dict #[] }) (t' := s.toks) (fun _ _ q => Heap.get?_push_of_some _ q) (Nat.le_refl _)
    (nk_ext ⟨_, #[], 0, Heap.get?_push_size _ rfl, ⟨rfl, rfl, rfl⟩, rfl, rfl⟩)
  refine wpAny_Dict_any rfl rfl (by simp) (Nat.le_of_ble_eq_true rfl) (pairTrees_cons_walk (thn (hk.run pins _ σ _ _ I1 (q _ hn hs)) fun u s1 ⟨y, H1, I2, ry, q1⟩ => thn (hv.run pins s1 σ H1 _ I2 q1) fun r s2 ⟨z, H2, I3, rz, b, kk, d, F, ey, sm, e, rk, hd, rd, q2⟩ => pairTrees_nil_walk ?_))
  subst ey
  obtain rfl : u = Value.ref b := ry
  have n : NkA X.K X.w F H2 s.heap.objs.size [] [] := ⟨.inl e, Nat.zero_le _, hs, List.nodup_nil, .nil⟩
  unfold storeAll
  rw [List.forIn_cons]
  refine wpAny_bind (wpAny_bind (wpAny_dictSet_heap (hsz := Nat.zero_le _) (show (nestedKind X.prog X.w).room X.A from (by show X.A.units + 8 < cLine; omega)) (nk_key I3 sm rk hd) (n.dd I3 sm) fun h' dd' hs' => wpAny_pure ?_))
  show wpAny _ _ (forIn ([] : List (Value × Value)) _ _) _ _ _
  rw [List.forIn_nil]
  refine wpAny_pure ?_
  have rp' : RepN X.K F [(kk, d)] (storedH [] kk b r) := RepN.put (kvs := []) (xs := []) .nil rk hd rz rd
  obtain ⟨g, es, ep, hq, h2, h3, h4, h6, h5⟩ := dd'
  exact ⟨.ref s.heap.objs.size, _, d_write I3 (by rw [e]; exact True.intro) hs' ⟨g, hq⟩ (nk_ext ⟨g, es, ep, hq, h2, h3, h4⟩), rfl, q2 _ rp'⟩
end
section
variable {X : Cx} {F0 : Hp} {Γ : Gm} {L : Lg} {k : D → Lg → Prop} {kt : Bool → Lg → Prop} {ke ve a b : Expr} {pos : Pos}
theorem ek_ndisp1 (hu : X.A.units + 64 < cLine) (h : ∀ p, EvK X F0 ke Γ ((p, C.dit X.w []) :: L) fun x L1 => EvK X F0 ve Γ L1 fun y L2 => ∃ key j L3, KyT x key ∧ Get L2 j (p, C.dit X.w []) ∧ Put L2 j (p, C.dit X.w [(key, y)]) L3 ∧ k (.ref p) L3) :
    EvK X F0 (.Dict [some ke] [ve] pos) Γ L k := fun F σ H Q E q =>
  wpE.of (pe_ndisp1 hu we we) fun p hp hs => by
    have E0 : At X.K F0 F Γ ((p, C.dit X.w []) :: L) σ (upd H p (.ext (nkO X.w p []))) := E.to (Same.refl F) (E.led.newN hp hs)
    refine h p F σ _ _ E0 fun x L1 F1 v H1 h1 E1 s1 r1 => h1 F1 σ H1 _ E1 fun y L2 F2 u H2 ⟨key, j, L3, ky, g, pt, h2⟩ E2 s2 r2 => ?_
    obtain ⟨b, rfl, rk⟩ := ky.rep r1
    obtain ⟨_, xs, g1, g2, g3, g4, g5⟩ := E2.led.ent _ g.mem
    cases g5
    exact ⟨b, key, y, F2, rfl, E2.led.sub, g1, rk.mono s2, ky.dp, r2, fun xs' rp => q _ L3 F2 _ _ h2 (E2.to (Same.refl F2) (E2.led.put g pt ⟨xs', upd_same, (by rw [sizeLine_eq]; show 1 ≤ _; decide), g3, by simp, rp⟩)) (s1.trans s2) .ref⟩
/-- flat data -/
def flD : D → Bool
  | .non => true
  | .int _ => true
  | .str _ => true
  | _ => false
def eqFD : D → D → Bool
  | .non, .non => true
  | .int a, .int b => a == b
  | .str a, .str b => a == b
  | _, _ => false
theorem fl_v {K : PySem.W.Frag} {F : Hp} {d : D} {v : V} (r : Rep K F d v) (h : flD d = true) : flatV v = true := by
  cases r <;> first | rfl | exact (Bool.false_ne_true h).elim
theorem eqf_v {K : PySem.W.Frag} {F : Hp} {d e : D} {v u : V} (r : Rep K F d v) (h : flD d = true) (r2 : Rep K F e u) (h2 : flD e = true) : eqV v u = eqFD d e := by
  cases r <;> first | (cases r2 <;> first | rfl | exact (Bool.false_ne_true h2).elim) | exact (Bool.false_ne_true h).elim
theorem fls_v {K : PySem.W.Frag} {F : Hp} {ds : List D} {vs : List V} (r : Reps K F ds vs) (h : ds.all flD = true) : vs.all flatV = true := by
  induction ds generalizing vs with
  | nil => cases r; rfl
  | cons d ds ih =>
    cases r with
    | cons r t =>
      rw [List.all_cons, Bool.and_eq_true] at h
      rw [List.all_cons, fl_v r h.1, ih t h.2]
      rfl
theorem ins_v {K : PySem.W.Frag} {F : Hp} {x : D} {v : V} (rx : Rep K F x v) (hx : flD x = true) {ds : List D} {vs : List V} (r : Reps K F ds vs) (h : ds.all flD = true) : inV v vs = ds.any fun y => eqFD y x := by
  induction ds generalizing vs with
  | nil => cases r; rfl
  | cons d ds ih =>
    cases r with
    | cons r t =>
      rw [List.all_cons, Bool.and_eq_true] at h
      have := ih t h.2
      unfold inV at this ⊢
      rw [List.any_cons, List.any_cons, this, eqf_v r h.1 rx hx]
theorem rd_inF (h : EvK X F0 a Γ L fun x L1 => EvK X F0 b Γ L1 fun y L2 => ∃ ds, (AsL L2 y ds ∨ y = .tup ds) ∧ flD x = true ∧ ds.all flD = true ∧ k (.bl (ds.any fun y => eqFD y x)) L2) : RdK X F0 (tOp (rIn X.K false) (wpE X a) (wpE X b)) Γ L k := fun F σ H Q E q =>
  h F σ H _ E fun x L1 F1 v H1 h1 E1 s1 r1 => h1 F1 σ H1 _ E1 fun y L2 F2 u H2 ⟨ds, hy, fx, fs, h2⟩ E2 s2 r2 => by
    rcases hy with hy | rfl
    · obtain ⟨p, xs, rfl, hq, rx⟩ := hy.read E2.led r2
      refine ⟨p, xs, rfl, .inl hq, fl_v r1 fx, fls_v rx fs, ?_⟩
      rw [if_neg Bool.false_ne_true, ins_v (r1.mono s2) fx rx fs]
      exact q _ L2 F2 _ H2 h2 E2 (s1.trans s2) .bl
    · cases r2 with
      | tup hq rx =>
        refine ⟨_, _, rfl, .inr (seqT E2.led.sub hq), fl_v r1 fx, fls_v rx fs, ?_⟩
        rw [if_neg Bool.false_ne_true, ins_v (r1.mono s2) fx rx fs]
        exact q _ L2 F2 _ H2 h2 E2 (s1.trans s2) .bl
theorem ek_inF (h : EvK X F0 a Γ L fun x L1 => EvK X F0 b Γ L1 fun y L2 => ∃ ds, (AsL L2 y ds ∨ y = .tup ds) ∧ flD x = true ∧ ds.all flD = true ∧ k (.bl (ds.any fun y => eqFD y x)) L2) (hm : behindInMarks .In b = false := by rfl) : EvK X F0 (.Compare a [.In] [b] pos) Γ L k := (rd_inF h).ev (pe_cmpR op_in_seq we we hm)
theorem et_inF (h : EvK X F0 a Γ L fun x L1 => EvK X F0 b Γ L1 fun y L2 => ∃ ds, (AsL L2 y ds ∨ y = .tup ds) ∧ flD x = true ∧ ds.all flD = true ∧ ∃ t, D.bl (ds.any fun y => eqFD y x) = .bl t ∧ kt t L2) (hm : behindInMarks .In b = false := by rfl) : EtK X F0 (.Compare a [.In] [b] pos) Γ L kt :=
  (rd_inF (k := fun d L' => ∃ t, d = .bl t ∧ kt t L') h).tst (pt_cmpR op_in_seq we we hm)
end
end Vs

set_option Elab.async false
set_option linter.all false
set_option maxRecDepth 100000
set_option maxHeartbeats 4000000
namespace Vs
open PySem PySem.Spec PyProof.Rows L2
/-! ### {k: v, ..}: a dict of several pairs, the keys ints and texts -/
/-- the pairs of a display, one behind the other -/
def EpK (X : Cx) (F0 : Hp) : List (Option Expr) → List Expr → Gm → Lg → (List (D × D) → Lg → Prop) → Prop
  | [], [], _, L, k => k [] L
  | some a :: ks, b :: vs, Γ, L, k => EvK X F0 a Γ L fun x L1 => EvK X F0 b Γ L1 fun y L2 => EpK X F0 ks vs Γ L2 fun ps L3 => k ((x, y) :: ps) L3
  | _, _, _, _, _ => False
inductive RepD (K : PySem.W.Frag) (F : Hp) : List (D × D) → List (V × V) → Prop
  | nil : RepD K F [] []
  | cons {d e : D} {v u : V} {ds : List (D × D)} {vs : List (V × V)} : Rep K F d v → Rep K F e u → RepD K F ds vs → RepD K F ((d, e) :: ds) ((v, u) :: vs)
def mergeB (kvs more : List (Key × D)) : List (Key × D) := more.foldl (fun acc kv => putB acc kv.1 kv.2) kvs
section
variable {X : Cx} {F0 : Hp} {Γ : Gm}
theorem epk_nil {L : Lg} {k : List (D × D) → Lg → Prop} (h : k [] L) : EpK X F0 [] [] Γ L k := h
theorem epk_cons {L : Lg} {a b : Expr} {ks : List (Option Expr)} {vs : List Expr} {k : List (D × D) → Lg → Prop} (h : EvK X F0 a Γ L fun x L1 => EvK X F0 b Γ L1 fun y L2 => EpK X F0 ks vs Γ L2 fun ps L3 => k ((x, y) :: ps) L3) :
    EpK X F0 (some a :: ks) (b :: vs) Γ L k := h
/-- how the pairs are walked -/
def trsP (X : Cx) : List (Option Expr) → List Expr → List (TE × TE)
  | some a :: ks, b :: vs => (wpE X a, wpE X b) :: trsP X ks vs
  | _, _ => []
theorem pps_of {pos : Pos} : ∀ {ks : List (Option Expr)} {vs : List Expr}, ks.all (·.isSome) = true → ks.length = vs.length → PPs X pos ks vs (trsP X ks vs)
  | [], [], _, _ => pps_nil
  | some _ :: _, _ :: _, h, hl => pps_cons we we (pps_of (by rw [List.all_cons, Bool.and_eq_true] at h; exact h.2) (Nat.succ.inj hl))
  | none :: _, _, h, _ => by rw [List.all_cons, Bool.and_eq_true] at h; exact (Bool.false_ne_true h.1).elim
  | some _ :: _, [], _, hl => by cases hl
  | [], _ :: _, _, hl => by cases hl
theorem epk_run : ∀ (ks : List (Option Expr)) (vs : List Expr) (L : Lg) (k : List (D × D) → Lg → Prop), EpK X F0 ks vs Γ L k → ∀ (F : Hp) (σ : L2.St) (H : Hp) (Q : List (V × V) → Hp → Prop), At X.K F0 F Γ L σ H →
      (∀ ps L1 F1 us H1, k ps L1 → At X.K F0 F1 Γ L1 σ H1 → Same F F1 → RepD X.K F1 ps us → Q us H1) → tPairs (trsP X ks vs) σ H Q
  | [], [], L, k, h, F, σ, H, Q, E, q => q [] L F [] H h E (Same.refl F) .nil
  | some a :: ks, b :: vs, L, k, h, F, σ, H, Q, E, q =>
    h F σ H _ E fun x L1 F1 v H1 h1 E1 s1 r1 => h1 F1 σ H1 _ E1 fun y L2 F2 u H2 h2 E2 s2 r2 =>
      epk_run ks vs L2 _ h2 F2 σ H2 _ E2 fun ps L3 F3 us H3 h3 E3 s3 r3 => q _ L3 F3 _ H3 h3 E3 ((s1.trans s2).trans s3) (.cons (r1.mono (s2.trans s3)) (r2.mono s3) r3)
  | [], _ :: _, _, _, h, _, _, _, _, _, _ => h.elim
  | none :: _, _, _, _, h, _, _, _, _, _, _ => h.elim
  | some _ :: _, [], _, _, h, _, _, _, _, _, _ => h.elim
theorem repD_keys {K : PySem.W.Frag} {F : Hp} : ∀ {kvs : List (Key × D)} {us : List (V × V)}, RepD K F (kvs.map fun kv => (kD kv.1, kv.2)) us → ∃ ps : List (Key × V), us = ps.map (fun kv => (kV kv.1, kv.2)) ∧ RepP K F kvs ps
  | [], _, r => by cases r; exact ⟨[], rfl, .nil⟩
  | p :: kvs, _, r => by
    rw [List.map_cons] at r
    cases r with
    | cons r1 r2 r3 =>
      obtain ⟨ps, e, q⟩ := repD_keys r3
      have e1 := kD_v r1
      subst e1 e
      exact ⟨(p.1, _) :: ps, rfl, .cons r2 q⟩
theorem repP_merge {K : PySem.W.Frag} {F : Hp} {more : List (Key × D)} {ms : List (Key × V)} {kvs : List (Key × D)} {ps : List (Key × V)} (r : RepP K F more ms) : RepP K F kvs ps → RepP K F (mergeB kvs more) (mergeK ps ms) := by
  induction r generalizing kvs ps with
  | nil => intro q; exact q
  | cons r1 t ih => intro q; exact ih (q.putK r1)
theorem ek_dispN {ks : List (Option Expr)} {vs : List Expr} {pos : Pos} {L : Lg} {k : D → Lg → Prop}
    (h : ∀ p, EpK X F0 ks vs Γ ((p, C.dic []) :: L) fun ps L1 => ∃ kvs j L2, ps = kvs.map (fun kv => (kD kv.1, kv.2)) ∧ Get L1 j (p, C.dic []) ∧ Put L1 j (p, C.dic (mergeB [] kvs)) L2 ∧ kvs.length ≤ 15 ∧ k (.ref p) L2)
    (hall : ks.all (·.isSome) = true := by rfl) (hl : ks.length = vs.length := by rfl) (h0 : ks ≠ [] := by simp) (h15 : ks.length ≤ 15 := by exact Nat.le_of_ble_eq_true rfl) :
    EvK X F0 (.Dict ks vs pos) Γ L k := fun F σ H Q E q =>
  wpE.of (pe_disp (pps_of hall hl) hall hl h0 h15) fun p hp => by
    have E0 : At X.K F0 F Γ ((p, C.dic []) :: L) σ (upd H p (.dK [])) := E.to (Same.refl F) ⟨E.led.sub.trans (same_new hp), by
      rw [List.map_cons]
      refine List.nodup_cons.mpr ⟨fun z => ?_, E.led.nod⟩
      obtain ⟨q, hq, z⟩ := List.mem_map.mp z
      exact E.led.nofr hp q hq z, fun q hq => by
      rcases List.mem_cons.mp hq with rfl | hq
      · exact ⟨E.led.free hp, [], upd_same, .nil⟩
      · obtain ⟨h1, h2⟩ := E.led.ent q hq
        exact ⟨h1, h2.mono (Same.refl F) (upd_ne (E.led.nofr hp q hq))⟩⟩
    refine epk_run ks vs _ _ (h p) F σ _ _ E0 fun ps L1 F1 us H1 ⟨kvs, j, L2, e1, g, pt, hk, h2⟩ E1 s1 r1 => ?_
    subst e1
    obtain ⟨ms, e2, rp⟩ := repD_keys r1
    subst e2
    obtain ⟨_, ps0, h4, h5⟩ := E1.led.ent _ g.mem
    obtain rfl : ps0 = [] := by
      have := h5.length
      exact List.length_eq_zero_iff.mp this.symm
    have h6 : RepP X.K F1 (mergeB [] kvs) (mergeK [] ms) := repP_merge rp .nil
    exact ⟨h4, ms, rfl, by rw [← rp.length]; exact hk, q _ L2 F1 _ _ h2 (E1.to (Same.refl F1) (E1.led.put g pt ⟨_, upd_same, h6⟩)) s1 .ref⟩
end
end Vs

set_option Elab.async false
set_option linter.all false
set_option maxRecDepth 100000
set_option maxHeartbeats 4000000
namespace Vs
open PySem PySem.Spec PyProof.Rows L2
/-! ### the head's facts, and one Bool more -/
abbrev AlE : Type := He.AlD × Bool
def obsE (n : Nat) (fa : List He.Fa) (fn : List He.DefD) (ex : PySem.W.Frag → Bool) (g : Addr → Option Obj) : AlE := (He.obsD fa fn (He.frG g (He.asD g n)), ex (He.frG g (He.asD g n)))
def valE (fn : List He.DefD) : AlE := (He.valD fn, true)
structure SaysE (fa : List He.Fa) (fn : List He.DefD) (ex : PySem.W.Frag → Bool) (K : PySem.W.Frag) : Prop where
  d : He.SaysD fa fn K
  ex : ex K = true
def hookE (n : Nat) (fa : List He.Fa) (fn : List He.DefD) (ex : PySem.W.Frag → Bool) : PySem.W.Hook where
  α := AlE
  obs := fun s => obsE n fa fn ex s.heap.get?
  val := fun _ => valE fn
  says := fun _ h => ∃ K : PySem.W.Frag, K.In h ∧ SaysE fa fn ex K
  of := fun _ _ e => ⟨_, He.frG_in, ⟨congrArg (fun z : AlE => z.1) e, congrArg (fun z : AlE => z.2) e⟩⟩
  keeps := fun _ _ _ ⟨K, hK, c⟩ k => ⟨K, PySem.W.Frag.In.keeps hK k, c⟩
theorem obsE_eq {n : Nat} {fa : List He.Fa} {fn : List He.DefD} {ex : PySem.W.Frag → Bool} {g : Addr → Option Obj} {s : Shared} (h : ∀ a, g a = s.heap.get? a) : obsE n fa fn ex g = (hookE n fa fn ex).obs s := by
  have e : g = s.heap.get? := funext h
  rw [e] <;> rfl
def dd (x : Str) (st : Stmt) : He.DefD := ⟨(x, none), x, x, defArgs st, defBody st, defScope st, [], []⟩
abbrev FunX (K : PySem.W.Frag) (x : Str) (st : Stmt) (fd : FuncData) : Prop := FunD K x x (defArgs st) (defBody st) (defScope st) [] [] (He.fAd K (x, none)) fd
theorem cal_of {P : Program} {w : World} {K : PySem.W.Frag} {mg : Str → Option Value} {base : Heap} {x : Str} {st : Stmt} {fd : FuncData} {N Nc ps : List Str} {n : Nat} {S : SpD}
    (F : FunX K x st fd) (g : mg x = some (.ref (He.ga K x))) (Sc : FnScope (N ++ Nc) ps (defScope st)) (hl : locs N (defScope st) = true) (hb0 : Binds K fd ps []) (hlen : ∀ ds L q e, S ds L q e → ds.length = ps.length)
    (hb : ∀ (X : Cx) (F0 : Hp) (ds : List D) (L : Lg) (q : D → Lg → Prop) (e : Xc → Lg → Prop), X.prog = P → X.w = w → X.K = K → X.mg = mg → X.base = base → Cf X N Nc (defScope st) F0 (fun y _ L' => e y L') → Room n X.A → S ds L q e →
      BK X F0 (defBody st) (ds.map some ++ List.replicate ((N ++ Nc).length - ps.length) none) L { nx := fun _ L' => q .non L', rt := q }) : Cal P w K mg base (n + 1) x ps S :=
  ⟨_, fd, g, F.kp, hb0, fn_ok F Sc hl hlen hb⟩
/-! methods -/
def dm (x m qual : Str) (st : Stmt) : He.DefD := ⟨(x, some m), m, qual, defArgs st, defBody st, defScope st, [], []⟩
abbrev MetD (K : PySem.W.Frag) (x m qual : Str) (st : Stmt) (fd : FuncData) : Prop := FunD K m qual (defArgs st) (defBody st) (defScope st) [] [] (He.fAd K (x, some m)) fd
theorem met_of {P : Program} {w : World} {K : PySem.W.Frag} {mg : Str → Option Value} {base : Heap} {x m qual : Str} {st : Stmt} {fd : FuncData} {N Nc ps : List Str} {n : Nat} {S : SpD}
    (F : MetD K x m qual st fd) (cl : Cls K (He.ga K x)) (me : Meth K (He.ga K x) m (He.ma K (He.ga K x) m)) (Sc : FnScope (N ++ Nc) ps (defScope st)) (hl : locs N (defScope st) = true) (hb0 : Binds K fd ps []) (hlen : ∀ ds L q e, S ds L q e → ds.length = ps.length)
    (hb : ∀ (X : Cx) (F0 : Hp) (ds : List D) (L : Lg) (q : D → Lg → Prop) (e : Xc → Lg → Prop), X.prog = P → X.w = w → X.K = K → X.mg = mg → X.base = base → Cf X N Nc (defScope st) F0 (fun y _ L' => e y L') → Room n X.A → S ds L q e →
      BK X F0 (defBody st) (ds.map some ++ List.replicate ((N ++ Nc).length - ps.length) none) L { nx := fun _ L' => q .non L', rt := q }) : Met P w K mg base (n + 1) (He.ga K x) m ps S :=
  ⟨cl, _, fd, me, hb0, fn_ok F Sc hl hlen hb⟩
theorem mkr_of {P : Program} {w : World} {K : PySem.W.Frag} {mg : Str → Option Value} {base : Heap} {x qual : Str} {st : Stmt} {fd : FuncData} {N Nc ps : List Str} {n : Nat} {S : SpD}
    (F : MetD K x "__init__" qual st fd) (g : mg x = some (.ref (He.ga K x))) (mk : L2.Mk K (He.ga K x) (He.ma K (He.ga K x) "__init__")) (Sc : FnScope (N ++ Nc) ps (defScope st)) (hl : locs N (defScope st) = true) (hb0 : Binds K fd ps []) (hlen : ∀ ds L q e, S ds L q e → ds.length = ps.length)
    (hb : ∀ (X : Cx) (F0 : Hp) (ds : List D) (L : Lg) (q : D → Lg → Prop) (e : Xc → Lg → Prop), X.prog = P → X.w = w → X.K = K → X.mg = mg → X.base = base → Cf X N Nc (defScope st) F0 (fun y _ L' => e y L') → Room n X.A → S ds L q e →
      BK X F0 (defBody st) (ds.map some ++ List.replicate ((N ++ Nc).length - ps.length) none) L { nx := fun _ L' => q .non L', rt := q }) : Mkr P w K mg base (n + 1) x (He.ga K x) ps S :=
  ⟨g, _, fd, mk, hb0, fn_ok F Sc hl hlen hb⟩
/-! ### lists of the top -/
theorem reps_rel {K : PySem.W.Frag} {F : Hp} {xs : List Int} : Reps K F (dI xs) ((xs.map He.Dv.int).map (He.Dv.v K)) := by
  induction xs with
  | nil => exact .nil
  | cons x xs ih => exact .cons .int ih
theorem gobj_ints {K : PySem.W.Frag} {mg : Str → Option Value} {x : Str} {xs : List Int} (g : mg x = some (.ref (He.ga K x))) (h : He.lstB K x (xs.map He.Dv.int) = true) : GObj K mg x (.lst (dI xs)) :=
  ⟨_, g, fun F => .lst (He.lstB_ok h F) reps_rel⟩
/-- the tuple of numbers at t -/
def tupI (K : PySem.W.Frag) (t : Addr) (r : List Int) : Bool := match K.lookup t with
  | some ⟨.type c, _, .seq its _, _⟩ => decide (c = "tuple") && (decide (its.size ≤ sizeLine) && He.relAll (r.map V.int) its.toList)
  | _ => false
theorem tupI_ok {K : PySem.W.Frag} {t : Addr} {r : List Int} (h : tupI K t r = true) (H : Hp) : SqT K H t (r.map V.int) := by
  unfold tupI at h
  cases q : K.lookup t with
  | none =>
    rw [q] at h
    cases h
  | some o =>
    obtain ⟨oc, od, dt, osl⟩ := o
    rw [q] at h
    cases oc with
    | type c =>
      cases dt with
      | seq its n =>
        obtain ⟨h1, h2⟩ := He.ba (show (decide (c = "tuple") && (decide (its.size ≤ sizeLine) && He.relAll (r.map V.int) its.toList)) = true from h)
        obtain ⟨h3, h4⟩ := He.ba h2
        exact .inr ⟨_, its, n, q, congrArg Value.type (of_decide_eq_true h1), rfl, of_decide_eq_true h3, He.relAll_ok h4⟩
      | _ => cases h
    | _ => cases dt <;> cases h
def tupsI (K : PySem.W.Frag) : List Value → List (List Int) → Bool
  | [], [] => true
  | .ref t :: us, r :: rs => tupI K t r && tupsI K us rs
  | _, _ => false
def lstT (K : PySem.W.Frag) (x : Str) (rs : List (List Int)) : Bool := match K.lookup (He.ga K x) with
  | some ⟨.type c, none, .seq its _, _⟩ => decide (c = "list") && (decide (its.size ≤ sizeLine) && tupsI K its.toList rs)
  | _ => false
abbrev dTs (rs : List (List Int)) : List D := rs.map fun r => D.tup (dI r)
theorem tupsI_ok {K : PySem.W.Frag} (F : Hp) : ∀ {us : List Value} {rs : List (List Int)}, tupsI K us rs = true → ∃ vs, Vals vs us ∧ Reps K F (dTs rs) vs
  | [], [], _ => ⟨[], .nil, .nil⟩
  | [], _ :: _, h => by cases h
  | u :: us, [], h => by cases u <;> cases h
  | u :: us, r :: rs, h => by
    cases u with
    | ref t =>
      obtain ⟨h1, h2⟩ := He.ba (show (tupI K t r && tupsI K us rs) = true from h)
      obtain ⟨vs, a, b⟩ := tupsI_ok F h2
      exact ⟨.ref t :: vs, .cons rfl a, .cons (.tup (tupI_ok h1 F) reps_il) b⟩
    | _ => cases h
theorem gobj_tups {K : PySem.W.Frag} {mg : Str → Option Value} {x : Str} {rs : List (List Int)} (g : mg x = some (.ref (He.ga K x))) (h : lstT K x rs = true) : GObj K mg x (.lst (dTs rs)) := by
  unfold lstT at h
  cases q : K.lookup (He.ga K x) with
  | none =>
    rw [q] at h
    cases h
  | some o =>
    obtain ⟨oc, od, dt, osl⟩ := o
    rw [q] at h
    cases oc with
    | type c =>
      cases od with
      | none =>
        cases dt with
        | seq its n =>
          obtain ⟨h1, h2⟩ := He.ba (show (decide (c = "list") && (decide (its.size ≤ sizeLine) && tupsI K its.toList rs)) = true from h)
          obtain ⟨h3, h4⟩ := He.ba h2
          refine ⟨_, g, fun F => ?_⟩
          obtain ⟨vs, a, b⟩ := tupsI_ok F h4
          exact .lst (.inr ⟨_, its, n, q, congrArg Value.type (of_decide_eq_true h1), rfl, rfl, of_decide_eq_true h3, a⟩) b
        | _ => cases h
      | some a => cases dt <;> cases h
    | _ => cases od <;> cases dt <;> cases h
/-- the tuple of texts that x tells -/
def tupS (K : PySem.W.Frag) (x : Str) (ys : List Str) : Bool := match K.lookup (He.ga K x) with
  | some ⟨.type c, none, .seq its _, _⟩ => decide (c = "tuple") && (decide (its.size ≤ sizeLine) && He.relAll (ys.map V.str) its.toList)
  | _ => false
theorem gtup_ok {K : PySem.W.Frag} {mg : Str → Option Value} {x : Str} {ys : List Str} (g : mg x = some (.ref (He.ga K x))) (h : tupS K x ys = true) : GTupS K mg x ys := by
  unfold tupS at h
  cases q : K.lookup (He.ga K x) with
  | none =>
    rw [q] at h
    cases h
  | some o =>
    obtain ⟨oc, od, dt, osl⟩ := o
    rw [q] at h
    cases oc with
    | type c =>
      cases od with
      | none =>
        cases dt with
        | seq its n =>
          obtain ⟨h1, h2⟩ := He.ba (show (decide (c = "tuple") && (decide (its.size ≤ sizeLine) && He.relAll (ys.map V.str) its.toList)) = true from h)
          obtain ⟨h3, h4⟩ := He.ba h2
          refine ⟨_, g, ⟨_, q, congrArg Value.type (of_decide_eq_true h1), rfl⟩, fun H => .inr ⟨_, its, n, q, congrArg Value.type (of_decide_eq_true h1), rfl, of_decide_eq_true h3, He.relAll_ok h4⟩⟩
        | _ => cases h
      | some a => cases dt <;> cases h
    | _ => cases od <;> cases dt <;> cases h
/-! ### the end -/
theorem walk_ofV {l : PySem.W.OpenLaw} {n k : Nat} {q : Program} {loose : List Str} {XP : (Str → Option Value) → Heap → Prop} {YP : World → Heap → Prop} {d : DefRec} {CX : World → CXT} {x : Str}
    (hn : l.most = some n) (hn2 : n ≤ sizeLine) (hdf : d.params.defaults = []) (hr : Room k callerA)
    (F : ∀ (w : World) (mg : Str → Option Value) (fa : Addr) (h : Heap), YP w h → h.Ns mainGlobals mg → mg d.name = some (.ref fa) →
      ∃ (K : PySem.W.Frag) (fd : FuncData) (sp : Sp), K.In h ∧ (∀ (s : Shared) (u : Value), BindsTo s fd ⟨[u], []⟩ [(x, u)]) ∧
        (∀ (H : Hp) (a : Addr) (ns : List Int), ns.length ≤ n → Only H → SqL K H a (ns.map V.int) → sp [.ref a] H (fun v _ => v = .bl true) fun _ _ _ => False) ∧
        ∀ base : Heap, K.In base → base.Ns mainGlobals mg → FnOk l.prog w K mg base (CX w) k fa fd [x] sp)
    (hCX : ∀ (w : World) (H : Hp) (s : Shared) (e : Value) (s' : Shared), CX w [] H s (fun _ _ _ => False) e s' → False) :
    PySem.W.WalkO q loose XP YP l.row.toRowW d [] (fun f vs => PySem.call f vs) := by
  refine Att.attach_call hn hdf fun w s₀ s₁ mg mb fa o pm cd doc a vs ns G Y ho hd hcd hmg hobj hints hlen hg => ?_
  obtain ⟨K, fd, sp, KX, hb, hsp, hF⟩ := F w mg fa _ Y G.T.g hmg
  exact law_call KX G.T.g G.T.b G.T.builtins G.T.nolimit hg hobj hints (Nat.le_trans hlen hn2) hr hF hb (fun H hO hS => hsp H a ns hlen hO hS) fun H e s' => hCX w H s₁ e s'
theorem noCX {P : Program} {w : World} (H : Hp) (s : Shared) (e : Value) (s' : Shared) (h : L2N.CX P w [] H s (fun _ _ _ => False) e s') : False := by
  obtain ⟨_, _, _, _, _, _, _, _, _, _, _, _, z⟩ := h
  exact z.elim
/-- the law's own promise -/
theorem law_sp {K : PySem.W.Frag} {S : SpD} (h : ∀ ns : List Int, ns.length ≤ 63 → ∀ q e, (∀ L, q (.bl true) L) → S [.lst (dI ns)] [] q e) (H : Hp) (a : Addr) (ns : List Int) (hl : ns.length ≤ 63) (hO : Only H) (hS : SqL K H a (ns.map V.int)) :
    spOf K S [.ref a] H (fun v _ => v = .bl true) fun _ _ _ => False :=
  ⟨H, [.lst (dI ns)], [], fun d _ => d = .bl true, fun _ _ => False, ⟨Same.refl H, List.nodup_nil, fun p hp => by cases hp⟩, .cons (.lst hS reps_il) .nil, h ns hl _ _ (fun _ => rfl),
    fun r L' F' v H' e _ _ rr => by subst e; cases rr; rfl, fun _ _ _ _ _ he _ _ _ => he⟩
end Vs

set_option Elab.async false
set_option linter.all false
set_option maxRecDepth 100000
set_option maxHeartbeats 4000000
namespace Vs
open PySem PySem.Spec PyProof.Rows L2 HotX
/-! ### for laws over L2N (vsn.py): what takes exceptions of any context, and suites that raise -/
theorem sky_nc {B : Heap} {l : List Env} {a : Addr} {Z Z' : Obj → Prop} {La : Addr} {h : Heap} (z : ∀ o, Z o → Z' o) (x : Sky B l a Z La h) : Sky B l a Z' La h := by
  rcases x with ⟨x1, x2, x3, oe, vs, x4, x5, x6⟩ | x | x
  · exact .inl ⟨x1, x2, x3, oe, vs, x4, z _ x5, x6⟩
  · exact .inr (.inl (L2H.flyingZ_imp z x))
  · exact .inr (.inr ⟨x.1, x.2.1, x.2.2.1, L2H.tracedZ_imp z x.2.2.2⟩)
theorem takesN_of {X : Cx} {W : WX} (t : L2.Takes X W) : L2N.Takes X W := fun u s' ⟨a, B, sI, pins, σ, H, cls, d, e, I, nb, up, sky, na, os, ag, w⟩ =>
  t u s' ⟨a, B, sI, pins, σ, H, cls, d, e, I, nb, up, sky_nc (fun _ z => z.zc) sky, na, os, ag, w⟩
/-- a def that may let out exceptions of any context -/
structure CalC (P : Program) (w : World) (K : PySem.W.Frag) (mg : Str → Option Value) (base : Heap) (n : Nat) (x : Str) (ps : List Str) (S : SpD) : Prop where
  ex : ∃ f fd, mg x = some (.ref f) ∧ PySem.W.keepIn K (.ref f) = true ∧ Binds K fd ps [] ∧ FnOk P w K mg base (L2.CX P w) n f fd ps (spOf K S)
abbrev CalCX (X : Cx) (n : Nat) (x : Str) (ps : List Str) (S : SpD) : Prop := CalC X.prog X.w X.K X.mg X.base n x ps S
/-- where it raises never -/
theorem CalC.never {P : Program} {w : World} {K : PySem.W.Frag} {mg : Str → Option Value} {base : Heap} {n : Nat} {x : Str} {ps : List Str} {S S' : SpD} (G : CalC P w K mg base n x ps S) (h : ∀ ds L q e, S' ds L q e → S ds L q fun _ _ => False) : Cal P w K mg base n x ps S' := by
  obtain ⟨f, fd, h1, h2, h3, F⟩ := G.ex
  refine ⟨f, fd, h1, h2, h3, ⟨fun vs H Q E hs => ?_, fun A outer s H args us vs Q E hr e0 hb hv hs => ?_⟩⟩
  · obtain ⟨F1, ds, L, q, e, l, r, hS, k1, k2⟩ := hs
    exact F.len vs H Q (fun _ _ _ => False) ⟨F1, ds, L, q, fun _ _ => False, l, r, h _ _ _ _ hS, k1, fun _ _ _ _ _ z => z.elim⟩
  · obtain ⟨F1, ds, L, q, e, l, r, hS, k1, k2⟩ := hs
    refine codeAny_mono (F.run A outer s H args us vs Q (fun _ _ _ => False) hr e0 hb hv ⟨F1, ds, L, q, fun _ _ => False, l, r, h _ _ _ _ hS, k1, fun _ _ _ _ _ z => z.elim⟩) fun rr s' hq => ?_
    cases rr with
    | ok fl => cases fl <;> exact hq
    | error u =>
      obtain ⟨_, _, _, _, _, _, _, _, _, _, _, _, z⟩ := id hq
      exact z.elim
/-- where it raises never, and leaves things behind -/
theorem CalC.neverL {P : Program} {w : World} {K : PySem.W.Frag} {mg : Str → Option Value} {base : Heap} {n : Nat} {x : Str} {ps : List Str} {S S' : SpD} (G : CalC P w K mg base n x ps S) (h : ∀ ds L q e, S' ds L q e → S ds L (fun r L1 => ∃ L2, SubP L2 L1 ∧ q r L2) fun _ _ => False) : Cal P w K mg base n x ps S' := by
  obtain ⟨f, fd, h1, h2, h3, F⟩ := G.ex
  refine ⟨f, fd, h1, h2, h3, ⟨fun vs H Q E hs => ?_, fun A outer s H args us vs Q E hr e0 hb hv hs => ?_⟩⟩
  · obtain ⟨F1, ds, L, q, e, l, r, hS, k1, k2⟩ := hs
    exact F.len vs H Q (fun _ _ _ => False) ⟨F1, ds, L, fun r L1 => ∃ L2, SubP L2 L1 ∧ q r L2, fun _ _ => False, l, r, h _ _ _ _ hS, fun rr L1 F2 v H2 ⟨L2, hsub, hq⟩ s2 l2 r2 => k1 rr L2 F2 v H2 hq s2 (l2.subP hsub) r2, fun _ _ _ _ _ z => z.elim⟩
  · obtain ⟨F1, ds, L, q, e, l, r, hS, k1, k2⟩ := hs
    refine codeAny_mono (F.run A outer s H args us vs Q (fun _ _ _ => False) hr e0 hb hv ⟨F1, ds, L, fun r L1 => ∃ L2, SubP L2 L1 ∧ q r L2, fun _ _ => False, l, r, h _ _ _ _ hS, fun rr L1 F2 v H2 ⟨L2, hsub, hq⟩ s2 l2 r2 => k1 rr L2 F2 v H2 hq s2 (l2.subP hsub) r2, fun _ _ _ _ _ z => z.elim⟩) fun rr s' hq => ?_
    cases rr with
    | ok fl => cases fl <;> exact hq
    | error u =>
      obtain ⟨_, _, _, _, _, _, _, _, _, _, _, _, z⟩ := id hq
      exact z.elim
section
variable {X : Cx} {F0 : Hp} {Γ : Gm} {L : Lg} {k : D → Lg → Prop} {e : Expr} {es : List Expr} {pos : Pos} {Z : Xc → Gm → Lg → Prop}
theorem ek_callC {x : Str} {n : Nat} {ps : List Str} {S : SpD} {p : Pos} (tk : L2.Takes X (ZW X.K F0 Z)) (G : CalCX X n x ps S) (hr : Room n X.A) (h : EaK X F0 (e :: es) Γ L fun ds L1 => S ds L1 k fun x L2 => Z x Γ L2) (hg : Gl X x)
    (hdb : (x == ("__debug__" : Str)) = false := by decide) (he : starEach (e :: es) X.env = (false, eval e X.env) :: starEach es X.env := by rfl) (hpl : (backTo pos (starEach es X.env)).any (·.1) = false := by rfl) :
    EvK X F0 (.Call (.Name x p) (e :: es) [] pos) Γ L k := fun F σ H Q E q => by
  obtain ⟨f, fd, hm, hk, hb, G⟩ := G.ex
  refine wpE.of (pe_callS (E := L2.WE (ZW X.K F0 Z)) G hr hg hm hk hb (fun σ => L2.passAt tk σ) wa hdb he hpl) ?_
  refine h F σ H _ E fun ds L1 F1 vs H1 h1 E1 s1 r1 => ?_
  exact ⟨F1, ds, L1, k, fun x L2 => Z x Γ L2, E1.led, r1, h1, fun r L' F' v H' hq s2 l2 r2 => q r L' F' v H' hq ⟨E1.ge.trans s2, l2, E1.sl.mono s2⟩ (s1.trans s2) r2,
    fun x L' F' od H' he s2 l2 x2 => ⟨x, Γ, L', F', rfl, he, ⟨E1.ge.trans s2, l2, E1.sl.mono s2⟩, x2⟩⟩
end
/-- the frame of a def that may let out exceptions of any context -/
structure CfC (X : Cx) (N Nc : List Str) (sc : Scope) (F0 : Hp) (Z : Xc → Gm → Lg → Prop) : Prop extends Cf X N Nc sc F0 Z where
  tkC : L2.Takes X (ZW X.K F0 Z)
  pa : ∀ hd : Option Value, PassesOwnAt (model X.prog X.w) (X.A.mark hd) X.A X.env X.xe
section
variable {X : Cx} {F0 : Hp} {Γ : Gm} {L : Lg} {k : Ks} {pos : Pos} {N Nc : List Str} {sc : Scope} {Z : Xc → Gm → Lg → Prop} {body : List Stmt}
/-- raise X('..') in an except suite -/
theorem sk_rzH {x m : Str} {j : Nat} {p p2 pos2 pos : Pos} (cn : Cn X N Nc sc) (hot : L2H.HotC X) (tk : L2.Takes X (ZW X.K F0 Z)) (f : ExF X.K X.mg x) (h : Z (xcOf X.K x) Γ L) (hg : sc.names.lookup x = some .globalImplicit := by rfl) (hdb : (x == ("__debug__" : Str)) = false := by decide) :
    SK X F0 (.Raise (some (.Call (.Name x p) [.Constant (.str m) j p2] [] pos)) none pos2) Γ L k := fun F σ H Dn E _ =>
  wpS.of (L2H.ps_raiseH hot tk (L2N.pmk_own PySem.F.excBase_ValueError f.q f.g f.k (raises_own f.s f.t) (cn.gl hg) hdb)) ⟨⟨.ref (He.ga X.K x), none⟩, Γ, L, F, rfl, h, E, rfl⟩
/-- try: body except x: suite; the suite may raise -/
theorem sk_try_onlyX {x : Str} {cv : Value} {b₀ : Stmt} {suite : List Stmt} {np pos' : Pos} (cf : CfC X N Nc sc F0 Z) (hc : Names X x cv)
    (hb : ∀ (pn : List (Addr × Obj)) (xe : Value → Shared → Prop) (Z' : Xc → Gm → Lg → Prop), Cf (X.tr pn xe) N Nc sc F0 Z' →
      (∀ y Γ' L', (∃ b, PySem.W.exmOne X.K y.c cv = some b ∧
        (b = true → ∀ (a : Addr) (oe : Obj) (pn : List (Addr × Obj)), Cn (L2H.suiteX X a ((a, oe) :: pn)) N Nc sc → L2H.HotC (L2H.suiteX X a ((a, oe) :: pn)) → L2.Takes (L2H.suiteX X a ((a, oe) :: pn)) (ZW X.K F0 Z) → BK (L2H.suiteX X a ((a, oe) :: pn)) F0 (b₀ :: suite) Γ' L' k) ∧
        (b = false → Z y Γ' L')) → Z' y Γ' L') → BK (X.tr pn xe) F0 body Γ L k) :
    SK X F0 (.Try body [.ExceptHandler (some (.Name x np)) none (b₀ :: suite) pos'] [] [] pos) Γ L k := fun F σ H Dn E q => by
  refine wpS.of (L2H.ps_try_onlyX (Wout := ZW X.K F0 Z)
    (tb := fun W Dn σ H => ∀ (pn : List (Addr × Obj)) (xe : Value → Shared → Prop), L2N.Takes (X.tr pn xe) W → PassesOwn (model X.prog X.w) X.A X.env xe → wpB (X.tr pn xe) body Dn σ H)
    (ts := fun a cls d Dn σ H => ∀ (oe : Obj) (pn : List (Addr × Obj)), (∃ vs, oe.data = .fields vs) → L2.Takes (L2H.suiteX X a ((a, oe) :: pn)) (ZW X.K F0 Z) → L2H.HotC (L2H.suiteX X a ((a, oe) :: pn)) → wpB (L2H.suiteX X a ((a, oe) :: pn)) (b₀ :: suite) Dn σ H)
    cf.stk cf.fr hc cf.pa cf.tkC
    (fun W pn xe tk _ own => ⟨fun pins s σ H Dn I h => (h pn xe tk own).run pins s I⟩) (fun a oe cls d pn hz hf tk hot => ⟨fun pins s σ H Dn I h => (h oe pn hf tk hot).run pins s I⟩)) ?_
  intro pn xe tk own
  refine hb pn xe (fun y Γ' L' => ∃ b, PySem.W.exmOne X.K y.c cv = some b ∧
        (b = true → ∀ (a : Addr) (oe : Obj) (pn : List (Addr × Obj)), Cn (L2H.suiteX X a ((a, oe) :: pn)) N Nc sc → L2H.HotC (L2H.suiteX X a ((a, oe) :: pn)) → L2.Takes (L2H.suiteX X a ((a, oe) :: pn)) (ZW X.K F0 Z) → BK (L2H.suiteX X a ((a, oe) :: pn)) F0 (b₀ :: suite) Γ' L' k) ∧
        (b = false → Z y Γ' L')) ⟨⟨cf.n, cf.nd, cf.scp, cf.loc, cf.fn⟩, cf.calm, own, tk.imp ?_, cf.stk, cf.fr⟩ (fun _ _ _ h => h) F σ H Dn E ⟨q.nx, q.rt, q.bk, q.ct⟩
  rintro cls od σ' H' ⟨y, Γ', L', F', rfl, ⟨b, h1, h2, h3⟩, E', x'⟩
  refine ⟨b, h1, fun hb a na => ?_, fun hb => ⟨y, Γ', L', F', rfl, h3 hb, E', x'⟩⟩
  intro oe pn hf tk hot
  exact h2 hb a oe pn ⟨cf.n, cf.nd, cf.scp, cf.loc, cf.fn⟩ hot tk F' _ H' _ E' ⟨q.nx, q.rt, q.bk, q.ct⟩
/-- try: body except x as n: suite; all that the body lets out is caught, of any context -/
theorem sk_try_asC {x n : Str} {cv : Value} {i : Nat} {b₀ : Stmt} {suite : List Stmt} {np pos' : Pos} (cf : Cf X N Nc sc F0 Z) (hi : N[i]? = some n) (hln : sc.names.lookup n = some .local) (hc : Names X x cv)
    (hb : ∀ (pn : List (Addr × Obj)) (xe : Value → Shared → Prop) (Z' : Xc → Gm → Lg → Prop), Cf (X.tr pn xe) N Nc sc F0 Z' → L2.Takes (X.tr pn xe) (ZW X.K F0 Z') →
      (∀ y Γ' L', (PySem.W.exmOne X.K y.c cv = some true ∧
        (∀ (a : Addr) (oe : Obj) (pn : List (Addr × Obj)), (y.fs = none → Zc y.c none oe) → (∃ vs, oe.data = .fields vs) → Cn (X.suite a ((a, oe) :: pn)) N Nc sc → ∃ Γ1, Put Γ' i (some (.ref a)) Γ1 ∧ BK (X.suite a ((a, oe) :: pn)) F0 (b₀ :: suite) Γ1 L'
          { nx := fun Γ2 L2 => ∃ Γ3, Put Γ2 i none Γ3 ∧ k.nx Γ3 L2, rt := k.rt, bk := fun Γ2 L2 => ∃ Γ3, Put Γ2 i none Γ3 ∧ k.bk Γ3 L2, ct := fun Γ2 L2 => ∃ Γ3, Put Γ2 i none Γ3 ∧ k.ct Γ3 L2 })) → Z' y Γ' L') → BK (X.tr pn xe) F0 body Γ L k) :
    SK X F0 (.Try body [.ExceptHandler (some (.Name x np)) (some n) (b₀ :: suite) pos'] [] [] pos) Γ L k := fun F σ H Dn E q => by
  have hi' : X.N[i]? = some n := by rw [cf.n]; exact get_app hi
  refine wpS.of (L2.ps_try_as (i := i) (Wout := fun _ _ _ _ => False)
    (tb := fun W Dn σ H => ∀ (pn : List (Addr × Obj)) (xe : Value → Shared → Prop), L2.Takes (X.tr pn xe) W → PassesOwn (model X.prog X.w) X.A X.env xe → wpB (X.tr pn xe) body Dn σ H)
    (ts := fun a cls d Dn σ H => ∀ (oe : Obj) (pn : List (Addr × Obj)), Zc cls d oe → (∃ vs, oe.data = .fields vs) → wpB (X.suite a ((a, oe) :: pn)) (b₀ :: suite) Dn σ H)
    cf.stk cf.fr (by rw [cf.n]; exact cf.nd) hi' (by show X.env.scope.names.lookup n = _; rw [cf.scp]; exact hln) hc L2.takes0
    (fun W pn xe tk own => ⟨fun pins s σ H Dn I h => (h pn xe tk own).run pins s I⟩) (fun a oe cls d pn hz hf => ⟨fun pins s σ H Dn I h => (h oe pn hz hf).run pins s I⟩)) ?_
  intro pn xe tk own
  let Z' : Xc → Gm → Lg → Prop := fun y Γ' L' => PySem.W.exmOne X.K y.c cv = some true ∧
        (∀ (a : Addr) (oe : Obj) (pn : List (Addr × Obj)), (y.fs = none → Zc y.c none oe) → (∃ vs, oe.data = .fields vs) → Cn (X.suite a ((a, oe) :: pn)) N Nc sc → ∃ Γ1, Put Γ' i (some (.ref a)) Γ1 ∧ BK (X.suite a ((a, oe) :: pn)) F0 (b₀ :: suite) Γ1 L'
          { nx := fun Γ2 L2 => ∃ Γ3, Put Γ2 i none Γ3 ∧ k.nx Γ3 L2, rt := k.rt, bk := fun Γ2 L2 => ∃ Γ3, Put Γ2 i none Γ3 ∧ k.bk Γ3 L2, ct := fun Γ2 L2 => ∃ Γ3, Put Γ2 i none Γ3 ∧ k.ct Γ3 L2 })
  have tkC : L2.Takes (X.tr pn xe) (ZW X.K F0 Z') := by
    refine tk.imp ?_
    rintro cls od σ' H' ⟨y, Γ', L', F', rfl, ⟨h1, h2⟩, E', x'⟩
    refine ⟨true, h1, fun _ a na => ?_, fun hb => nomatch hb⟩
    intro oe pn hz hf
    obtain ⟨Γ1, p1, h4⟩ := h2 a oe pn (fun hn => by
      have e : od = none := by
        unfold XRep at x'
        rw [hn] at x'
        exact x'
      rw [e] at hz
      exact hz) hf ⟨cf.n, cf.nd, cf.scp, cf.loc, cf.fn⟩
    refine h4 F' _ H' _ ⟨E'.ge, E'.led, E'.sl.put .ref p1⟩ ⟨?_, q.rt, ?_, ?_⟩
    · rintro Γ2 L2 F2 σ2 H2 ⟨Γ3, p3, h5⟩ E2
      exact q.nx Γ3 L2 F2 _ H2 h5 ⟨E2.ge, E2.led, E2.sl.out p3⟩
    · rintro Γ2 L2 F2 σ2 H2 ⟨Γ3, p3, h5⟩ E2
      exact q.bk Γ3 L2 F2 _ H2 h5 ⟨E2.ge, E2.led, E2.sl.out p3⟩
    · rintro Γ2 L2 F2 σ2 H2 ⟨Γ3, p3, h5⟩ E2
      exact q.ct Γ3 L2 F2 _ H2 h5 ⟨E2.ge, E2.led, E2.sl.out p3⟩
  exact hb pn xe Z' ⟨⟨cf.n, cf.nd, cf.scp, cf.loc, cf.fn⟩, cf.calm, own, takesN_of tkC, cf.stk, cf.fr⟩ tkC (fun _ _ _ h => h) F σ H Dn E ⟨q.nx, q.rt, q.bk, q.ct⟩
end
/-- the def at f keeps the promise S, exceptions of any context -/
theorem fn_okC {P : Program} {w : World} {K : PySem.W.Frag} {mg : Str → Option Value} {base : Heap} {x qual : Str} {params : Arguments} {body : List Stmt} {scope : Scope} {f : Addr} {fd : FuncData} {N Nc ps : List Str} {n : Nat} {S : SpD}
    (F : FunD K x qual params body scope [] [] f fd) (Sc : FnScope (N ++ Nc) ps scope) (hl : locs N scope = true) (hlen : ∀ ds L q e, S ds L q e → ds.length = ps.length)
    (hb : ∀ (X : Cx) (F0 : Hp) (ds : List D) (L : Lg) (q : D → Lg → Prop) (e : Xc → Lg → Prop), X.prog = P → X.w = w → X.K = K → X.mg = mg → X.base = base → CfC X N Nc scope F0 (fun y _ L' => e y L') → Room n X.A → S ds L q e →
      BK X F0 body (ds.map some ++ List.replicate ((N ++ Nc).length - ps.length) none) L { nx := fun _ L' => q .non L', rt := q }) :
    FnOk P w K mg base (L2.CX P w) (n + 1) f fd ps (spOf K S) := by
  refine F.ok Sc (fun vs H Q E h => ?_) (fun cdv A outer s H vs Q E hr h => ?_)
  · obtain ⟨F, ds, L, q, e, l, r, hS, _⟩ := h
    rw [← r.length]
    exact hlen _ _ _ _ hS
  · obtain ⟨F1, ds, L, q, e, l, r, hS, k1, k2⟩ := h
    have hlen' := hlen _ _ _ _ hS
    refine ⟨_, wb, ?_⟩
    have tk : L2.Takes (cxOf (L2.CX P w) P w K mg base (N ++ Nc) qual scope f cdv A outer s H E) (fun cls d _ H => E cls d H) := L2.takes_of rfl rfl rfl rfl
    have tkC : L2.Takes (cxOf (L2.CX P w) P w K mg base (N ++ Nc) qual scope f cdv A outer s H E) (ZW K F1 (fun y _ L' => e y L')) := tk.imp (fun cls od σ H' ⟨y, Γ, L', F', ec, he, E', x'⟩ => by
        subst ec
        exact k2 y L' F' od H' he E'.ge E'.led x')
    have cf : CfC (cxOf (L2.CX P w) P w K mg base (N ++ Nc) qual scope f cdv A outer s H E) N Nc scope F1 (fun y _ L' => e y L') :=
      ⟨⟨⟨rfl, Sc.nd, rfl, locs_ok hl, fun _ => rfl⟩, rfl, passes_of rfl, takesN_of tkC, rfl, rfl⟩, tkC, fun hd => L2H.passesAt_of rfl hd⟩
    have E1 : At K F1 F1 (ds.map some ++ List.replicate ((N ++ Nc).length - ps.length) none) L (L2.start (N ++ Nc) vs) H := ⟨Same.refl F1, l, by
      have hv : (N ++ Nc).length - ps.length = (N ++ Nc).length - vs.length := by rw [← r.length, hlen']
      unfold L2.start
      rw [hv]
      exact reps_slots _ r⟩
    exact hb (cxOf (L2.CX P w) P w K mg base (N ++ Nc) qual scope f cdv A outer s H E) F1 ds L q e rfl rfl rfl rfl rfl cf hr hS F1 _ H _ E1
      ⟨fun Γ L' F' σ H' h' E' => k1 .non L' F' .non H' h' E'.ge E'.led .non, fun d L' F' v H' h' s' l' r' => k1 d L' F' v H' h' s' l' r', fun _ _ _ _ _ h' _ => h'.elim, fun _ _ _ _ _ h' _ => h'.elim⟩
theorem cal_ofC {P : Program} {w : World} {K : PySem.W.Frag} {mg : Str → Option Value} {base : Heap} {x : Str} {st : Stmt} {fd : FuncData} {N Nc ps : List Str} {n : Nat} {S : SpD}
    (F : FunX K x st fd) (g : mg x = some (.ref (He.ga K x))) (Sc : FnScope (N ++ Nc) ps (defScope st)) (hl : locs N (defScope st) = true) (hb0 : Binds K fd ps []) (hlen : ∀ ds L q e, S ds L q e → ds.length = ps.length)
    (hb : ∀ (X : Cx) (F0 : Hp) (ds : List D) (L : Lg) (q : D → Lg → Prop) (e : Xc → Lg → Prop), X.prog = P → X.w = w → X.K = K → X.mg = mg → X.base = base → CfC X N Nc (defScope st) F0 (fun y _ L' => e y L') → Room n X.A → S ds L q e →
      BK X F0 (defBody st) (ds.map some ++ List.replicate ((N ++ Nc).length - ps.length) none) L { nx := fun _ L' => q .non L', rt := q }) : CalC P w K mg base (n + 1) x ps S :=
  ⟨_, fd, g, F.kp, hb0, fn_okC F Sc hl hlen hb⟩
end Vs

set_option Elab.async false
set_option linter.all false
set_option maxRecDepth 100000
set_option maxHeartbeats 4000000
namespace Vs
open PySem PySem.Spec PyProof.Rows L2 HotX
/-! ### where an exception is handled: comprehensions over range, defs called -/
section
variable {X : Cx}
/-- a comprehension's block that keeps X's pins -/
abbrev blkH (X : Cx) (s : Shared) (H : Hp) (scope : Scope) (cenv : Env) (fp : List Addr) : Cx := { X.blk s H scope cenv fp with pn := X.pn }
theorem inv_pins {pins : List (Addr × Obj)} {Y : Cx} {σ : L2.St} {H : Hp} {s : Shared} (I : Inv Y [] σ H s) (h : ∀ p ∈ pins, s.heap.get? p.1 = some p.2 ∧ H p.1 = none ∧ p.1 ≠ Y.env.locals ∧ p.1 ∉ Y.fs ∧ ∀ v, p.2.data ≠ .cell v) : Inv Y pins σ H s :=
  ⟨I.ok, I.os, I.bare, I.base, I.loc, I.cell, I.free, I.freeC, fun p hp => (List.mem_append.mp hp).elim (fun z => I.pin p (List.mem_append_left _ z)) (h p), I.hok, I.len⟩
theorem ok_toH {s0 : Shared} {H0 : Hp} {scope : Scope} {ce : Env} {fp : List Addr} (o : (X.blk s0 H0 scope ce fp).Ok) : (blkH X s0 H0 scope ce fp).Ok := by
  constructor
  all_goals first | exact o.mod | exact o.kind | exact o.glob | exact o.blt | exact o.above | exact o.inj | exact o.has | exact o.cab | exact o.hd | exact o.frames | exact o.stk | exact o.exf | exact o.bs | exact o.bsz | exact o.noex | exact o.exfs | exact o.funs | exact o.frf
theorem ok_ofH {s0 : Shared} {H0 : Hp} {scope : Scope} {ce : Env} {fp : List Addr} (o : (blkH X s0 H0 scope ce fp).Ok) : (X.blk s0 H0 scope ce fp).Ok := by
  constructor
  all_goals first | exact o.mod | exact o.kind | exact o.glob | exact o.blt | exact o.above | exact o.inj | exact o.has | exact o.cab | exact o.hd | exact o.frames | exact o.stk | exact o.exf | exact o.bs | exact o.bsz | exact o.noex | exact o.exfs | exact o.funs | exact o.frf
theorem inv_toH {s0 : Shared} {H0 : Hp} {scope : Scope} {ce : Env} {fp : List Addr} {σ : L2.St} {H : Hp} {s : Shared} (I : Inv (X.blk s0 H0 scope ce fp) X.pn σ H s) : Inv (blkH X s0 H0 scope ce fp) [] σ H s :=
  ⟨ok_toH I.ok, I.os, I.bare, I.base, I.loc, I.cell, I.free, I.freeC, fun p hp => I.pin p (List.mem_append_right _ (show p ∈ X.pn from by simpa using hp)), I.hok, I.len⟩
theorem inv_ofH {s0 : Shared} {H0 : Hp} {scope : Scope} {ce : Env} {fp : List Addr} {σ : L2.St} {H : Hp} {s : Shared} (I : Inv (blkH X s0 H0 scope ce fp) [] σ H s) : Inv (X.blk s0 H0 scope ce fp) X.pn σ H s :=
  ⟨ok_ofH I.ok, I.os, I.bare, I.base, I.loc, I.cell, I.free, I.freeC, fun p hp => I.pin p (List.mem_append_left _ (show p ∈ X.pn from by simpa using hp)), I.hok, I.len⟩
theorem fp_toH {s0 : Shared} {H0 : Hp} {scope : Scope} {ce : Env} {fp : List Addr} {H : Hp} (h : ∀ b ∈ fp, FpOk (X.blk s0 H0 scope ce fp) X.pn H b) : ∀ b ∈ fp, FpOk (blkH X s0 H0 scope ce fp) [] H b := fun b hb =>
  let ⟨a1, a2, a3, a4, a5, a6⟩ := h b hb
  ⟨a1, a2, a3, a4, a5, fun p hp => a6 p (List.mem_append_right _ (show p ∈ X.pn from by simpa using hp))⟩
theorem hotC_blk {s0 : Shared} {H0 : Hp} {scope : Scope} {ce : Env} {fp : List Addr} (h : L2H.HotC X) : L2H.HotC (blkH X s0 H0 scope ce fp) := by
  obtain ⟨p, h1, h2⟩ := h
  exact ⟨p, h1, h2⟩
/-- [elt for target in range ..if ..], D the new list: P, what holds of the heap behind i turns -/
def tLcR (wi : TI) (g : TG) (tt : TT) (te : TE) (vs : List Nat) : TE := fun σ H Q => wi σ H fun J H1 => ∃ lo n, J = Itr lo n ∧ ∀ D, H1 D = none → ∃ P : Nat → Hp → Prop, P 0 (upd H1 D (.lst [])) ∧ (∀ H', P n H' → Q (.ref D) H') ∧
  ∀ i H', i < n → P i H' → g (.int (lo + (i : Int))) (wipe σ vs) H' fun σ2 H2 => wipe σ2 vs = wipe σ vs ∧ tt σ2 H2 fun b H3 =>
    if b = true then te σ2 H3 fun y H4 => ∃ acc, H4 D = some (.lst acc) ∧ acc.length < sizeLine ∧ P (i + 1) (upd H4 D (.lst (acc ++ [y]))) else P (i + 1) H3
/-- where the block begins -/
theorem blk_startH {pins : List (Addr × Obj)} {σ : L2.St} {H : Hp} {s : Shared} {scope : Scope} {own : List (Str × Nat)} {fp : List Addr} (I : Inv X pins σ H s) (ok : BlkOk X.N X.env.scope scope own) (hN : X.N.Nodup) (hfp : ∀ b ∈ fp, FpOk X pins H b ∧ b < s.heap.objs.size) :
    Inv (blkH X s H scope (compEnvC scope (cellsFrom (s.heap.objs.size + 1) scope.names (cloFrom X.env.cells scope.names [])) s.heap.objs.size X.env) fp) [] (wipe σ (own.map (·.2))) H { s with heap := pushCells (s.heap.push { cls := .type "dict", data := .dict #[] }) scope.names } :=
  inv_toH (inv_pins (block_start I ok hN hfp) fun p hp => by
    have P := I.pin p (List.mem_append_left _ hp)
    exact ⟨pushCells_keeps _ _ _ _ (Heap.get?_push_of_some _ P.1), P.2.1, Nat.ne_of_lt (Heap.lt_size P.1), fun hm => (List.mem_cons.mp (I.stkSub p.1 hm)).elim P.2.2.1 P.2.2.2.1, P.2.2.2.2⟩)
theorem pe_lcR {elt tg iter : Expr} {ifs : List Expr} {scope : Scope} {own : List (Str × Nat)} {pos : Pos} {wi : TI} {g : TG} {tt : TT} {te : TE} (hc : L2H.HotC X) (hN : X.N.Nodup) (hi : L2H.PIH X tg iter wi) (ok : BlkOk X.N X.env.scope scope own)
    (hg : ∀ s H C cl fp, PG (blkH X s H scope (compEnvC scope cl C X.env) fp) tg g) (ht : ∀ s H C cl fp, PTs (blkH X s H scope (compEnvC scope cl C X.env) fp) ifs tt)
    (he : ∀ s H C cl fp, PE (blkH X s H scope (compEnvC scope cl C X.env) fp) elt te) (hs : ∀ x, foldedSetIterable iter X.env x = pure x := by intro _; rfl) :
    PE X (.ListComp elt [⟨tg, iter, ifs, 0⟩] scope pos) (tLcR wi g tt te (own.map (·.2))) := by
  refine ⟨fun pins s σ H Q I h => ?_⟩
  rw [eval_ListComp]
  have hfree : ∀ y ∈ scope.names, y.2 = .free → ∃ c, X.env.cells.lookup y.1 = some c := fun y hy e => (ok.free y hy e).elim (fun k => I.ok.has _ (.inl k)) fun k => I.ok.has _ (.inr k)
  refine wpAny_comprehension_free rfl hs (closure_ok hfree) ok.kind (fun y hy e => by rw [ok.uniq y hy, e]) (thn (hi.run pins s σ H _ I h) fun xv s1 hx => thn hx fun itv s2 h2 => ?_)
  obtain ⟨it, fp, tn, J, H2, rfl, I2, T, st2, f2, lo, n, rfl, q⟩ := h2
  refine wpAny_newObj_type (newEnv_comp ?_) (by show 0 ≤ sizeLine; decide)
  obtain ⟨P, w0, wQ, turn⟩ := q s2.heap.objs.size (I2.hok.fresh (Nat.le_refl _))
  -- the list, new
  have I3 : Inv X pins σ (upd H2 s2.heap.objs.size (.lst [])) { s2 with heap := s2.heap.push { cls := .type "list", data := .seq ([] : List Value).toArray } } :=
    I2.laid (t' := s2.toks) (fun b o e => Heap.get?_push_of_some _ e) (Nat.le_refl _) ⟨Nat.zero_le _, [], 0, .nil, Heap.get?_push_size _ rfl⟩
  have f3 : ∀ b ∈ fp, FpOk X pins (upd H2 s2.heap.objs.size (.lst [])) b ∧ b < (s2.heap.push { cls := .type "list", data := .seq ([] : List Value).toArray }).objs.size := fun b hb => by
    obtain ⟨o, e, _⟩ := T.obj _ _ st2 b hb
    have hlt := Heap.lt_size e
    exact ⟨⟨by rw [upd_ne (Nat.ne_of_lt hlt)]; exact (f2 b hb).1, (f2 b hb).2⟩, by rw [Heap.size_push]; exact Nat.lt_succ_of_lt hlt⟩
  have st3 := T.keep _ _ (s2.heap.push { cls := .type "list", data := .seq ([] : List Value).toArray }) st2 fun b _ o e => Heap.get?_push_of_some _ e
  generalize hD : s2.heap.objs.size = D at *
  generalize hs3 : ({ s2 with heap := s2.heap.push { cls := .type "list", data := .seq ([] : List Value).toArray } } : Shared) = s3 at *
  have e3 : s3.heap = s2.heap.push { cls := .type "list", data := .seq ([] : List Value).toArray } := by rw [← hs3]
  rw [← e3] at f3 st3
  have I4 := blk_startH I3 ok hN f3
  have st4 := T.keep _ _ (pushCells (s3.heap.push { cls := .type "dict", data := .dict #[] }) scope.names) st3 fun b _ o e => pushCells_keeps _ _ _ _ (Heap.get?_push_of_some _ e)
  have nfp : ∀ b ∈ fp, (upd H2 D (.lst [])) b = none := fun b hb => (f3 b hb).1.1
  have pg := hg s3 (upd H2 D (.lst [])) s3.heap.objs.size (cellsFrom (s3.heap.objs.size + 1) scope.names (cloFrom X.env.cells scope.names [])) fp
  have pt := ht s3 (upd H2 D (.lst [])) s3.heap.objs.size (cellsFrom (s3.heap.objs.size + 1) scope.names (cloFrom X.env.cells scope.names [])) fp
  have pe := he s3 (upd H2 D (.lst [])) s3.heap.objs.size (cellsFrom (s3.heap.objs.size + 1) scope.names (cloFrom X.env.cells scope.names [])) fp
  have hotB := hotC_blk (s0 := s3) (H0 := upd H2 D (.lst [])) (scope := scope) (ce := compEnvC scope (cellsFrom (s3.heap.objs.size + 1) scope.names (cloFrom X.env.cells scope.names [])) s3.heap.objs.size X.env) (fp := fp) hc
  show codeAny _ _ (.compStart (.ListComp elt [⟨tg, iter, ifs, 0⟩] scope pos) 0 (.ref it) (.ref D) (compEnvC scope (cellsFrom (s3.heap.objs.size + 1) scope.names (cloFrom X.env.cells scope.names [])) s3.heap.objs.size X.env)) _ { s3 with heap := pushCells (s3.heap.push { cls := .type "dict", data := .dict #[] }) scope.names }
  have cL : (compEnvC scope (cellsFrom (s3.heap.objs.size + 1) scope.names (cloFrom X.env.cells scope.names [])) s3.heap.objs.size X.env).locals = s3.heap.objs.size := rfl
  generalize compEnvC scope (cellsFrom (s3.heap.objs.size + 1) scope.names (cloFrom X.env.cells scope.names [])) s3.heap.objs.size X.env = ce at *
  generalize hs4 : ({ s3 with heap := pushCells (s3.heap.push { cls := .type "dict", data := .dict #[] }) scope.names } : Shared) = s4 at *
  have e4 : s4.heap = pushCells (s3.heap.push { cls := .type "dict", data := .dict #[] }) scope.names := by rw [← hs4]
  rw [← e4] at st4
  have stat : ∀ {σ' : L2.St} {H' : Hp} {s' : Shared}, Inv (blkH X s3 (upd H2 D (.lst [])) scope ce fp) [] σ' H' s' → (∀ b ∈ fp, H' b = none) → ∀ b ∈ fp, FpOk (blkH X s3 (upd H2 D (.lst [])) scope ce fp) [] H' b := fun I' hn b hb =>
    ⟨hn b hb, (I'.ok.exf b hb).1, I'.ok.exfs b hb, .inl hb, (I'.ok.exf b hb).2, fun p hp => (f3 b hb).1.2.2.2.2.2 p (List.mem_append_left _ (show p ∈ X.pn from by simpa using hp))⟩
  have loop : codeAny (model X.prog X.w) X.A (.compLoop (.ListComp elt [⟨tg, iter, ifs, 0⟩] scope pos) 0 (.ref it) (.ref D) ce) (compPost (model X.prog X.w) X.A X.xe none (EP X pins σ Q) (.ref D) s3.heap.objs.size) s4 := by
    refine compLoop_any (fun m s' => ∃ i H', i + m = n ∧ Inv (blkH X s3 (upd H2 D (.lst [])) scope ce fp) [] (wipe σ (own.map (·.2))) H' s' ∧ tn i s'.heap ∧ (∀ b ∈ fp, H' b = none) ∧ P i H') ?_ n ⟨0, _, Nat.zero_add n, I4, st4, nfp, w0⟩
    rintro m s5 ⟨i, H5, him, I5, st5, n5, w5⟩
    by_cases hin : i < n
    · -- a turn
      refine thnF (T.item (blkH X s3 (upd H2 D (.lst [])) scope ce fp) rfl rfl rfl hotB i [] s5 _ H5 (fun _ _ => False) I5 (stat I5 n5) st5 hin) fun r s6 ⟨u, hr, h6⟩ => ?_
      subst hr
      refine thnF h6 fun _ s7 ⟨x, H7, I7, r7, y7, st7, n7⟩ => ?_
      obtain ⟨rfl, rfl⟩ : H7 = H5 ∧ x = .int (lo + (i : Int)) := y7
      have ends : ∀ {s' : Shared} {σ' : L2.St} {H' : Hp}, wipe σ' (own.map (·.2)) = wipe σ (own.map (·.2)) → Inv (blkH X s3 (upd H2 D (.lst [])) scope ce fp) ([] ++ pinsAt fp s7.heap) σ' H' s' → P (i + 1) H' →
          ∃ m', m' < m ∧ ∃ i H', i + m' = n ∧ Inv (blkH X s3 (upd H2 D (.lst [])) scope ce fp) [] (wipe σ (own.map (·.2))) H' s' ∧ tn i s'.heap ∧ (∀ b ∈ fp, H' b = none) ∧ P i H' := fun {s' σ' H'} hw I' w' => by
        have pin' : ∀ b ∈ fp, ∀ o, s7.heap.get? b = some o → s'.heap.get? b = some o ∧ H' b = none := fun b hb o e =>
          let z := I'.pin (b, o) (List.mem_append_right _ (List.mem_append_right _ (mem_pinsAt hb e)))
          ⟨z.1, z.2.1⟩
        refine ⟨m - 1, by omega, i + 1, H', by omega, (I'.unpinned (pins := [])).weak (by rw [← hw, wipe_length]) (fun j v e => ?_), T.keep _ _ _ st7 fun b hb o e => (pin' b hb o e).1, fun b hb => ?_, w'⟩
        · rw [← hw] at e
          exact (wipe_some e).1
        · obtain ⟨o, e, _⟩ := T.obj _ _ st7 b hb
          exact (pin' b hb o e).2
      refine thnF (pg.run _ s7 _ H7 _ u _ (I7.pinned (stat I7 n7) (T.obj _ _ st7)) r7 (turn i H7 hin w5)) fun _ s8 ⟨σ8, H8, I8, hw8, q8⟩ => ?_
      refine thnF (pt.run _ s8 σ8 H8 _ I8 q8) fun b s9 ⟨H9, I9, q9⟩ => ?_
      cases b with
      | false => exact ends hw8 I9 q9
      | true => exact thnF (pe.run _ s9 σ8 H9 _ I9 q9) fun z s10 ⟨yv, H10, I10, r10, acc, hD10, hz10, nx⟩ => app_ok (X := blkH X s3 (upd H2 D (.lst [])) scope ce fp) I10 hD10 hz10 r10 fun s11 I11 => ends hw8 I11 nx
    · -- the end
      obtain rfl : i = n := by omega
      refine thnF (T.done (blkH X s3 (upd H2 D (.lst [])) scope ce fp) rfl rfl rfl hotB i [] s5 _ H5 (fun _ _ => False) I5 (stat I5 n5) st5 (Nat.le_refl _)) fun r s6 ⟨hr, I6⟩ => ?_
      subst hr
      have I7 : Inv X pins σ H5 s6 := I3.call' (ch := fp) I6.os I6.base I6.hok I6.bare fun b hb => ⟨(f3 b hb).1.2.2.2.1, (f3 b hb).1.2.1, (f3 b hb).1.2.2.2.2.1, (f3 b hb).1.2.2.2.2.2⟩
      have nC : H5 s3.heap.objs.size = none := cL ▸ I6.free
      obtain ⟨m', hn, _⟩ := I6.loc
      have hn : s6.heap.Ns ce.locals m' := hn
      rw [cL] at hn
      obtain ⟨f0, f1, f2', f3', f4, f5⟩ := I3.fpOk (H' := H5) (Nat.le_refl _) nC
      exact ⟨m', hn, fun h'' sb => ⟨.ref D, H5, I7.turned (t' := s6.toks) (fun b o hb e => (sb.2 b hb).trans e) f0 f1 f3' f4 f5, rfl, wQ H5 w5⟩⟩
  exact codeAny_compStart_list loop (T.self X.A 0 _ _ _ st4 loop)
end
/-! the same over the layer's data -/
structure wpIH (X : Cx) (tg iter : Expr) (σ : L2.St) (H : Hp) (R : It → Hp → Prop) : Prop where
  run : ∀ pins s, Inv X pins σ H s → wpAny (model X.prog X.w) X.A (eval iter X.env) (fun v s1 => wpAny (model X.prog X.w) X.A (pyIter v) (L2H.PIEH X pins σ tg R) X.xe s1) X.xe s
theorem wiH {X : Cx} {tg iter : Expr} : L2H.PIH X tg iter (wpIH X tg iter) := ⟨fun pins s _ _ _ I h => h.run pins s I⟩
theorem wpIH.of {X : Cx} {tg iter : Expr} {t : TI} {σ : L2.St} {H : Hp} {R : It → Hp → Prop} (p : L2H.PIH X tg iter t) (h : t σ H R) : wpIH X tg iter σ H R := ⟨fun pins s I => p.run pins s σ H R I h⟩
/-- the names of such a block -/
structure CbH (X : Cx) (N : List Str) (bs : Scope) : Prop where
  n : X.N = N
  nd : N.Nodup
  vis : ∀ x, (bs.names.lookup x = some .local ∨ bs.names.lookup x = some .cell ∨ bs.names.lookup x = some .free) → Vis X.env.scope x
  own : ∀ x, bs.names.lookup x = some .local → X.env.scope.names.lookup x = some .local
section
variable {X : Cx} {F0 : Hp} {Γ : Gm} {L : Lg} {k : D → Lg → Prop} {a : Expr} {pos p2 : Pos} {N Nc M : List Str} {sc : Scope}
theorem blk_okH {s : Shared} {H : Hp} {C : Addr} {cl : List (Str × Addr)} {fp : List Addr} {bs : Scope} (hn : X.N = M) (nd : M.Nodup) : CbH (blkH X s H bs (compEnvC bs cl C X.env) fp) M bs where
  n := hn
  nd := nd
  vis := fun x h => by
    show Vis (relabel bs X.env) x
    rcases h with h | h | h
    · exact (relabel_free (env := X.env) h).elim .inl fun z => by cases z.1
    · exact (relabel_free (env := X.env) h).elim (fun z => .inr (.inl z)) fun z => by cases z.1
    · exact (relabel_free (env := X.env) h).elim (fun z => .inr (.inr z)) fun z => .inr (.inl z.2)
  own := fun x h => (relabel_free (env := X.env) h).elim id fun z => by cases z.1
theorem ek_bH {bs : Scope} (c : CbH X N bs) {i : Nat} {x : Str} {d : D} (g : Get Γ i (some d)) (h : k d L) (hi : N[i]? = some x := by rfl) (hv : bs.names.lookup x = some .local ∨ bs.names.lookup x = some .cell ∨ bs.names.lookup x = some .free := by first | exact .inl rfl | exact .inr (.inr rfl) | exact .inr (.inl rfl))
    (hd : (x == ("__debug__" : Str)) = false := by decide) (hcd : (x == ("__classdict__" : Str)) = false := by decide) : EvK X F0 (.Name x pos) Γ L k :=
  ek_v (pe_var (by rw [c.n]; exact hi) (c.vis x hv) hd hcd) g h
theorem tb_nH {bs : Scope} (c : CbH X N bs) {j : Nat} {x : Str} {d : D} {vs : List Nat} {kg : Gm → Lg → Prop} (h : ∃ Γ', Put Γ j (some d) Γ' ∧ kg Γ' L) (hj : N[j]? = some x := by rfl) (hv : bs.names.lookup x = some .local := by rfl) (hm : j ∈ vs := by decide) : TbK X F0 (.Name x pos) vs d Γ L kg := fun F σ H v Q E r q => by
  obtain ⟨Γ', p, hk⟩ := h
  exact wpG.of (pg_name (i := j) (by rw [c.n]; exact c.nd) (by rw [c.n]; exact hj) (.inl (c.own x hv)) (.inr (c.own x hv))) (q Γ' L F _ H hk ⟨E.ge, E.led, E.sl.put r p⟩ (Same.refl F) (wipe_set hm))
/-- [elt for tg in range(a) if ..] where an exception is handled -/
theorem ek_lcR {elt tg : Expr} {ifs : List Expr} {bs : Scope} {p : Pos} (own : List (Str × Nat)) (cn : Cn X N Nc sc) (hot : L2H.HotC X) (ok : blkC (N ++ Nc) sc bs own = true) (hm : X.mg "range" = none) (hg : Gl X "range")
    (h : EvK X F0 a Γ L fun x L1 => ∃ j : Int, x = .int j ∧ (-(2 ^ 62) ≤ j ∧ j < 2 ^ 62) ∧ ∃ es : List (Option D), es.length = j.toNat ∧ j.toNat ≤ 1000000 ∧
      (∀ (F1 : UpH F0) (n : Nat) (e : Option D) (acc : List D) (Dp : Addr), n < j.toNat → es[n]? = some e →
        ∀ X', CbH X' (N ++ Nc) bs → (∃ s H C cl fp, X' = blkH X s H bs (compEnvC bs cl C X.env) fp) → TbK X' F1.h tg (own.map (·.2)) (.int (0 + (n : Int))) (wipeG Γ (own.map (·.2))) (L1 ++ [(Dp, .lst acc)]) fun Γ2 L2 => L2 = L1 ++ [(Dp, .lst acc)] ∧
          ∀ X', CbH X' (N ++ Nc) bs → (∃ s H C cl fp, X' = blkH X s H bs (compEnvC bs cl C X.env) fp) → EsK X' F1.h ifs Γ2 L2 fun t L3 => L3 = L2 ∧
            (t = true → ∀ X', CbH X' (N ++ Nc) bs → (∃ s H C cl fp, X' = blkH X s H bs (compEnvC bs cl C X.env) fp) → EvK X' F1.h elt Γ2 L2 fun y L4 => L4 = L2 ∧ e = some y) ∧ (t = false → e = none)) ∧ k (.lst (es.filterMap id)) L1)
    (hs : ∀ x, foldedSetIterable (.Call (.Name "range" p) [a] [] p2) X.env x = pure x := by intro _; rfl) (hs1 : starEach [a] X.env = [(false, eval a X.env)] := by rfl) : EvK X F0 (.ListComp elt [⟨tg, .Call (.Name "range" p) [a] [] p2, ifs, 0⟩] bs pos) Γ L k := fun F σ H Q E q => by
  have hM := cn.n
  have nd := cn.nd
  refine wpE.of (pe_lcR (own := own) (g := fun v σ H Q => ∀ s0 H0 C cl fp, wpG (blkH X s0 H0 bs (compEnvC bs cl C X.env) fp) tg v σ H Q) (tt := fun σ H Q => ∀ s0 H0 C cl fp, wpPs (blkH X s0 H0 bs (compEnvC bs cl C X.env) fp) ifs σ H Q)
    (te := fun σ H Q => ∀ s0 H0 C cl fp, wpE (blkH X s0 H0 bs (compEnvC bs cl C X.env) fp) elt σ H Q) hot (by rw [hM]; exact nd) wiH (by rw [hM, cn.scp]; exact blkOk_by ok)
    (fun s0 H0 C cl fp => ⟨fun pins s _ _ _ u _ I r h => (h s0 H0 C cl fp).run pins s u I r⟩) (fun s0 H0 C cl fp => ⟨fun pins s _ _ _ I h => h s0 H0 C cl fp pins s I⟩) (fun s0 H0 C cl fp => ⟨fun pins s _ _ _ I h => (h s0 H0 C cl fp).run pins s I⟩) hs) ?_
  refine wpIH.of (L2H.pi_range1H hg hm (pa_cons we pa_nil hs1) hs1) (h F σ H _ E fun x L1 F1 v H1 ⟨j, e1, hj, es, hes, hz, hb, hk⟩ E1 s1 r1 => ?_)
  subst e1
  cases r1
  refine ⟨j, rfl, hj.1, hj.2, 0, j.toNat, rfl, fun Dp hD => ⟨fun i H => ∃ F, Same F1 F ∧ At X.K F0 F Γ (L1 ++ [(Dp, .lst ((es.take i).filterMap id))]) σ H, ⟨F1, Same.refl F1, E1.to (Same.refl F1) (E1.led.last hD .nil)⟩, ?_, ?_⟩⟩
  · rintro H' ⟨F2, s2, E2⟩
    rw [← hes, List.take_length] at E2
    obtain ⟨xs, hx, l, s3, r⟩ := E2.led.unlast
    exact q _ L1 _ _ _ hk (E2.to s3 l) (s1.trans (s2.trans s3)) (.lst (.inl (.inl upd_same)) (r.mono s3))
  · rintro i H2 hi ⟨F2, s2, E2⟩
    obtain ⟨e, hei⟩ : ∃ e, es[i]? = some e := ⟨es[i]'(by omega), List.getElem?_eq_getElem (by omega)⟩
    have htk : (es.take (i + 1)).filterMap id = (es.take i).filterMap id ++ e.toList := by
      rw [List.take_add_one, hei, List.filterMap_append]
      cases e <;> rfl
    have hlen : ((es.take i).filterMap id).length ≤ es.length := Nat.le_trans (List.length_filterMap_le _ _) (by rw [List.length_take]; exact Nat.min_le_right _ _)
    intro s0 H0 C0 cl0 fp0
    refine hb ⟨F1, E1.ge⟩ i e _ Dp hi hei _ (blk_okH hM nd) ⟨s0, H0, C0, cl0, fp0, rfl⟩ F2 (wipe σ (own.map (·.2))) H2 _ _ ⟨s2, E2.led, E2.sl.wipe _⟩ .int ?_
    rintro Γ4 L4 F4 σ4 H4 ⟨rfl, h4⟩ E4 s4 hw
    refine ⟨by rw [hw]; refine List.ext_getElem? fun z => ?_; by_cases hz : z ∈ own.map (·.2); (rw [wipe_in hz, wipe_in hz, wipe_length]); (rw [wipe_out hz]), ?_⟩
    intro s0 H0 C0 cl0 fp0
    refine h4 _ (blk_okH hM nd) ⟨s0, H0, C0, cl0, fp0, rfl⟩ F4 σ4 H4 _ E4 ?_
    rintro t L5 F5 H5 ⟨rfl, h5, h6⟩ E5 s5
    cases t with
    | false =>
      rw [if_neg Bool.false_ne_true]
      have e0 := h6 rfl
      subst e0
      rw [Option.toList_none, List.append_nil] at htk
      refine ⟨F5, E5.ge, ?_⟩
      rw [htk]
      exact E2.to (s4.trans s5) E5.led
    | true =>
      rw [if_pos rfl]
      intro s0 H0 C0 cl0 fp0
      refine h5 rfl _ (blk_okH hM nd) ⟨s0, H0, C0, cl0, fp0, rfl⟩ F5 σ4 H5 _ E5 ?_
      rintro y L6 F6 v6 H6 ⟨rfl, he⟩ E6 s6 r6
      subst he
      obtain ⟨xs, hx, rx⟩ := E6.led.lst (get_last (x := (Dp, C.lst ((es.take i).filterMap id))) L1)
      refine ⟨xs, hx, by rw [← rx.length]; exact Nat.lt_of_le_of_lt hlen (Nat.lt_of_le_of_lt (by rw [hes]; exact hz) (by decide)), F6, E6.ge, ?_⟩
      rw [htk]
      exact E2.to (s4.trans (s5.trans s6)) (E6.led.put (get_last L1) (put_last L1) ⟨_, upd_same, rx.append (.cons r6 .nil)⟩)
end
/-! defs called in an except suite, the exception handed on -/
/-- what is known of the exception's object -/
def Own (D : Addr) : Obj → Prop := fun o => Zc (.ref D) none o ∧ ∃ vs, o.data = .fields vs
theorem call_isP {X : Cx} {a D : Addr} {oe : Obj} (hp : (a, oe) ∈ X.pn) (C : ExcC X.K D) (ho : Own D oe) : CallR X (.builtin "isinstance") (rIsE X.K D a) := by
  rintro pins s σ H xs us Q I r ⟨x, cv, b, rfl, hcv, e, q⟩
  obtain ⟨u1, u2, rfl, r1, r2⟩ := vals2 r
  cases (show u1 = Value.ref a from r1)
  obtain rfl := hcv _ r2
  have hget := (I.pin (a, oe) (List.mem_append_left _ hp)).1
  have J : PySem.W.InstAt s.heap a oe D none := by
    obtain ⟨oc, od, oda, osl⟩ := oe
    obtain ⟨⟨h1, h2⟩, vs, hv⟩ := ho
    dsimp only at h1 h2 hv
    subst h1 h2 hv
    exact ⟨hget, rfl, rfl, trivial⟩
  exact PySem.W.kia_one (PySem.W.handS_kitx_exc C.hg C.hk C.hs C.hd C.ha C.hn C.ht C.hm) I.kIn J e (fun z => nomatch z) fun tk => ⟨.bl b, H, I.kept (t' := tk) fun _ _ z => z, rfl, q⟩
/-- what a def promises where the exception at p is handled -/
structure FnZ (P : Program) (w : World) (K : PySem.W.Frag) (mg : Str → Option Value) (base : Heap) (k : Nat) (f : Addr) (fd : FuncData) (ps : List Str) (Zp : Obj → Prop) (sp : Addr → Sp) : Prop where
  len : ∀ a vs H Q E, sp a vs H Q E → vs.length = ps.length
  run : ∀ (A : Around) (outer : List Env) (s : Shared) (H : Hp) (args : Args) (us : List Value) (vs : List V) (Q : VK) (E : XK) (p : Addr × Obj), L2H.RoomH k A → L2H.Hot1 A p → Zp p.2 → L2H.PinOk outer H s p → Env0 P w K mg base A outer s H → BindsTo s fd args (ps.zip us) → Vals vs us → sp p.1 vs H Q E →
    codeAny (model P w) A (.call (.ref f) args) (CR (L2.CX P w) outer P w H s Q E) s
structure CalZ (P : Program) (w : World) (K : PySem.W.Frag) (mg : Str → Option Value) (base : Heap) (n : Nat) (x : Str) (ps : List Str) (Zp : Obj → Prop) (S : Addr → SpD) : Prop where
  ex : ∃ f fd, mg x = some (.ref f) ∧ PySem.W.keepIn K (.ref f) = true ∧ Binds K fd ps [] ∧ FnZ P w K mg base n f fd ps Zp fun a => spOf K (S a)
abbrev CalZX (X : Cx) (n : Nat) (x : Str) (ps : List Str) (Zp : Obj → Prop) (S : Addr → SpD) : Prop := CalZ X.prog X.w X.K X.mg X.base n x ps Zp S
theorem fn_okZ {P : Program} {w : World} {K : PySem.W.Frag} {mg : Str → Option Value} {base : Heap} {x qual : Str} {params : Arguments} {body : List Stmt} {scope : Scope} {f : Addr} {fd : FuncData} {N Nc ps : List Str} {n : Nat} {Zp : Obj → Prop} {S : Addr → SpD}
    (F : FunD K x qual params body scope [] [] f fd) (Sc : FnScope (N ++ Nc) ps scope) (hl : locs N scope = true) (hlen : ∀ a ds L q e, S a ds L q e → ds.length = ps.length)
    (hb : ∀ (X : Cx) (F0 : Hp) (a : Addr) (oe : Obj) (ds : List D) (L : Lg) (q : D → Lg → Prop) (e : Xc → Lg → Prop), X.prog = P → X.w = w → X.K = K → X.mg = mg → X.base = base → Cn X N Nc scope → L2H.Hot1 X.A (a, oe) → (a, oe) ∈ X.pn → Zp oe → L2H.RoomH n X.A → S a ds L q e →
      BK X F0 body (ds.map some ++ List.replicate ((N ++ Nc).length - ps.length) none) L { nx := fun _ L' => q .non L', rt := q }) :
    FnZ P w K mg base (n + 1) f fd ps Zp fun a => spOf K (S a) := by
  have len : ∀ a vs H Q E, spOf K (S a) vs H Q E → vs.length = ps.length := by
    rintro a vs H Q E ⟨F, ds, L, q, e, l, r, hS, _⟩
    rw [← r.length]
    exact hlen _ _ _ _ _ hS
  obtain ⟨oc, od, dV, kV, doc, pm, an, cdv, ct, osl, rfl, lk, hcd, _, _⟩ := F.ex
  refine ⟨len, fun A outer s H args us vs Q E p hr hot hz hpin e0 hbi r hsp => ?_⟩
  have KX : K.In s.heap := e0.mod.kin.keeps fun b o e => (e0.bs b o e).1
  have lim : s.heap.NoLimit := e0.mod.nolimit.keeps fun b o e => (e0.bs b o e).1
  refine codeAny_call_function hr.depth (KX _ _ lk) rfl Sc.co Sc.gen rfl (PySem.W.codeRec_of KX hcd) (hbi _ _ _ _ ?_)
  refine wpAny_newFunctionEnv_cells Sc.kind (fun ⟨y, v⟩ hy => (Sc.par y (List.of_mem_zip hy).1).elim .inl fun z => .inr ⟨z, PySem.W.cellsFrom_some _ _ _ (.inl z)⟩) fun env he s1 xx => ?_
  subst he
  refine ⟨lim.keeps xx.toInCall.keep, codeAny_func ?_⟩
  have hl2 := len _ _ _ _ _ hsp
  have I := L2H.inv_startH (CX := L2.CX P w) (w := w) (E := E) Sc hpin e0 hl2 r xx
  obtain ⟨F1, ds, L, q, e, l, rr, hS, k1, k2⟩ := hsp
  have cn : Cn (L2H.cxH (L2.CX P w) P w K mg base (N ++ Nc) qual scope f cdv A outer s H E p) N Nc scope := ⟨rfl, Sc.nd, rfl, locs_ok hl, fun _ => rfl⟩
  have E1 : At K F1 F1 (ds.map some ++ List.replicate ((N ++ Nc).length - ps.length) none) L (L2.start (N ++ Nc) vs) H := ⟨Same.refl F1, l, by
    have hv : (N ++ Nc).length - ps.length = (N ++ Nc).length - vs.length := by rw [hl2]
    unfold L2.start
    rw [hv]
    exact reps_slots _ rr⟩
  have B := hb _ F1 p.1 p.2 ds L q e rfl rfl rfl rfl rfl cn hot (List.mem_cons_self ..) hz (hr.deeper _) hS F1 _ H { nx := fun _ H' => Q .non H', rt := Q } E1
    ⟨fun Γ L' F' σ H' h' E' => k1 .non L' F' .non H' h' E'.ge E'.led .non, fun d L' F' v H' h' s' l' r' => k1 d L' F' v H' h' s' l' r', fun _ _ _ _ _ h' _ => h'.elim, fun _ _ _ _ _ h' _ => h'.elim⟩
  refine wpAny_mono (B.run [] s1 I) (fun fl s' hs => ?_) fun e s' hs => hs
  cases fl with
  | ret u =>
    obtain ⟨v, σ', H', J, rv, q⟩ := hs
    exact ⟨v, H', J.os, J.bare, J.base, J.hok, rv, q⟩
  | next =>
    obtain ⟨σ', H', J, q⟩ := hs
    exact ⟨V.non, H', J.os, J.bare, J.base, J.hok, rfl, q⟩
  | brk => exact hs.elim fun _ ⟨_, _, z⟩ => z.elim
  | cont => exact hs.elim fun _ ⟨_, _, z⟩ => z.elim
theorem cal_ofZ {P : Program} {w : World} {K : PySem.W.Frag} {mg : Str → Option Value} {base : Heap} {x : Str} {st : Stmt} {fd : FuncData} {N Nc ps : List Str} {n : Nat} {Zp : Obj → Prop} {S : Addr → SpD}
    (F : FunX K x st fd) (g : mg x = some (.ref (He.ga K x))) (Sc : FnScope (N ++ Nc) ps (defScope st)) (hl : locs N (defScope st) = true) (hb0 : Binds K fd ps []) (hlen : ∀ a ds L q e, S a ds L q e → ds.length = ps.length)
    (hb : ∀ (X : Cx) (F0 : Hp) (a : Addr) (oe : Obj) (ds : List D) (L : Lg) (q : D → Lg → Prop) (e : Xc → Lg → Prop), X.prog = P → X.w = w → X.K = K → X.mg = mg → X.base = base → Cn X N Nc (defScope st) → L2H.Hot1 X.A (a, oe) → (a, oe) ∈ X.pn → Zp oe → L2H.RoomH n X.A → S a ds L q e →
      BK X F0 (defBody st) (ds.map some ++ List.replicate ((N ++ Nc).length - ps.length) none) L { nx := fun _ L' => q .non L', rt := q }) : CalZ P w K mg base (n + 1) x ps Zp S :=
  ⟨_, fd, g, F.kp, hb0, fn_okZ F Sc hl hlen hb⟩
section
variable {X : Cx} {F0 : Hp} {Γ : Gm} {L : Lg} {k : D → Lg → Prop} {e a b : Expr} {es : List Expr} {pos p2 : Pos} {ad Dc : Addr} {oe : Obj}
theorem ek_isP {p : Pos} (hp : (ad, oe) ∈ X.pn) (C : ExcC X.K Dc) (ho : Own Dc oe) (hm : X.mg "isinstance" = none) (hg : Gl X "isinstance")
    (h : EvK X F0 a Γ L fun x L1 => x = .ref ad ∧ EvK X F0 b Γ L1 fun y L2 => ∃ u r, ClsD y u ∧ PySem.W.kitOne X.K (.ref Dc) u = some r ∧ k (.bl r) L2)
    (he : starEach [a, b] X.env = (false, eval a X.env) :: starEach [b] X.env := by rfl) (he2 : starEach [b] X.env = (false, eval b X.env) :: starEach [] X.env := by rfl) (hpl : (backTo pos (starEach [b] X.env)).any (·.1) = false := by rfl) :
    EvK X F0 (.Call (.Name "isinstance" p) [a, b] [] pos) Γ L k :=
  ek_cb (call_isP hp C ho) hm boot_isinstance (P := fun ds L1 kk => ∃ y u r, ds = [.ref ad, y] ∧ ClsD y u ∧ PySem.W.kitOne X.K (.ref Dc) u = some r ∧ kk (.bl r))
    (fun F L' σ H ds vs kk Q E r ⟨y, u, rr, e1, hc, hk, hq⟩ q => by
      subst e1
      obtain ⟨v, v', rfl, r1, r2⟩ := reps2 r
      cases r1
      exact ⟨v', u, rr, rfl, fun w hw => (hc.v r2).eq hw, hk, q _ F _ H hq E (Same.refl F) .bl⟩)
    (ea_cons (fun F σ H Q E q => h F σ H Q E fun x L1 F1 v H1 ⟨e1, h1⟩ E1 s1 r1 => q x L1 F1 v H1 (ea_cons (fun F σ H Q E q => h1 F σ H Q E fun y L2 F2 u H2 ⟨w, rr, h2, h3, h4⟩ E2 s2 r2 => q y L2 F2 u H2 (ea_nil ⟨y, w, rr, by rw [e1], h2, h3, h4⟩) E2 s2 r2) he2) E1 s1 r1) he) hg (he := he) (hpl := hpl)
/-- such a def is called; it raises nothing -/
theorem ek_callZ {x : Str} {n : Nat} {ps : List Str} {Zp : Obj → Prop} {S : Addr → SpD} {p : Pos} (hot : L2H.Hot1 X.A (ad, oe)) (hp : (ad, oe) ∈ X.pn) (hz : Zp oe) (G : CalZX X n x ps Zp S) (hr : L2H.RoomH n X.A)
    (h : EaK X F0 (e :: es) Γ L fun ds L1 => S ad ds L1 k fun _ _ => False) (hg : Gl X x)
    (hdb : (x == ("__debug__" : Str)) = false := by decide) (he : starEach (e :: es) X.env = (false, eval e X.env) :: starEach es X.env := by rfl) (hpl : (backTo pos (starEach es X.env)).any (·.1) = false := by rfl) :
    EvK X F0 (.Call (.Name x p) (e :: es) [] pos) Γ L k := fun F σ H Q E q => by
  obtain ⟨f, fd, hm, hk, hb, G⟩ := G.ex
  refine ⟨fun pins s I => wpAny_Call_Name_kw (ld_glob I hg hm ?_ hdb)⟩
  have ha := h F σ H (fun vs H1 => spOf X.K (S ad) vs H1 Q fun _ _ _ => False) E fun ds L1 F1 vs H1 h1 E1 s1 r1 =>
    ⟨F1, ds, L1, k, fun _ _ => False, E1.led, r1, h1, fun r L' F' v H' hq s2 l2 r2 => q r L' F' v H' hq ⟨E1.ge.trans s2, l2, E1.sl.mono s2⟩ (s1.trans s2) r2, fun _ _ _ _ _ z => z.elim⟩
  refine PySem.W.callWith_K (h₀ := X.base) I.ok.mod.kin hk (thn (ha.run pos pins s I) fun us s1 ⟨vs, H1, I1, r, hsp⟩ => ⟨I1.kIn, ?_⟩) he hpl
  have hl : us.length = ps.length := by rw [← r.length]; exact G.len _ _ _ _ _ hsp
  have hbi := hb s1 us I1.kIn (by rw [List.append_nil]; exact hl)
  rw [List.append_nil] at hbi
  have P1 := I1.pin (ad, oe) (List.mem_append_left _ hp)
  refine wpAny_call (codeAny_mono (G.run X.A X.stack s1 H1 ⟨us, []⟩ us vs Q (fun _ _ _ => False) (ad, oe) hr hot hz ⟨P1.1, P1.2.1, fun hm => (List.mem_cons.mp (I1.stkSub ad hm)).elim P1.2.2.1 P1.2.2.2.1, P1.2.2.2.2⟩ I1.env0 hbi r hsp) fun rr s' hq => ?_)
  cases rr with
  | error u =>
    obtain ⟨_, _, _, _, _, _, _, _, _, _, _, _, z⟩ := id hq
    exact z.elim
  | ok fl =>
    cases fl with
    | ret u => exact I1.after hq
    | next => exact False.elim hq
    | brk => exact False.elim hq
    | cont => exact False.elim hq
end
section
variable {X : Cx} {F0 : Hp} {Γ : Gm} {L : Lg} {k : Ks} {pos : Pos} {N Nc : List Str} {sc : Scope} {Z : Xc → Gm → Lg → Prop} {body : List Stmt}
/-- try: body except x as n: suite; the suite may hand the exception on -/
theorem sk_try_asZ {x n : Str} {cv : Value} {i : Nat} {b₀ : Stmt} {suite : List Stmt} {np pos' : Pos} (cf : Cf X N Nc sc F0 Z) (hi : N[i]? = some n) (hln : sc.names.lookup n = some .local) (hc : Names X x cv)
    (hb : ∀ (pn : List (Addr × Obj)) (xe : Value → Shared → Prop) (Z' : Xc → Gm → Lg → Prop), Cf (X.tr pn xe) N Nc sc F0 Z' →
      (∀ y Γ' L', (∃ b, PySem.W.exmOne X.K y.c cv = some b ∧
        (b = true → ∀ (a : Addr) (oe : Obj) (pn : List (Addr × Obj)), (y.fs = none → Zc y.c none oe) → (∃ vs, oe.data = .fields vs) → L2H.Hot1 (X.suite a ((a, oe) :: pn)).A (a, oe) → Cn (X.suite a ((a, oe) :: pn)) N Nc sc → ∃ Γ1, Put Γ' i (some (.ref a)) Γ1 ∧ BK (X.suite a ((a, oe) :: pn)) F0 (b₀ :: suite) Γ1 L'
          { nx := fun Γ2 L2 => ∃ Γ3, Put Γ2 i none Γ3 ∧ k.nx Γ3 L2, rt := k.rt, bk := fun Γ2 L2 => ∃ Γ3, Put Γ2 i none Γ3 ∧ k.bk Γ3 L2, ct := fun Γ2 L2 => ∃ Γ3, Put Γ2 i none Γ3 ∧ k.ct Γ3 L2 }) ∧
        (b = false → Z y Γ' L')) → Z' y Γ' L') → BK (X.tr pn xe) F0 body Γ L k) :
    SK X F0 (.Try body [.ExceptHandler (some (.Name x np)) (some n) (b₀ :: suite) pos'] [] [] pos) Γ L k := fun F σ H Dn E q => by
  have hi' : X.N[i]? = some n := by rw [cf.n]; exact get_app hi
  refine wpS.of (L2N.ps_try_as (i := i) (Wout := ZW X.K F0 Z)
    (tb := fun W Dn σ H => ∀ (pn : List (Addr × Obj)) (xe : Value → Shared → Prop), L2N.Takes (X.tr pn xe) W → PassesOwn (model X.prog X.w) X.A X.env xe → wpB (X.tr pn xe) body Dn σ H)
    (ts := fun a cls d Dn σ H => ∀ (oe : Obj) (pn : List (Addr × Obj)), L2N.Zn cls d oe → (∃ vs, oe.data = .fields vs) → wpB (X.suite a ((a, oe) :: pn)) (b₀ :: suite) Dn σ H)
    cf.stk cf.fr (by rw [cf.n]; exact cf.nd) hi' (by show X.env.scope.names.lookup n = _; rw [cf.scp]; exact hln) hc cf.tk
    (fun W pn xe tk own => ⟨fun pins s σ H Dn I h => (h pn xe tk own).run pins s I⟩) (fun a oe cls d pn hz hf => ⟨fun pins s σ H Dn I h => (h oe pn hz hf).run pins s I⟩)) ?_
  intro pn xe tk own
  let Z' : Xc → Gm → Lg → Prop := fun y Γ' L' => ∃ b, PySem.W.exmOne X.K y.c cv = some b ∧
        (b = true → ∀ (a : Addr) (oe : Obj) (pn : List (Addr × Obj)), (y.fs = none → Zc y.c none oe) → (∃ vs, oe.data = .fields vs) → L2H.Hot1 (X.suite a ((a, oe) :: pn)).A (a, oe) → Cn (X.suite a ((a, oe) :: pn)) N Nc sc → ∃ Γ1, Put Γ' i (some (.ref a)) Γ1 ∧ BK (X.suite a ((a, oe) :: pn)) F0 (b₀ :: suite) Γ1 L'
          { nx := fun Γ2 L2 => ∃ Γ3, Put Γ2 i none Γ3 ∧ k.nx Γ3 L2, rt := k.rt, bk := fun Γ2 L2 => ∃ Γ3, Put Γ2 i none Γ3 ∧ k.bk Γ3 L2, ct := fun Γ2 L2 => ∃ Γ3, Put Γ2 i none Γ3 ∧ k.ct Γ3 L2 }) ∧
        (b = false → Z y Γ' L')
  refine hb pn xe Z' ⟨⟨cf.n, cf.nd, cf.scp, cf.loc, cf.fn⟩, cf.calm, own, tk.imp ?_, cf.stk, cf.fr⟩ (fun _ _ _ h => h) F σ H Dn E ⟨q.nx, q.rt, q.bk, q.ct⟩
  rintro cls od σ' H' ⟨y, Γ', L', F', rfl, ⟨b, h1, h2, h3⟩, E', x'⟩
  refine ⟨b, h1, fun hb a na => ?_, fun hb => ⟨y, Γ', L', F', rfl, h3 hb, E', x'⟩⟩
  intro oe pn hz hf
  obtain ⟨vs, hv⟩ := hf
  obtain ⟨Γ1, p1, h4⟩ := h2 hb a oe pn (fun hn => by
    have e : od = none := by
      unfold XRep at x'
      rw [hn] at x'
      exact x'
    rw [e] at hz
    exact hz.zc) ⟨vs, hv⟩ ⟨rfl, vs, hv, hz.2.2 vs hv⟩ ⟨cf.n, cf.nd, cf.scp, cf.loc, cf.fn⟩
  refine h4 F' _ H' _ ⟨E'.ge, E'.led, E'.sl.put .ref p1⟩ ⟨?_, q.rt, ?_, ?_⟩
  · rintro Γ2 L2 F2 σ2 H2 ⟨Γ3, p3, h5⟩ E2
    exact q.nx Γ3 L2 F2 _ H2 h5 ⟨E2.ge, E2.led, E2.sl.out p3⟩
  · rintro Γ2 L2 F2 σ2 H2 ⟨Γ3, p3, h5⟩ E2
    exact q.bk Γ3 L2 F2 _ H2 h5 ⟨E2.ge, E2.led, E2.sl.out p3⟩
  · rintro Γ2 L2 F2 σ2 H2 ⟨Γ3, p3, h5⟩ E2
    exact q.ct Γ3 L2 F2 _ H2 h5 ⟨E2.ge, E2.led, E2.sl.out p3⟩
end
end Vs

set_option Elab.async false
set_option linter.all false
set_option maxRecDepth 100000
set_option maxHeartbeats 4000000
set_option pp.deepTerms.threshold 16
namespace K24
open PySem PySem.Spec PyProof.Rows L2 Vs
theorem range_nat {lo : Int} {n m : Nat} {d : D} (h : (rangeD lo m)[n]? = some d) : n < m ∧ d = .int (lo + (n : Int)) := by
  have hl := (List.getElem?_eq_some_iff.mp h).1
  rw [rangeD_len] at hl
  rw [rangeD_get hl] at h
  cases h
  exact ⟨hl, rfl⟩
theorem fm_map {α : Type} {xs : List α} {p : α → Bool} {g : α → D} : (xs.map fun x => if p x then some (g x) else none).filterMap id = (xs.filter p).map g := by
  induction xs with
  | nil => rfl
  | cons x xs ih =>
    cases h : p x with
    | true => simp only [List.map_cons, h, if_true, List.filterMap_cons, id, List.filter_cons]; rw [ih]
    | false => simp only [List.map_cons, h, Bool.false_eq_true, if_false, List.filterMap_cons, id, List.filter_cons]; exact ih
theorem eqv_nil {ds : List PyData} : PyData.eqv (.list ds) (.list []) = ds.isEmpty := by
  cases ds <;> simp [PyData.eqv, PyData.eqvAll]
theorem get_at_set {α : Type} {x y : α} : ∀ {L : List α} {j : Nat}, Get L j x → Get (L.set j y) j y
  | _, _, .z => .z
  | _, _, .s g => .s (get_at_set g)
def cutL {α : Type} (xs : List α) (lo hi : Option Int) : List α := (xs.drop (HT.sIx xs.length 0 lo)).take (HT.sIx xs.length xs.length hi - HT.sIx xs.length 0 lo)
theorem cut_map {α : Type} {xs : List α} {f : α → D} {lo hi : Option Int} : cutD (xs.map f) lo hi = (cutL xs lo hi).map f := by
  unfold Vs.cutD cutL
  rw [List.length_map, List.map_take, List.map_drop]
theorem cutL_len {α : Type} {xs : List α} {lo hi : Option Int} : (cutL xs lo hi).length ≤ xs.length := by
  unfold cutL
  rw [List.length_take, List.length_drop]
  omega
theorem at_map {α : Type} {xs : List α} {f : α → D} {i : Int} (h0 : -(xs.length : Int) ≤ i) (h1 : i < xs.length) : ∃ x ∈ xs, atI (xs.map f) i = some (f x) := by
  unfold L2.atI L2.ixN
  rw [List.length_map]
  by_cases h : 0 ≤ i
  · rw [if_pos h, if_pos h1]
    have hl : i.toNat < xs.length := by omega
    exact ⟨xs[i.toNat], List.getElem_mem _, by show (xs.map f)[i.toNat]? = _; rw [List.getElem?_map, List.getElem?_eq_getElem hl]; rfl⟩
  · rw [if_neg h, if_pos h0]
    have hl : (i + (xs.length : Int)).toNat < xs.length := by omega
    exact ⟨xs[(i + (xs.length : Int)).toNat], List.getElem_mem _, by show (xs.map f)[(i + (xs.length : Int)).toNat]? = _; rw [List.getElem?_map, List.getElem?_eq_getElem hl]; rfl⟩
theorem pick {xs : List Int} {i : Int} (h0 : -(xs.length : Int) ≤ i) (h1 : i < xs.length) : ∃ v ∈ xs, atI (dI xs) i = some (.int v) := at_map h0 h1
theorem dpd_nats {L : Lg} {xs : List Nat} {g : Nat → Int} : Dpd L (.lst (xs.map fun k => D.int (g k))) (.list (xs.map fun k => PyData.int (g k))) := by
  refine .lst ?_
  induction xs with
  | nil => exact .nil
  | cons x xs ih => exact .cons .int ih
theorem get_lt {α : Type} {x : α} : ∀ {xs : List α} {j : Nat}, Get xs j x → j < xs.length
  | _, _, .z => Nat.succ_pos _
  | _, _, .s g => Nat.succ_lt_succ (get_lt g)
theorem set_app {α : Type} {x y : α} {xs ys : List α} {j : Nat} (g : Get xs j x) : (xs ++ ys).set j y = xs.set j y ++ ys := List.set_append_left _ _ (get_lt g)
theorem at_dIg {xs : List Int} {i : Int} (h0 : 0 ≤ i) (h1 : i < xs.length) : atI (dI xs) i = some (.int (xs.getD i.toNat 0)) := at_dI h0 (by
  rw [List.getD_eq_getElem?_getD, List.getElem?_eq_getElem (by omega)]
  rfl)
theorem rep_map {α : Type} {f : α → D} {n : Nat} {x : α} : (List.replicate n [f x]).flatten = (List.replicate n x).map f := by
  induction n with
  | zero => rfl
  | succ n ih => rw [List.replicate_succ, List.replicate_succ, List.flatten_cons, ih]; rfl
theorem set_self {α : Type} {x : α} : ∀ {xs : List α} {j : Nat}, Get xs j x → xs.set j x = xs
  | _, _, .z => rfl
  | _, _, .s g => congrArg (_ :: ·) (set_self g)
/-! ### stands, as data -/
structure Sd where
  a : Int
  r : Int
  s : List (Option Int)
  c : List (Option Int)
def opD : Option Int → D
  | some i => .int i
  | none => .non
def stD (x : Sd) : D := .tup [.int x.a, .int x.r, .tup (x.s.map opD), .tup (x.c.map opD)]
def mdD (m p : Int) (l : Nat) : D := .tup [.int m, .int p, .int (l : Int)]
def okMd (m p : Int) (l : Nat) : Prop := (1 ≤ m ∧ m ≤ 9) ∧ (0 ≤ p ∧ p ≤ 8) ∧ (1 ≤ l ∧ l ≤ 3)
def okSd (l : Nat) (x : Sd) : Prop := x.s.length = l ∧ x.c.length = l ∧ 0 ≤ x.r
def tkE (m : Int) : Option Int → Bool
  | some v => decide (v % m = 0)
  | none => false
def hrE (m a r : Int) : Option Int → Bool
  | some v => decide (r = 0) && decide ((v - a - 1) % m = 0)
  | none => false
def tak (m : Int) (x : Sd) (k : Nat) : Bool := tkE m ((x.s[k]?).getD none)
def hea (m : Int) (x : Sd) (k : Nat) : Bool := hrE m x.a x.r ((x.c[k]?).getD none)
def nI (ns : List Nat) : List D := ns.map fun (n : Nat) => D.int (n : Int)
def tkL (m : Int) (x : Sd) (l : Nat) : List Nat := 0 :: ((List.range l).filter (tak m x)).map (· + 1)
def hrL (m : Int) (x : Sd) (l : Nat) : List Nat := 0 :: ((List.range l).filter (hea m x)).map (· + 1)
def mayT (m : Int) (x : Sd) (t : Nat) : Bool := decide (t = 0) || tak m x (t - 1)
def mayH (m : Int) (x : Sd) (h : Nat) : Bool := decide (h = 0) || hea m x (h - 1)
def may (m : Int) (x : Sd) (t h : Nat) : Bool := mayT m x t && mayH m x h
def allS (m : Int) (x : Sd) (l : Nat) : List (Nat × Nat) := (List.range (l + 1)).flatMap fun t => ((List.range (l + 1)).filter fun h => may m x t h).map fun h => (t, h)
def spD (p : Nat × Nat) : D := .tup [.int (p.1 : Int), .int (p.2 : Int)]
theorem fm_congr {α β : Type} {f g : α → List β} : ∀ {xs : List α}, (∀ x ∈ xs, f x = g x) → xs.flatMap f = xs.flatMap g
  | [], _ => rfl
  | x :: xs, h => by rw [List.flatMap_cons, List.flatMap_cons, h x (List.mem_cons_self ..), fm_congr fun y hy => h y (List.mem_cons_of_mem _ hy)]
theorem flatMap_if {α β : Type} {T : α → Bool} {g : α → List β} : ∀ {xs : List α}, (xs.flatMap fun x => if T x then g x else []) = (xs.filter T).flatMap g
  | [] => rfl
  | x :: xs => by
    rw [List.flatMap_cons, flatMap_if, List.filter_cons]
    cases T x <;> simp
theorem filt_succ {P : Nat → Bool} (h0 : P 0 = true) {l : Nat} : (List.range (l + 1)).filter P = 0 :: ((List.range l).filter fun k => P (k + 1)).map (· + 1) := by
  rw [List.range_succ_eq_map, List.filter_cons, if_pos h0, List.filter_map]
  rfl
theorem allS_eq {m : Int} {x : Sd} {l : Nat} : allS m x l = (tkL m x l).flatMap fun t => (hrL m x l).map fun h => (t, h) := by
  have e1 : ∀ t, ((List.range (l + 1)).filter fun h => may m x t h).map (fun h => (t, h)) = if mayT m x t then ((List.range (l + 1)).filter (mayH m x)).map (fun h => (t, h)) else [] := fun t => by
    unfold may
    cases mayT m x t with
    | true => simp
    | false => simp
  unfold allS
  rw [show (fun t => ((List.range (l + 1)).filter fun h => may m x t h).map fun h => (t, h)) = fun t => if mayT m x t then ((List.range (l + 1)).filter (mayH m x)).map (fun h => (t, h)) else [] from funext e1, flatMap_if, filt_succ (P := mayT m x) rfl, filt_succ (P := mayH m x) rfl]
  have e2 : ∀ k, mayT m x (k + 1) = tak m x k := fun k => rfl
  have e3 : ∀ k, mayH m x (k + 1) = hea m x k := fun k => rfl
  rw [show (fun k => mayT m x (k + 1)) = tak m x from funext e2, show (fun k => mayH m x (k + 1)) = hea m x from funext e3]
  rfl
theorem allS_mem {m : Int} {x : Sd} {l : Nat} {p : Nat × Nat} (h : p ∈ allS m x l) : p.1 ≤ l ∧ p.2 ≤ l ∧ mayT m x p.1 = true ∧ mayH m x p.2 = true := by
  unfold allS at h
  obtain ⟨t, ht, h2⟩ := List.mem_flatMap.mp h
  obtain ⟨k, hk, rfl⟩ := List.mem_map.mp h2
  obtain ⟨hk1, hk2⟩ := List.mem_filter.mp hk
  rw [List.mem_range] at ht hk1
  unfold may at hk2
  rw [Bool.and_eq_true] at hk2
  exact ⟨by show t ≤ l; omega, by show k ≤ l; omega, hk2.1, hk2.2⟩
theorem allS_head {m : Int} {x : Sd} {l : Nat} : ∃ r, allS m x l = (0, 0) :: r := by
  rw [allS_eq]
  exact ⟨_, rfl⟩
theorem mayT_some {m : Int} {x : Sd} {t : Nat} (h : mayT m x t = true) : t = 0 ∨ ∃ v, x.s[t - 1]? = some (some v) := by
  unfold mayT tak at h
  rw [Bool.or_eq_true, decide_eq_true_eq] at h
  rcases h with h | h
  · exact .inl h
  · cases hs : x.s[t - 1]? with
    | none => rw [hs] at h; cases h
    | some o =>
      cases o with
      | none => rw [hs] at h; cases h
      | some v => exact .inr ⟨v, rfl⟩
theorem mayH_some {m : Int} {x : Sd} {t : Nat} (h : mayH m x t = true) : t = 0 ∨ ∃ v, x.c[t - 1]? = some (some v) := by
  unfold mayH hea at h
  rw [Bool.or_eq_true, decide_eq_true_eq] at h
  rcases h with h | h
  · exact .inl h
  · cases hs : x.c[t - 1]? with
    | none => rw [hs] at h; cases h
    | some o =>
      cases o with
      | none => rw [hs] at h; cases h
      | some v => exact .inr ⟨v, rfl⟩
/-- a step that reads wrong -/
def misr (x : Sd) (p : Nat × Nat) : Bool := (decide (p.1 ≠ 0) && decide (x.s[p.1 - 1]? ≠ some (some 0))) || (decide (p.2 ≠ 0) && decide (x.c[p.2 - 1]? ≠ some (some (x.a + 1))))
def b01 (t : Nat) : Int := if t = 0 then 0 else 1
/-- the stand behind a step -/
def behS (p : Int) (x : Sd) (q : Nat × Nat) : Sd :=
  ⟨x.a - b01 q.1 + b01 q.2, (if (if q.2 = 0 then x.r else p) > 0 then (if q.2 = 0 then x.r else p) - 1 else 0),
    (if (if q.2 = 0 then x.r else p) > 0 then none else some (x.a - b01 q.1 + b01 q.2)) :: x.s.dropLast.map (Option.map (· - b01 q.1)), some 0 :: x.c.dropLast.map (Option.map (· - b01 q.1))⟩
def firstS (l : Nat) : Sd := ⟨0, 0, List.replicate l none, List.replicate l none⟩
theorem behS_ok {p : Int} {x : Sd} {q : Nat × Nat} {l : Nat} (hl : 1 ≤ l) (h : okSd l x) : okSd l (behS p x q) := by
  unfold okSd behS at *
  simp only [List.length_cons, List.length_map, List.length_dropLast]
  refine ⟨by omega, by omega, ?_⟩
  split <;> omega
theorem firstS_ok {l : Nat} : okSd l (firstS l) := by
  unfold okSd firstS
  exact ⟨List.length_replicate, List.length_replicate, Int.le_refl 0⟩
theorem op_at {xs : List (Option Int)} {i : Nat} {d : D} (h : (xs.map opD)[i]? = some d) : ∃ o, xs[i]? = some o ∧ d = opD o := by
  rw [List.getElem?_map] at h
  cases z : xs[i]? with
  | none => rw [z] at h; cases h
  | some o => rw [z] at h; exact ⟨o, rfl, (Option.some.inj h).symm⟩
theorem sp_at {xs : List (Nat × Nat)} {i : Nat} {d : D} (h : (xs.map spD)[i]? = some d) : ∃ o, xs[i]? = some o ∧ d = spD o := by
  rw [List.getElem?_map] at h
  cases z : xs[i]? with
  | none => rw [z] at h; cases h
  | some o => rw [z] at h; exact ⟨o, rfl, (Option.some.inj h).symm⟩
theorem nI_at {xs : List Nat} {i : Nat} {d : D} (h : (nI xs)[i]? = some d) : ∃ n, xs[i]? = some n ∧ d = .int (n : Int) := by
  unfold nI at h
  rw [List.getElem?_map] at h
  cases z : xs[i]? with
  | none => rw [z] at h; cases h
  | some o => rw [z] at h; exact ⟨o, rfl, (Option.some.inj h).symm⟩
theorem enumK_at {k0 : Int} {ds : List D} {i : Nat} {d : D} (h : (enumK k0 ds)[i]? = some d) : ∃ e, ds[i]? = some e ∧ d = .tup [.int (k0 + (i : Int)), e] := by
  have hi := (List.getElem?_eq_some_iff.mp h).1
  rw [enumK_len] at hi
  obtain ⟨e, he⟩ : ∃ e, ds[i]? = some e := ⟨_, List.getElem?_eq_getElem hi⟩
  rw [enumK_get he] at h
  exact ⟨e, he, (Option.some.inj h).symm⟩
theorem at_nat' {ds : List D} {i : Int} {n : Nat} {d : D} (e : i = (n : Int)) (h : ds[n]? = some d) : atI ds i = some d := by
  subst e
  exact at_nat (by omega) (by rw [Int.toNat_natCast]; exact h)
theorem take_filt {P : Nat → Bool} {i : Nat} : (List.range (i + 1)).filter P = (List.range i).filter P ++ if P i then [i] else [] := by
  rw [List.range_succ, List.filter_append, List.filter_cons]
  cases P i <;> rfl
theorem cut_dropLast {ds : List D} : cutD ds none (some (-1)) = ds.dropLast := by
  unfold Vs.cutD
  rw [show HT.sIx ds.length 0 none = 0 from rfl, List.drop_zero, Nat.sub_zero, List.dropLast_eq_take]
  congr 1
  unfold HT.sIx
  simp
  try omega
theorem rep_none {l : Nat} : (List.replicate (l : Int).toNat [D.non]).flatten = (List.replicate l none).map opD := by
  rw [Int.toNat_natCast]
  exact rep_map (f := opD) (x := none)
theorem tkL_len {m : Int} {x : Sd} {l : Nat} : (tkL m x l).length ≤ l + 1 := by
  unfold tkL
  rw [List.length_cons, List.length_map]
  have := List.length_filter_le (tak m x) (List.range l)
  rw [List.length_range] at this
  omega
theorem hrL_len {m : Int} {x : Sd} {l : Nat} : (hrL m x l).length ≤ l + 1 := by
  unfold hrL
  rw [List.length_cons, List.length_map]
  have := List.length_filter_le (hea m x) (List.range l)
  rw [List.length_range] at this
  omega
theorem allS_len {m : Int} {x : Sd} {l : Nat} (hl : l ≤ 3) : (allS m x l).length ≤ 16 := by
  rw [allS_eq]
  have key : ∀ xs : List Nat, (xs.flatMap fun t => (hrL m x l).map fun h => (t, h)).length = xs.length * (hrL m x l).length := fun xs => by
    induction xs with
    | nil => simp
    | cons y ys ih => rw [List.flatMap_cons, List.length_append, ih, List.length_map, List.length_cons, Nat.succ_mul, Nat.add_comm]
  rw [key]
  have h1 := tkL_len (m := m) (x := x) (l := l)
  have h2 := hrL_len (m := m) (x := x) (l := l)
  show _ ≤ 4 * 4
  exact Nat.mul_le_mul (by omega) (by omega)
/-! ### rows of steps -/
def siD (s : Int × Int) : D := .tup [.int s.1, .int s.2]
def siP (s : Int × Int) : PyData := .tuple [.int s.1, .int s.2]
def nt (s : Int × Int) : Nat × Nat := (s.1.toNat, s.2.toNat)
def mayI (m : Int) (x : Sd) (l : Nat) (s : Int × Int) : Bool := decide ((0 ≤ s.1 ∧ s.1 ≤ (l : Int)) ∧ 0 ≤ s.2 ∧ s.2 ≤ (l : Int)) && may m x s.1.toNat s.2.toNat
/-- the stands of a walk -/
def Wk (m p : Int) (l : Nat) : Sd → List (Int × Int) → Option (List Sd)
  | _, [] => some []
  | x, s :: r => if mayI m x l s then (if r.isEmpty then some [x] else if misr x (nt s) then none else (Wk m p l (behS p x (nt s)) r).map (x :: ·)) else none
theorem Wk_cons {m p : Int} {l : Nat} {x : Sd} {s : Int × Int} {r : List (Int × Int)} : Wk m p l x (s :: r) = if mayI m x l s then (if r.isEmpty then some [x] else if misr x (nt s) then none else (Wk m p l (behS p x (nt s)) r).map (x :: ·)) else none := rfl
theorem Wk_len {m p : Int} {l : Nat} : ∀ {ps : List (Int × Int)} {x : Sd} {xs : List Sd}, Wk m p l x ps = some xs → xs.length ≤ ps.length
  | [], x, xs, h => by
    cases h
    exact Nat.le_refl _
  | s :: r, x, xs, h => by
    unfold Wk at h
    split at h
    · split at h
      · cases h
        show 1 ≤ r.length + 1
        omega
      · split at h
        · cases h
        · cases hw : Wk m p l (behS p x (nt s)) r with
          | none => rw [hw] at h; cases h
          | some ys =>
            rw [hw] at h
            cases h
            have := Wk_len hw
            show ys.length + 1 ≤ r.length + 1
            omega
    · cases h
theorem Wk_ok {m p : Int} {l : Nat} (hl : 1 ≤ l) : ∀ {ps : List (Int × Int)} {x : Sd} {xs : List Sd}, okSd l x → Wk m p l x ps = some xs → ∀ y ∈ xs, okSd l y
  | [], x, xs, hx, h, y, hy => by
    cases h
    cases hy
  | s :: r, x, xs, hx, h, y, hy => by
    unfold Wk at h
    split at h
    · split at h
      · cases h
        rw [List.mem_singleton.mp hy]
        exact hx
      · split at h
        · cases h
        · cases hw : Wk m p l (behS p x (nt s)) r with
          | none => rw [hw] at h; cases h
          | some ys =>
            rw [hw] at h
            cases h
            rcases List.mem_cons.mp hy with rfl | hy
            · exact hx
            · exact Wk_ok hl (behS_ok hl hx) hw y hy
    · cases h
theorem mayI_parts {m : Int} {x : Sd} {l : Nat} {s : Int × Int} (h : mayI m x l s = true) : siD s = spD (nt s) ∧ (nt s).1 ≤ l ∧ (nt s).2 ≤ l ∧ mayT m x (nt s).1 = true ∧ mayH m x (nt s).2 = true := by
  unfold mayI may at h
  simp only [Bool.and_eq_true, decide_eq_true_eq] at h
  obtain ⟨h1, h2, h3⟩ := h
  refine ⟨?_, by show s.1.toNat ≤ l; omega, by show s.2.toNat ≤ l; omega, h2, h3⟩
  unfold siD spD nt
  simp only
  rw [Int.toNat_of_nonneg h1.1.1, Int.toNat_of_nonneg h1.2.1]
theorem si_at {xs : List (Int × Int)} {i : Nat} {d : D} (h : (xs.map siD)[i]? = some d) : ∃ o, xs[i]? = some o ∧ d = siD o := by
  rw [List.getElem?_map] at h
  cases z : xs[i]? with
  | none => rw [z] at h; cases h
  | some o => rw [z] at h; exact ⟨o, rfl, (Option.some.inj h).symm⟩
def spP (s : Nat × Nat) : PyData := .tuple [.int (s.1 : Int), .int (s.2 : Int)]
theorem dpd_si {L : Lg} (s : Int × Int) : Dpd L (siD s) (siP s) := .tup (.cons .int (.cons .int .nil))
theorem dpd_sp {L : Lg} (s : Nat × Nat) : Dpd L (spD s) (spP s) := .tup (.cons .int (.cons .int .nil))
theorem dpds_mp {α : Type} {L : Lg} {f : α → D} {g : α → PyData} (h : ∀ a, Dpd L (f a) (g a)) : ∀ {xs : List α}, Dpds L (xs.map f) (xs.map g)
  | [] => .nil
  | _ :: _ => .cons (h _) (dpds_mp h)
theorem shp_al {α : Type} {k : Nat} {g : α → PyData} {xs : List α} (h : ∀ a, Shp k (g a)) : ∀ d ∈ xs.map g, Shp k d := fun d hd => by
  obtain ⟨x, _, rfl⟩ := List.mem_map.mp hd
  exact h x
theorem shp_2 {k : Nat} (i j : Int) : Shp (k + 1) (.tuple [.int i, .int j]) := shp_tup fun d hd => by
  rcases List.mem_cons.mp hd with rfl | hd
  · exact shp_int
  · rcases List.mem_cons.mp hd with rfl | hd
    · exact shp_int
    · cases hd
theorem shp_si {ps : List (Int × Int)} : Shp 2 (.list (ps.map siP)) := shp_lst (shp_al fun s => shp_2 _ _)
theorem shp_sp {ps : List (Nat × Nat)} : Shp 2 (.list (ps.map spP)) := shp_lst (shp_al fun s => shp_2 _ _)
theorem eqv_sp {t : Nat × Nat} {s : Int × Int} : PyData.eqv (spP t) (siP s) = (decide ((t.1 : Int) = s.1) && decide ((t.2 : Int) = s.2)) := by
  unfold spP siP
  simp only [PyData.eqv, PyData.eqvAll, Bool.and_true]
  rfl
theorem in_allS {m : Int} {x : Sd} {l : Nat} {s : Int × Int} : ((allS m x l).map spP).any (fun z => PyData.eqv z (siP s)) = mayI m x l s := by
  rw [List.any_map, Bool.eq_iff_iff, List.any_eq_true]
  constructor
  · rintro ⟨t, ht, h⟩
    have h : PyData.eqv (spP t) (siP s) = true := h
    rw [eqv_sp] at h
    simp only [Bool.and_eq_true, decide_eq_true_eq] at h
    obtain ⟨h1, h2, h3, h4⟩ := allS_mem ht
    unfold mayI may
    simp only [Bool.and_eq_true, decide_eq_true_eq]
    rw [← h.1, ← h.2, Int.toNat_natCast, Int.toNat_natCast]
    exact ⟨by omega, h3, h4⟩
  · intro h
    obtain ⟨e, h1, h2, h3, h4⟩ := mayI_parts h
    refine ⟨nt s, ?_, ?_⟩
    · unfold allS
      refine List.mem_flatMap.mpr ⟨(nt s).1, List.mem_range.mpr (by omega), List.mem_map.mpr ⟨(nt s).2, List.mem_filter.mpr ⟨List.mem_range.mpr (by omega), ?_⟩, rfl⟩⟩
      unfold may
      rw [h3, h4]
      rfl
    · show PyData.eqv (spP (nt s)) (siP s) = true
      rw [eqv_sp]
      unfold mayI at h
      simp only [Bool.and_eq_true, decide_eq_true_eq] at h ⊢
      unfold nt
      simp only
      omega
theorem drop_cons {α : Type} {xs : List α} {i : Nat} {x : α} (h : xs[i]? = some x) : xs.drop i = x :: xs.drop (i + 1) := by
  have hi := (List.getElem?_eq_some_iff.mp h).1
  rw [List.drop_eq_getElem_cons hi]
  congr 1
  exact (List.getElem?_eq_some_iff.mp h).2
theorem opt_app {o : Option (List Sd)} {a : List Sd} {x : Sd} : (o.map (x :: ·)).map (a ++ ·) = o.map ((a ++ [x]) ++ ·) := by
  cases o with
  | none => rfl
  | some y => simp
theorem isE_drop {α : Type} {xs : List α} {i : Nat} : (xs.drop (i + 1)).isEmpty = !decide ((i : Int) + 1 < (xs.length : Int)) := by
  by_cases h : i + 1 < xs.length
  · rw [decide_eq_true (by omega), List.drop_eq_getElem_cons h]
    rfl
  · rw [decide_eq_false (by omega), List.drop_eq_nil_of_le (by omega)]
    rfl
/-! ### stands as keys -/
instance : DecidableEq Sd := fun x y => if h : x.a = y.a ∧ x.r = y.r ∧ x.s = y.s ∧ x.c = y.c then .isTrue (by
  obtain ⟨a, r, s, c⟩ := x
  obtain ⟨a2, r2, s2, c2⟩ := y
  obtain ⟨h1, h2, h3, h4⟩ := h
  simp only at h1 h2 h3 h4
  rw [h1, h2, h3, h4]) else .isFalse fun e => h (by rw [e]; exact ⟨rfl, rfl, rfl, rfl⟩)
def okK : Option Int → NestedKey
  | some i => .num i
  | none => .none
def skK (x : Sd) : NestedKey := .tup [.num x.a, .num x.r, .tup (x.s.map okK), .tup (x.c.map okK)]
theorem okK_inj {a b : Option Int} (h : okK a = okK b) : a = b := by
  cases a <;> cases b <;> first | rfl | (cases h; rfl) | cases h
theorem okKs_inj : ∀ {a b : List (Option Int)}, a.map okK = b.map okK → a = b
  | [], [], _ => rfl
  | [], _ :: _, h => by cases h
  | _ :: _, [], h => by cases h
  | x :: xs, y :: ys, h => by
    rw [List.map_cons, List.map_cons] at h
    obtain ⟨h1, h2⟩ := List.cons.inj h
    rw [okK_inj h1, okKs_inj h2]
theorem skK_inj {x y : Sd} (h : skK x = skK y) : x = y := by
  obtain ⟨a, r, s, c⟩ := x
  obtain ⟨a2, r2, s2, c2⟩ := y
  unfold skK at h
  simp only [NestedKey.tup.injEq, List.cons.injEq, NestedKey.num.injEq, and_true] at h
  obtain ⟨h1, h2, h3, h4⟩ := h
  rw [h1, h2, okKs_inj h3, okKs_inj h4]
theorem dk_op (o : Option Int) : DkN (opD o) (okK o) := by cases o; exact .non; exact .int
theorem dks_op : ∀ (xs : List (Option Int)), DkNs (xs.map opD) (xs.map okK)
  | [] => .nil
  | x :: xs => .cons (dk_op x) (dks_op xs)
theorem dp_op : ∀ (xs : List (Option Int)), NestedKey.depthAll (xs.map okK) = 0
  | [] => rfl
  | x :: xs => by
    rw [List.map_cons]
    show max (NestedKey.depth (okK x)) (NestedKey.depthAll (xs.map okK)) = 0
    rw [dp_op xs]
    cases x <;> rfl
theorem ky_st (x : Sd) : KyT (stD x) (skK x) := KyT.of (.cons .int (.cons .int (.cons (.tup (dks_op _)) (.cons (.tup (dks_op _)) .nil)))) (by
  show max 0 (max 0 (max (NestedKey.depthAll (x.s.map okK) + 1) (max (NestedKey.depthAll (x.c.map okK) + 1) 0))) ≤ 7
  rw [dp_op, dp_op]
  decide)
/-- the dict knows just the stands of S -/
structure Knw (S : List Sd) (kvs : List (NestedKey × D)) : Prop where
  at_ : ∀ x : Sd, (atK (skK x) kvs).isSome = decide (x ∈ S)
  le : kvs.length ≤ S.length
  eq : kvs.length = S.length ↔ S.Nodup
theorem knw_nil : Knw [] [] := ⟨fun x => by simp [atK], Nat.le_refl _, by simp⟩
theorem putB_old {κ : Type} [DecidableEq κ] {kvs : List (κ × D)} {k : κ} {v : D} (h : (atK k kvs).isSome = true) : (putB kvs k v).length = kvs.length := by
  unfold putB
  rw [any_atK, if_pos h, List.length_map]
theorem Knw.put {S : List Sd} {kvs : List (NestedKey × D)} (h : Knw S kvs) (x : Sd) (v : D) : Knw (S ++ [x]) (putB kvs (skK x) v) := by
  have hx := h.at_ x
  have hl := h.le
  refine ⟨fun y => ?_, ?_, ?_⟩
  · rw [atK_putB]
    by_cases e : x = y
    · subst e
      rw [if_pos rfl]
      simp
    · rw [if_neg (fun z => e (skK_inj z)), h.at_ y]
      have : y ≠ x := fun z => e z.symm
      simp [this]
  · rw [List.length_append, List.length_singleton]
    exact Nat.le_trans putB_len (Nat.succ_le_succ hl)
  · rw [List.length_append, List.length_singleton]
    by_cases hm : x ∈ S
    · rw [putB_old (by rw [hx]; exact decide_eq_true hm)]
      constructor
      · intro z; omega
      · intro z
        have := (List.nodup_append.mp z).2.2 x hm x (List.mem_singleton.mpr rfl)
        exact absurd rfl this
    · have hn : atK (skK x) kvs = none := by
        rw [decide_eq_false hm] at hx
        cases z : atK (skK x) kvs with
        | none => rfl
        | some _ => rw [z] at hx; cases hx
      rw [putB_new hn, List.length_append, List.length_singleton]
      constructor
      · intro z
        refine List.nodup_append.mpr ⟨h.eq.mp (by omega), by simp, fun a ha b hb e => ?_⟩
        rw [List.mem_singleton.mp hb] at e
        exact hm (e ▸ ha)
      · intro z
        have := h.eq.mpr (List.nodup_append.mp z).1
        omega
/-! stands as data -/
def opP : Option Int → PyData
  | some i => .int i
  | none => .none
def stP (x : Sd) : PyData := .tuple [.int x.a, .int x.r, .tuple (x.s.map opP), .tuple (x.c.map opP)]
theorem dpds_op {L : Lg} : ∀ (xs : List (Option Int)), Dpds L (xs.map opD) (xs.map opP)
  | [] => .nil
  | x :: xs => .cons (by cases x; exact .non; exact .int) (dpds_op xs)
theorem dpd_st {L : Lg} (x : Sd) : Dpd L (stD x) (stP x) := .tup (.cons .int (.cons .int (.cons (.tup (dpds_op _)) (.cons (.tup (dpds_op _)) .nil))))
theorem dpds_st {L : Lg} : ∀ (xs : List Sd), Dpds L (xs.map stD) (xs.map stP)
  | [] => .nil
  | x :: xs => .cons (dpd_st x) (dpds_st xs)
theorem shp_op {k : Nat} (xs : List (Option Int)) : Shp (k + 1) (.tuple (xs.map opP)) := shp_tup fun d hd => by
  obtain ⟨o, _, rfl⟩ := List.mem_map.mp hd
  cases o
  · exact shp_non
  · exact shp_int
theorem shp_stP (x : Sd) : Shp 2 (stP x) := shp_tup fun d hd => by
  simp only [List.mem_cons, List.not_mem_nil, or_false] at hd
  rcases hd with rfl | rfl | rfl | rfl
  · exact shp_int
  · exact shp_int
  · exact shp_op _
  · exact shp_op _
theorem shp_sts (xs : List Sd) : Shp 3 (.list (xs.map stP)) := shp_lst fun d hd => by
  obtain ⟨o, _, rfl⟩ := List.mem_map.mp hd
  exact shp_stP o
/-- what a fence is -/
def fenB (m p : Int) (l : Nat) (xs : List Sd) : Bool := (decide (firstS l ∈ xs) && decide xs.Nodup) && xs.all fun x => (allS m x l).all fun s => !misr x s && decide (behS p x s ∈ xs)
/-! ### rows of steps, in plain Lean -/
def go (p : Int) (l : Nat) (ss : List (Nat × Nat)) : Sd := ss.foldl (behS p) (firstS l)
theorem go_snoc {p : Int} {l : Nat} {ss : List (Nat × Nat)} {s : Nat × Nat} : go p l (ss ++ [s]) = behS p (go p l ss) s := by
  unfold go
  rw [List.foldl_append]
  rfl
/-- each step may be, and is not wrong -/
def Pth (m p : Int) (l : Nat) (ss : List (Nat × Nat)) : Prop := ∀ k s, ss[k]? = some s → s ∈ allS m (go p l (ss.take k)) l ∧ misr (go p l (ss.take k)) s = false
theorem pth_nil {m p : Int} {l : Nat} : Pth m p l [] := fun k s h => by cases h
theorem pth_snoc {m p : Int} {l : Nat} {ss : List (Nat × Nat)} {s : Nat × Nat} : Pth m p l (ss ++ [s]) ↔ Pth m p l ss ∧ s ∈ allS m (go p l ss) l ∧ misr (go p l ss) s = false := by
  constructor
  · intro h
    refine ⟨fun k t hk => ?_, ?_⟩
    · have hl := (List.getElem?_eq_some_iff.mp hk).1
      have := h k t (by rw [List.getElem?_append_left hl]; exact hk)
      rw [List.take_append_of_le_length (by omega)] at this
      exact this
    · have := h ss.length s (by rw [List.getElem?_append_right (Nat.le_refl _), Nat.sub_self]; rfl)
      rw [List.take_append_of_le_length (Nat.le_refl _), List.take_length] at this
      exact this
  · rintro ⟨h1, h2⟩ k t hk
    by_cases hl : k < ss.length
    · rw [List.getElem?_append_left hl] at hk
      rw [List.take_append_of_le_length (by omega)]
      exact h1 k t hk
    · have hl2 := (List.getElem?_eq_some_iff.mp hk).1
      rw [List.length_append, List.length_singleton] at hl2
      obtain rfl : k = ss.length := by omega
      rw [List.getElem?_append_right (Nat.le_refl _), Nat.sub_self] at hk
      cases hk
      rw [List.take_append_of_le_length (Nat.le_refl _), List.take_length]
      exact h2
theorem pth_take {m p : Int} {l : Nat} {ss : List (Nat × Nat)} (h : Pth m p l ss) (n : Nat) : Pth m p l (ss.take n) := fun k s hk => by
  have hl := (List.getElem?_eq_some_iff.mp hk).1
  rw [List.length_take] at hl
  have := h k s (by rw [List.getElem?_take_of_lt (by omega)] at hk; exact hk)
  rw [List.take_take, Nat.min_eq_left (by omega)]
  exact this
theorem list_snoc {α : Type} {P : List α → Prop} (h0 : P []) (h1 : ∀ xs x, P xs → P (xs ++ [x])) (xs : List α) : P xs := by
  have : ∀ n, ∀ xs : List α, xs.length = n → P xs := fun n => by
    induction n with
    | zero => intro xs h; rw [List.length_eq_zero_iff.mp h]; exact h0
    | succ n ih =>
      intro xs h
      have hne : xs ≠ [] := fun z => by rw [z] at h; cases h
      rw [← List.dropLast_concat_getLast hne]
      exact h1 _ _ (ih _ (by rw [List.length_dropLast, h]; rfl))
  exact this _ xs rfl
/-! where stands can be -/
structure Bx (l : Nat) (x : Sd) : Prop where
  ok : okSd l x
  a : x.a = 0 ∨ (x.a = -1 ∧ ∀ i : Nat, x.s[i]? ≠ some (some 0))
  r : x.r ≤ 8
  s : ∀ (i : Nat) v, x.s[i]? = some (some v) → -1 - (i : Int) ≤ v ∧ v ≤ 0
  c : ∀ (i : Nat) v, x.c[i]? = some (some v) → -(i : Int) ≤ v ∧ v ≤ 0
theorem bx_first {l : Nat} : Bx l (firstS l) where
  ok := firstS_ok
  a := .inl rfl
  r := by show (0 : Int) ≤ 8; decide
  s := fun i v h => by
    unfold firstS at h
    simp only [List.getElem?_replicate] at h
    split at h <;> cases h
  c := fun i v h => by
    unfold firstS at h
    simp only [List.getElem?_replicate] at h
    split at h <;> cases h
theorem get_less {xs : List (Option Int)} {t : Int} {i : Nat} {v : Int} (h : (xs.dropLast.map (Option.map (· - t)))[i]? = some (some v)) : xs[i]? = some (some (v + t)) := by
  rw [List.getElem?_map] at h
  cases z : xs.dropLast[i]? with
  | none => rw [z] at h; cases h
  | some o =>
    rw [z] at h
    have hl := (List.getElem?_eq_some_iff.mp z).1
    rw [List.length_dropLast] at hl
    rw [List.getElem?_dropLast, if_pos hl] at z
    cases o with
    | none => cases h
    | some w =>
      have : w - t = v := Option.some.inj (Option.some.inj h)
      rw [z, show w = v + t by omega]
theorem bx_beh {m p : Int} {l : Nat} {x : Sd} {s : Nat × Nat} (hm : okMd m p l) (h : Bx l x) (hs : misr x s = false) : Bx l (behS p x s) := by
  have hT : s.1 ≠ 0 → x.s[s.1 - 1]? = some (some 0) := fun z => by
    unfold misr at hs
    rw [Bool.or_eq_false_iff, decide_eq_true z, Bool.true_and, decide_eq_false_iff_not, Classical.not_not] at hs
    exact hs.1
  have hH : s.2 ≠ 0 → x.c[s.2 - 1]? = some (some (x.a + 1)) := fun z => by
    unfold misr at hs
    rw [Bool.or_eq_false_iff, decide_eq_true z, Bool.true_and, decide_eq_false_iff_not, Classical.not_not] at hs
    exact of_decide_eq_true (by simpa using hs.2)
  have ha1 : s.1 ≠ 0 → x.a = 0 := fun z => by
    rcases h.a with h2 | ⟨_, h2⟩
    · exact h2
    · exact absurd (hT z) (h2 _)
  have ha2 : s.2 ≠ 0 → x.a = -1 := fun z => by
    have := (h.c _ _ (hH z)).2
    rcases h.a with h2 | ⟨h2, _⟩ <;> omega
  have hb1 : b01 s.1 = 0 ∨ (b01 s.1 = 1 ∧ x.a = 0 ∧ b01 s.2 = 0) := by
    unfold b01
    by_cases z : s.1 = 0
    · rw [if_pos z]; exact .inl rfl
    · rw [if_neg z]
      refine .inr ⟨rfl, ha1 z, ?_⟩
      by_cases z2 : s.2 = 0
      · rw [if_pos z2]
      · have := ha1 z; have := ha2 z2; omega
  have hb2 : b01 s.2 = 0 ∨ (b01 s.2 = 1 ∧ x.a = -1) := by
    unfold b01
    by_cases z : s.2 = 0
    · rw [if_pos z]; exact .inl rfl
    · rw [if_neg z]; exact .inr ⟨rfl, ha2 z⟩
  have hna : (behS p x s).a = x.a - b01 s.1 + b01 s.2 := rfl
  have hr0 := h.ok.2.2
  have hr8 := h.r
  have hp8 := hm.2.1.2
  have hgv : ∀ v, (behS p x s).s[0]? = some (some v) → v = x.a - b01 s.1 + b01 s.2 := fun v hv => by
    have e : some (if (if s.2 = 0 then x.r else p) > 0 then none else some (x.a - b01 s.1 + b01 s.2)) = some (some v) := hv
    by_cases z : (if s.2 = 0 then x.r else p) > 0
    · rw [if_pos z] at e; cases e
    · rw [if_neg z] at e; exact (Option.some.inj (Option.some.inj e)).symm
  refine ⟨behS_ok hm.2.2.1 h.ok, ?_, ?_, fun i v hv => ?_, fun i v hv => ?_⟩
  · rw [hna]
    rcases hb1 with z | ⟨z, z2, z3⟩
    · rw [z]
      rcases hb2 with w | ⟨w, w2⟩
      · rw [w]
        rcases h.a with h2 | ⟨h2, h3⟩
        · exact .inl (by omega)
        · refine .inr ⟨by omega, fun i hi => ?_⟩
          cases i with
          | zero =>
            have := hgv 0 hi
            omega
          | succ i =>
            have := get_less (show (x.s.dropLast.map (Option.map (· - b01 s.1)))[i]? = some (some 0) from hi)
            rw [z] at this
            exact h3 i this
      · exact .inl (by omega)
    · refine .inr ⟨by omega, fun i hi => ?_⟩
      cases i with
      | zero =>
        have := hgv 0 hi
        omega
      | succ i =>
        have := (h.s _ _ (get_less (show (x.s.dropLast.map (Option.map (· - b01 s.1)))[i]? = some (some 0) from hi))).2
        omega
  · show (if (if s.2 = 0 then x.r else p) > 0 then (if s.2 = 0 then x.r else p) - 1 else 0) ≤ 8
    by_cases z : s.2 = 0
    · rw [if_pos z]
      by_cases w : x.r > 0
      · rw [if_pos w]; omega
      · rw [if_neg w]; decide
    · rw [if_neg z]
      by_cases w : p > 0
      · rw [if_pos w]; omega
      · rw [if_neg w]; decide
  · cases i with
    | zero =>
      have := hgv v hv
      rcases hb1 with z | ⟨z, z2, z3⟩ <;> rcases hb2 with w | ⟨w, w2⟩ <;> rcases h.a with h2 | ⟨h2, h3⟩ <;> omega
    | succ i =>
      have := h.s _ _ (get_less (show (x.s.dropLast.map (Option.map (· - b01 s.1)))[i]? = some (some v) from hv))
      rcases hb1 with z | ⟨z, z2, z3⟩ <;> (rw [z] at this; omega)
  · cases i with
    | zero =>
      have : (0 : Int) = v := Option.some.inj (Option.some.inj hv)
      omega
    | succ i =>
      have := h.c _ _ (get_less (show (x.c.dropLast.map (Option.map (· - b01 s.1)))[i]? = some (some v) from hv))
      rcases hb1 with z | ⟨z, z2, z3⟩ <;> (rw [z] at this; omega)
theorem bx_go {m p : Int} {l : Nat} (hm : okMd m p l) (ss : List (Nat × Nat)) : Pth m p l ss → Bx l (go p l ss) := by
  refine list_snoc (P := fun ss => Pth m p l ss → Bx l (go p l ss)) (fun _ => bx_first) (fun ss s ih h => ?_) ss
  obtain ⟨h1, _, h3⟩ := pth_snoc.mp h
  rw [go_snoc]
  exact bx_beh hm (ih h1) h3
/-! a list of all of these -/
def tupsE : Nat → List (List (Option Int))
  | 0 => [[]]
  | n + 1 => [none, some 0, some (-1), some (-2), some (-3)].flatMap fun e => (tupsE n).map (e :: ·)
theorem fm_len' {α β : Type} {f : α → List β} {n : Nat} (h : ∀ x, (f x).length = n) : ∀ xs : List α, (xs.flatMap f).length = xs.length * n
  | [] => by simp
  | x :: xs => by rw [List.flatMap_cons, List.length_append, h x, fm_len' h xs, List.length_cons, Nat.succ_mul, Nat.add_comm]
theorem tupsE_len : ∀ n, (tupsE n).length = 5 ^ n
  | 0 => rfl
  | n + 1 => by
    show ([none, some 0, some (-1), some (-2), some (-3)].flatMap fun e => (tupsE n).map (e :: ·)).length = _
    rw [fm_len' (n := 5 ^ n) (fun e => by rw [List.length_map, tupsE_len n])]
    show 5 * 5 ^ n = _
    rw [Nat.pow_succ, Nat.mul_comm]
theorem tupsE_mem : ∀ {n : Nat} {xs : List (Option Int)}, xs.length = n → (∀ (i : Nat) (v : Int), xs[i]? = some (some v) → -3 ≤ v ∧ v ≤ 0) → xs ∈ tupsE n
  | 0, xs, h, _ => by rw [List.length_eq_zero_iff.mp h]; exact List.mem_singleton.mpr rfl
  | n + 1, [], h, _ => by cases h
  | n + 1, x :: xs, h, hb => by
    refine List.mem_flatMap.mpr ⟨x, ?_, List.mem_map.mpr ⟨xs, tupsE_mem (Nat.succ.inj h) (fun i v hv => hb (i + 1) v hv), rfl⟩⟩
    cases x with
    | none => simp
    | some v =>
      have := hb 0 v rfl
      have : v = 0 ∨ v = -1 ∨ v = -2 ∨ v = -3 := by omega
      rcases this with rfl | rfl | rfl | rfl <;> simp
def boxL (l : Nat) : List Sd := [(0 : Int), -1].flatMap fun a => (List.range 9).flatMap fun (r : Nat) => (tupsE l).flatMap fun s => (tupsE l).map fun c => ⟨a, (r : Int), s, c⟩
theorem boxL_len (l : Nat) : (boxL l).length = 2 * (9 * (5 ^ l * 5 ^ l)) := by
  unfold boxL
  rw [fm_len' (n := 9 * (5 ^ l * 5 ^ l)) (fun a => by
    rw [fm_len' (n := 5 ^ l * 5 ^ l) (fun r => by
      rw [fm_len' (n := 5 ^ l) (fun s => by rw [List.length_map, tupsE_len]), tupsE_len]), List.length_range])]
  rfl
theorem boxL_le {l : Nat} (h : l ≤ 3) : (boxL l).length ≤ 281250 := by
  rw [boxL_len]
  have : l = 0 ∨ l = 1 ∨ l = 2 ∨ l = 3 := by omega
  rcases this with rfl | rfl | rfl | rfl <;> decide
theorem box_mem {l : Nat} {x : Sd} (hl : l ≤ 3) (h : Bx l x) : x ∈ boxL l := by
  obtain ⟨a, r, s, c⟩ := x
  have hs : s ∈ tupsE l := tupsE_mem h.ok.1 fun i v hv => by
    have := h.s i v hv
    have hi := (List.getElem?_eq_some_iff.mp hv).1
    have : s.length = l := h.ok.1
    omega
  have hc : c ∈ tupsE l := tupsE_mem h.ok.2.1 fun i v hv => by
    have := h.c i v hv
    have hi := (List.getElem?_eq_some_iff.mp hv).1
    have : c.length = l := h.ok.2.1
    omega
  have hr0 : 0 ≤ r := h.ok.2.2
  have hr8 : r ≤ 8 := h.r
  unfold boxL
  refine List.mem_flatMap.mpr ⟨a, ?_, List.mem_flatMap.mpr ⟨r.toNat, List.mem_range.mpr (by omega), List.mem_flatMap.mpr ⟨s, hs, List.mem_map.mpr ⟨c, hc, ?_⟩⟩⟩⟩
  · rcases h.a with z | ⟨z, _⟩
    · have : a = 0 := z
      rw [this]; simp
    · have : a = -1 := z
      rw [this]; simp
  · rw [Int.toNat_of_nonneg hr0]
theorem nodup_incG {α : Type} [DecidableEq α] : ∀ {l m : List α}, l.Nodup → (∀ x ∈ l, x ∈ m) → l.length ≤ m.length
  | [], _, _, _ => Nat.zero_le _
  | x :: l, m, hn, h => by
    have hx := h x List.mem_cons_self
    have hn2 := List.nodup_cons.mp hn
    have := nodup_incG (l := l) (m := m.erase x) hn2.2 fun y hy => (List.mem_erase_of_ne (fun e : y = x => hn2.1 (by rw [← e]; exact hy))).mpr (h y (List.mem_cons_of_mem _ hy))
    rw [List.length_erase_of_mem hx] at this
    have := List.length_pos_of_mem hx
    rw [List.length_cons]
    omega
theorem nod_box {l : Nat} (hl : l ≤ 3) {xs : List Sd} (hn : xs.Nodup) (h : ∀ x ∈ xs, Bx l x) : xs.length ≤ 281250 :=
  Nat.le_trans (nodup_incG hn fun x hx => box_mem hl (h x hx)) (boxL_le hl)
/-! ### the search -/
abbrev Rw := List (Nat × Nat)
structure Bf (m p : Int) (l : Nat) (line : List Sd) (rows : List Rw) (at_ : Nat) : Prop where
  len : rows.length = line.length
  fst : line[0]? = some (firstS l) ∧ rows[0]? = some []
  pth : ∀ (i : Nat) x (r : Rw), line[i]? = some x → rows[i]? = some r → Pth m p l r ∧ go p l r = x
  mono : ∀ (i j : Nat) (r r' : Rw), i ≤ j → rows[i]? = some r → rows[j]? = some r' → r.length ≤ r'.length
  dep : ∀ (i : Nat) (r : Rw), rows[i]? = some r → r.length ≤ i
  done : ∀ (i : Nat) x (r : Rw), i < at_ → line[i]? = some x → rows[i]? = some r → ∀ s ∈ allS m x l, misr x s = false ∧ ∃ (j : Nat) (r' : Rw), line[j]? = some (behS p x s) ∧ rows[j]? = some r' ∧ r'.length ≤ r.length + 1
  near : ∀ (j : Nat) (r r' : Rw), rows[at_]? = some r → rows[j]? = some r' → r'.length ≤ r.length + 1
  nod : line.Nodup
theorem bf_first {m p : Int} {l : Nat} : Bf m p l [firstS l] [[]] 0 where
  len := rfl
  fst := ⟨rfl, rfl⟩
  pth := fun i x r h1 h2 => by
    cases i with
    | zero => cases h1; cases h2; exact ⟨pth_nil, rfl⟩
    | succ i => cases h1
  mono := fun i j r r' _ h1 h2 => by
    cases i <;> cases j <;> cases h1 <;> cases h2
    exact Nat.le_refl _
  dep := fun i r h => by
    cases i with
    | zero => cases h; exact Nat.le_refl _
    | succ i => cases h
  done := fun i x r h => absurd h (Nat.not_lt_zero _)
  near := fun j r r' h1 h2 => by
    cases h1
    cases j with
    | zero => cases h2; exact Nat.zero_le _
    | succ j => cases h2
  nod := by simp
theorem Bf.row {m p : Int} {l : Nat} {line : List Sd} {rows : List Rw} {a : Nat} (h : Bf m p l line rows a) {i : Nat} {x : Sd} (hx : line[i]? = some x) : ∃ r, rows[i]? = some r := by
  have := (List.getElem?_eq_some_iff.mp hx).1
  exact ⟨_, List.getElem?_eq_getElem (by rw [h.len]; exact this)⟩
theorem Bf.bx {m p : Int} {l : Nat} {line : List Sd} {rows : List Rw} {a : Nat} (hm : okMd m p l) (h : Bf m p l line rows a) : ∀ x ∈ line, Bx l x := fun x hx => by
  obtain ⟨i, hi⟩ := List.mem_iff_getElem?.mp hx
  obtain ⟨r, hr⟩ := h.row hi
  obtain ⟨h1, h2⟩ := h.pth i x r hi hr
  rw [← h2]
  exact bx_go hm r h1
theorem Bf.size {m p : Int} {l : Nat} {line : List Sd} {rows : List Rw} {a : Nat} (hm : okMd m p l) (h : Bf m p l line rows a) : line.length ≤ 281250 := nod_box hm.2.2.2 h.nod (h.bx hm)
/-- the steps from the stand at hand, as far as they are done -/
structure Bi (m p : Int) (l : Nat) (line : List Sd) (rows : List Rw) (a : Nat) (x : Sd) (r : Rw) (j : Nat) : Prop where
  bf : Bf m p l line rows a
  hx : line[a]? = some x
  hr : rows[a]? = some r
  cur : ∀ s ∈ (allS m x l).take j, misr x s = false ∧ ∃ (i : Nat) (r' : Rw), line[i]? = some (behS p x s) ∧ rows[i]? = some r' ∧ r'.length ≤ r.length + 1
theorem get_snoc {α : Type} {xs : List α} {y : α} {i : Nat} {x : α} (h : (xs ++ [y])[i]? = some x) : xs[i]? = some x ∨ (i = xs.length ∧ x = y) := by
  by_cases hi : i < xs.length
  · rw [List.getElem?_append_left hi] at h; exact .inl h
  · have hl := (List.getElem?_eq_some_iff.mp h).1
    rw [List.length_append, List.length_singleton] at hl
    obtain rfl : i = xs.length := by omega
    rw [List.getElem?_append_right (Nat.le_refl _), Nat.sub_self] at h
    cases h
    exact .inr ⟨rfl, rfl⟩
theorem get_app {α : Type} {xs ys : List α} {i : Nat} {x : α} (h : xs[i]? = some x) : (xs ++ ys)[i]? = some x := by
  rw [List.getElem?_append_left (List.getElem?_eq_some_iff.mp h).1]; exact h
theorem Bi.old {m p : Int} {l : Nat} {line : List Sd} {rows : List Rw} {a j : Nat} {x : Sd} {r : Rw} {s : Nat × Nat} (h : Bi m p l line rows a x r j) (hs : (allS m x l)[j]? = some s) (hm : misr x s = false) (ho : behS p x s ∈ line) : Bi m p l line rows a x r (j + 1) := by
  refine ⟨h.bf, h.hx, h.hr, fun t ht => ?_⟩
  rw [List.take_add_one, hs] at ht
  rcases List.mem_append.mp ht with ht | ht
  · exact h.cur t ht
  · obtain rfl := List.mem_singleton.mp ht
    obtain ⟨i, hi⟩ := List.mem_iff_getElem?.mp ho
    obtain ⟨r', hr'⟩ := h.bf.row hi
    exact ⟨hm, i, r', hi, hr', h.bf.near i r r' h.hr hr'⟩
theorem Bi.new {m p : Int} {l : Nat} {line : List Sd} {rows : List Rw} {a j : Nat} {x : Sd} {r : Rw} {s : Nat × Nat} (h : Bi m p l line rows a x r j) (hs : (allS m x l)[j]? = some s) (hm : misr x s = false) (ho : behS p x s ∉ line) :
    Bi m p l (line ++ [behS p x s]) (rows ++ [r ++ [s]]) a x r (j + 1) := by
  have B := h.bf
  obtain ⟨hp, hg⟩ := B.pth a x r h.hx h.hr
  have hal : a < line.length := (List.getElem?_eq_some_iff.mp h.hx).1
  have hsm : s ∈ allS m x l := List.mem_of_getElem? hs
  have hnear : ∀ (i : Nat) (r' : Rw), rows[i]? = some r' → r'.length ≤ r.length + 1 := fun i r' hr' => B.near i r r' h.hr hr'
  have hra := B.dep a r h.hr
  refine ⟨⟨by rw [List.length_append, List.length_append, B.len]; rfl, ⟨get_app B.fst.1, get_app B.fst.2⟩, fun i y r' h1 h2 => ?_, fun i k r1 r2 hik h1 h2 => ?_, fun i r' h1 => ?_, fun i y r' hi h1 h2 t ht => ?_, fun k r1 r2 h1 h2 => ?_, ?_⟩, get_app h.hx, get_app h.hr, fun t ht => ?_⟩
  · rcases get_snoc h1 with h1 | ⟨e1, e2⟩
    · rcases get_snoc h2 with h2 | ⟨e3, e4⟩
      · exact B.pth i y r' h1 h2
      · have := (List.getElem?_eq_some_iff.mp h1).1
        have := B.len
        omega
    · rcases get_snoc h2 with h2 | ⟨e3, e4⟩
      · have := (List.getElem?_eq_some_iff.mp h2).1
        have := B.len
        omega
      · rw [e2, e4]
        refine ⟨pth_snoc.mpr ⟨hp, ?_⟩, ?_⟩
        · rw [hg]; exact ⟨hsm, hm⟩
        · rw [go_snoc, hg]
  · rcases get_snoc h1 with h1 | ⟨e1, e2⟩
    · rcases get_snoc h2 with h2 | ⟨e3, e4⟩
      · exact B.mono i k r1 r2 hik h1 h2
      · rw [e4, List.length_append]; exact hnear i r1 h1
    · rcases get_snoc h2 with h2 | ⟨e3, e4⟩
      · have := (List.getElem?_eq_some_iff.mp h2).1
        omega
      · rw [e2, e4]; exact Nat.le_refl _
  · rcases get_snoc h1 with h1 | ⟨e1, e2⟩
    · exact B.dep i r' h1
    · rw [e1, e2, List.length_append, B.len]
      show r.length + 1 ≤ _
      omega
  · rcases get_snoc h1 with h1 | ⟨e1, e2⟩
    · rcases get_snoc h2 with h2 | ⟨e3, e4⟩
      · obtain ⟨d1, k, r1, d2, d3, d4⟩ := B.done i y r' hi h1 h2 t ht
        exact ⟨d1, k, r1, get_app d2, get_app d3, d4⟩
      · have := (List.getElem?_eq_some_iff.mp h1).1
        have := B.len
        omega
    · omega
  · rcases get_snoc h1 with h1 | ⟨e1, e2⟩
    · rw [h.hr] at h1
      cases h1
      rcases get_snoc h2 with h2 | ⟨e3, e4⟩
      · exact hnear k r2 h2
      · rw [e4, List.length_append]; exact Nat.le_refl _
    · have := B.len
      omega
  · refine List.nodup_append.mpr ⟨B.nod, by simp, fun y hy z hz e => ?_⟩
    rw [List.mem_singleton.mp hz] at e
    exact ho (e ▸ hy)
  · rw [List.take_add_one, hs] at ht
    rcases List.mem_append.mp ht with ht | ht
    · obtain ⟨d1, k, r1, d2, d3, d4⟩ := h.cur t ht
      exact ⟨d1, k, r1, get_app d2, get_app d3, d4⟩
    · obtain rfl := List.mem_singleton.mp ht
      refine ⟨hm, line.length, r ++ [t], by rw [List.getElem?_append_right (Nat.le_refl _), Nat.sub_self]; rfl, by rw [← B.len, List.getElem?_append_right (Nat.le_refl _), Nat.sub_self]; rfl, by rw [List.length_append]; exact Nat.le_refl _⟩
theorem Bi.fin {m p : Int} {l : Nat} {line : List Sd} {rows : List Rw} {a : Nat} {x : Sd} {r : Rw} (h : Bi m p l line rows a x r (allS m x l).length) : Bf m p l line rows (a + 1) := by
  have B := h.bf
  refine ⟨B.len, B.fst, B.pth, B.mono, B.dep, fun i y r' hi h1 h2 => ?_, fun k r1 r2 h1 h2 => ?_, B.nod⟩
  · by_cases e : i = a
    · subst e
      rw [h.hx] at h1
      rw [h.hr] at h2
      cases h1
      cases h2
      intro s hs
      exact h.cur s (by rw [List.take_length]; exact hs)
    · exact B.done i y r' (by omega) h1 h2
  · have := B.near k r r2 h.hr h2
    have := B.mono a (a + 1) r r1 (by omega) h.hr h1
    omega
/-- no row of steps reads wrong -/
def NoWr (m p : Int) (l : Nat) : Prop := ∀ ss, Pth m p l ss → ∀ t ∈ allS m (go p l ss) l, misr (go p l ss) t = false
def Safe (m p : Int) (l : Nat) (line : List Sd) : Prop := fenB m p l line = true ∧ (∀ y ∈ line, okSd l y) ∧ line.length ≤ 281250 ∧ NoWr m p l
/-- the fewest steps to a wrong one -/
def Wrong (m p : Int) (l : Nat) (ss : Rw) : Prop := ss.length ≤ 281250 ∧ ∃ r s, ss = r ++ [s] ∧ Pth m p l r ∧ s ∈ allS m (go p l r) l ∧ misr (go p l r) s = true ∧ ∀ ss', Pth m p l ss' → ss'.length < r.length → ∀ t ∈ allS m (go p l ss') l, misr (go p l ss') t = false
theorem Bf.in_ {m p : Int} {l : Nat} {line : List Sd} {rows : List Rw} {a : Nat} (h : Bf m p l line rows a) {d : Nat} (hd : a = line.length ∨ ∃ r, rows[a]? = some r ∧ d ≤ r.length) (ss : Rw) :
    Pth m p l ss → (a = line.length ∨ ss.length ≤ d) → ∃ (j : Nat) (r' : Rw), line[j]? = some (go p l ss) ∧ rows[j]? = some r' ∧ r'.length ≤ ss.length := by
  refine list_snoc (P := fun ss => Pth m p l ss → (a = line.length ∨ ss.length ≤ d) → ∃ (j : Nat) (r' : Rw), line[j]? = some (go p l ss) ∧ rows[j]? = some r' ∧ r'.length ≤ ss.length) (fun _ _ => ⟨0, [], h.fst.1, h.fst.2, Nat.le_refl _⟩) (fun ss s ih hp hl => ?_) ss
  obtain ⟨h1, h2, h3⟩ := pth_snoc.mp hp
  rw [List.length_append, List.length_singleton] at hl
  obtain ⟨j, r', j1, j2, j3⟩ := ih h1 (by omega)
  have hja : j < a := by
    have hjl := (List.getElem?_eq_some_iff.mp j1).1
    rcases hd with hd | ⟨r, hr, hdr⟩
    · omega
    · rcases hl with hl | hl
      · omega
      · by_cases z : j < a
        · exact z
        · have := h.mono a j r r' (by omega) hr j2
          omega
  obtain ⟨d1, k, r1, d2, d3, d4⟩ := h.done j _ r' hja j1 j2 s h2
  exact ⟨k, r1, by rw [go_snoc]; exact d2, d3, by rw [List.length_append, List.length_singleton]; omega⟩
theorem Bf.safe {m p : Int} {l : Nat} {line : List Sd} {rows : List Rw} {a : Nat} (hm : okMd m p l) (h : Bf m p l line rows a) (ha : a = line.length) : Safe m p l line := by
  have hdn : ∀ x ∈ line, ∀ s ∈ allS m x l, misr x s = false ∧ behS p x s ∈ line := fun x hx s hs => by
    obtain ⟨i, hi⟩ := List.mem_iff_getElem?.mp hx
    obtain ⟨r, hr⟩ := h.row hi
    obtain ⟨d1, k, r1, d2, _⟩ := h.done i x r (by rw [ha]; exact (List.getElem?_eq_some_iff.mp hi).1) hi hr s hs
    exact ⟨d1, List.mem_of_getElem? d2⟩
  refine ⟨?_, fun y hy => (h.bx hm y hy).ok, h.size hm, fun ss hp t ht => ?_⟩
  · unfold fenB
    rw [decide_eq_true (List.mem_of_getElem? h.fst.1), decide_eq_true h.nod, Bool.true_and, Bool.true_and, List.all_eq_true]
    intro x hx
    rw [List.all_eq_true]
    intro s hs
    obtain ⟨d1, d2⟩ := hdn x hx s hs
    rw [d1, decide_eq_true d2]
    rfl
  · obtain ⟨j, r', j1, _⟩ := h.in_ (d := 0) (.inl ha) ss hp (.inl ha)
    exact (hdn _ (List.mem_of_getElem? j1) t ht).1
theorem Bf.wrong {m p : Int} {l : Nat} {line : List Sd} {rows : List Rw} {a : Nat} {x : Sd} {r : Rw} {s : Nat × Nat} (hm : okMd m p l) (h : Bf m p l line rows a) (hx : line[a]? = some x) (hr : rows[a]? = some r) (hs : s ∈ allS m x l) (hw : misr x s = true) : Wrong m p l (r ++ [s]) := by
  obtain ⟨hp, hg⟩ := h.pth a x r hx hr
  have hal := (List.getElem?_eq_some_iff.mp hx).1
  have hra := h.dep a r hr
  have hsz := h.size hm
  refine ⟨by rw [List.length_append, List.length_singleton]; omega, r, s, rfl, hp, by rw [hg]; exact hs, by rw [hg]; exact hw, fun ss' hp' hl t ht => ?_⟩
  obtain ⟨j, r', j1, j2, j3⟩ := h.in_ (d := r.length) (.inr ⟨r, hr, Nat.le_refl _⟩) ss' hp' (.inr (by omega))
  have hja : j < a := by
    by_cases z : j < a
    · exact z
    · have := h.mono a j r r' (by omega) hr j2
      omega
  exact (h.done j _ r' hja j1 j2 t ht).1
/-- safe, or wrong, not both -/
theorem safe_wrong {m p : Int} {l : Nat} {line : List Sd} {ss : Rw} (h1 : Safe m p l line) (h2 : Wrong m p l ss) : False := by
  obtain ⟨_, r, s, _, hp, hs, hw, _⟩ := h2
  have := h1.2.2.2 r hp s hs
  rw [hw] at this
  cases this
/-! ### the dict of the search -/
structure Cm (l : Nat) (line : List Sd) (rows : List Rw) (kvs : List (NestedKey × D)) : Prop where
  kn : ∀ y : Sd, (atK (skK y) kvs).isSome = decide (y ∈ line)
  le : kvs.length ≤ line.length
  root : atK (skK (firstS l)) kvs = some .non
  par : ∀ (i : Nat) x (r : Rw), 0 < i → line[i]? = some x → rows[i]? = some r → ∃ (k : Nat) (y : Sd) (r0 : Rw) (s : Nat × Nat), line[k]? = some y ∧ rows[k]? = some r0 ∧ r = r0 ++ [s] ∧ atK (skK x) kvs = some (.tup [stD y, spD s])
theorem cm_first {l : Nat} : Cm l [firstS l] [[]] [(skK (firstS l), .non)] where
  kn := fun y => by
    show (if skK (firstS l) = skK y then some D.non else none).isSome = _
    by_cases h : firstS l = y
    · subst h; simp
    · rw [if_neg (fun z => h (skK_inj z))]
      have : y ≠ firstS l := fun z => h z.symm
      simp [this]
  le := Nat.le_refl _
  root := by show (if skK (firstS l) = skK (firstS l) then some D.non else none) = _; rw [if_pos rfl]
  par := fun i x r hi h1 _ => by
    cases i with
    | zero => omega
    | succ i => cases h1
theorem Cm.new {l : Nat} {line : List Sd} {rows : List Rw} {kvs : List (NestedKey × D)} {a : Nat} {x y : Sd} {r : Rw} {s : Nat × Nat} (h : Cm l line rows kvs) (hln : rows.length = line.length) (hf : firstS l ∈ line) (hx : line[a]? = some x) (hr : rows[a]? = some r) (hy : y ∉ line) :
    Cm l (line ++ [y]) (rows ++ [r ++ [s]]) (putB kvs (skK y) (.tup [stD x, spD s])) := by
  refine ⟨fun z => ?_, ?_, ?_, fun i z r' hi h1 h2 => ?_⟩
  · rw [atK_putB]
    by_cases e : y = z
    · subst e; rw [if_pos rfl]; simp
    · rw [if_neg (fun w => e (skK_inj w)), h.kn z]
      have : z ≠ y := fun w => e w.symm
      simp [this]
  · rw [List.length_append, List.length_singleton]
    exact Nat.le_trans putB_len (Nat.succ_le_succ h.le)
  · rw [atK_putB, if_neg (fun z => hy (by rw [skK_inj z]; exact hf))]
    exact h.root
  · rcases get_snoc h1 with h1 | ⟨e1, e2⟩
    · rcases get_snoc h2 with h2 | ⟨e3, e4⟩
      · obtain ⟨k, y2, r0, s2, a1, a2, a3, a4⟩ := h.par i z r' hi h1 h2
        refine ⟨k, y2, r0, s2, get_app a1, get_app a2, a3, ?_⟩
        rw [atK_putB, if_neg (fun w => hy (by rw [skK_inj w]; exact List.mem_of_getElem? h1))]
        exact a4
      · have := (List.getElem?_eq_some_iff.mp h1).1
        omega
    · rcases get_snoc h2 with h2 | ⟨e3, e4⟩
      · have := (List.getElem?_eq_some_iff.mp h2).1
        omega
      · rw [e2, e4]
        refine ⟨a, x, r, s, get_app hx, get_app hr, rfl, ?_⟩
        rw [atK_putB, if_pos rfl]
end K24


set_option Elab.async false
set_option linter.all false
set_option maxRecDepth 100000
set_option maxHeartbeats 4000000
set_option pp.deepTerms.threshold 16
namespace K24
open PySem PySem.Spec PyProof.Rows L2 Vs
local macro_rules | `(tactic| walk_at "vpos") => `(tactic| first | decide | omega)
local macro_rules | `(tactic| walk_at "vdiv") => `(tactic| first | exact ⟨by decide, by decide⟩ | (constructor <;> omega))
local macro_rules | `(tactic| walk_at "vpow") => `(tactic| exact ⟨by decide, by decide, by decide⟩)
local macro_rules | `(tactic| walk_at "vmul") => `(tactic| first | exact mulL ⟨by decide, by decide⟩ | exact mulR ⟨by decide, by decide⟩ | exact mulL (by constructor <;> omega) | exact mulR (by constructor <;> omega))
local macro_rules | `(tactic| walk_at "vlen") => `(tactic| first | exact sz_ok (Nat.le_of_ble_eq_true rfl) | exact sz_lt (Nat.le_of_ble_eq_true rfl) | (refine sz_ok ?_; simp only [List.length_append, List.length_cons, List.length_nil, List.length_map]; omega) | (refine sz_lt ?_; simp only [List.length_append, List.length_cons, List.length_nil, List.length_map]; omega))
local macro_rules | `(tactic| walk_at "vrng") => `(tactic| (refine ⟨?_, ?_⟩ <;> omega))
local macro_rules | `(tactic| walk_at "vix") => `(tactic| rfl)
local macro_rules | `(tactic| walk_at "vixn") => `(tactic| first | rfl | exact ixN_at (by omega) (by omega))
local macro_rules | `(tactic| walk_at "vkb") => `(tactic| decide +kernel)
local macro_rules | `(tactic| walk_at "vty") => `(tactic| first | exact .int | exact .bl | exact .lst | exact .str | exact .tup | exact .non | exact .own .z | exact tyd_as (by assumption))
local macro_rules | `(tactic| walk_at "vkit") => `(tactic| assumption)
local macro_rules | `(tactic| walk_at "vrep") => `(tactic| (refine ⟨by omega, by omega, ?_⟩; first | decide | (refine sz_ok ?_; simp only [List.length_cons, List.length_nil]; omega)))
def top (i : Nat) : Stmt := PySem.Challenge.pw_stormpost_k24_models_refused.main.body.getD i (.Pass ⟨0, 0, 0, 0⟩)
structure Tx (K : PySem.W.Frag) (mg : Str → Option Value) : Prop where
  MOST_NUMBERS : ∃ t, mg "MOST_NUMBERS" = some (.int 9 t)
  MOST_PAUSE : ∃ t, mg "MOST_PAUSE" = some (.int 8 t)
  MOST_LATE : ∃ t, mg "MOST_LATE" = some (.int 3 t)
  PostError : ExF K mg "PostError"
  BadModel : ExF K mg "BadModel"
  BadSign : ExF K mg "BadSign"
  BadCell : ExF K mg "BadCell"
  BadMeasure : ExF K mg "BadMeasure"
  BadFate : ExF K mg "BadFate"
  NoLink : ExF K mg "NoLink"
  BadPiece : ExF K mg "BadPiece"
  BadLetter : ExF K mg "BadLetter"
  BadNews : ExF K mg "BadNews"
  BadHouse : ExF K mg "BadHouse"
  BadName : ExF K mg "BadName"
  NoStream : ExF K mg "NoStream"
  NoAsk : ExF K mg "NoAsk"
  BadNet : ExF K mg "BadNet"
  BadText : ClF K mg "BadText"
  no_enumerate : mg "enumerate" = none
  no_range : mg "range" = none
  no_len : mg "len" = none
  no_int : mg "int" = none
  no_max : mg "max" = none
  no_tuple : mg "tuple" = none
  no_list : mg "list" = none
  no_isinstance : mg "isinstance" = none
  no_str : mg "str" = none
  no_bool : mg "bool" = none
  no_all : mg "all" = none
  no_reversed : mg "reversed" = none
  no_ValueError : mg "ValueError" = none
  exm_BadModel_PostError : PySem.W.exmOne K (.ref (He.ga K "BadModel")) (.ref (He.ga K "PostError")) = some true
  hX_BadModel : ExcC K (He.ga K "BadModel")
  k_BadModel_BadSign : PySem.W.kitOne K (.ref (He.ga K "BadModel")) (.ref (He.ga K "BadSign")) = some false
  k_BadModel_BadCell : PySem.W.kitOne K (.ref (He.ga K "BadModel")) (.ref (He.ga K "BadCell")) = some false
  k_BadModel_BadMeasure : PySem.W.kitOne K (.ref (He.ga K "BadModel")) (.ref (He.ga K "BadMeasure")) = some false
  k_BadModel_BadFate : PySem.W.kitOne K (.ref (He.ga K "BadModel")) (.ref (He.ga K "BadFate")) = some false
  k_BadModel_BadModel : PySem.W.kitOne K (.ref (He.ga K "BadModel")) (.ref (He.ga K "BadModel")) = some true
  k_BadModel_NoLink : PySem.W.kitOne K (.ref (He.ga K "BadModel")) (.ref (He.ga K "NoLink")) = some false
  k_BadModel_BadPiece : PySem.W.kitOne K (.ref (He.ga K "BadModel")) (.ref (He.ga K "BadPiece")) = some false
  k_BadModel_BadLetter : PySem.W.kitOne K (.ref (He.ga K "BadModel")) (.ref (He.ga K "BadLetter")) = some false
  k_BadModel_BadNews : PySem.W.kitOne K (.ref (He.ga K "BadModel")) (.ref (He.ga K "BadNews")) = some false
  k_BadModel_BadHouse : PySem.W.kitOne K (.ref (He.ga K "BadModel")) (.ref (He.ga K "BadHouse")) = some false
  k_BadModel_BadName : PySem.W.kitOne K (.ref (He.ga K "BadModel")) (.ref (He.ga K "BadName")) = some false
  k_BadModel_NoStream : PySem.W.kitOne K (.ref (He.ga K "BadModel")) (.ref (He.ga K "NoStream")) = some false
  k_BadModel_NoAsk : PySem.W.kitOne K (.ref (He.ga K "BadModel")) (.ref (He.ga K "NoAsk")) = some false
  k_BadModel_BadNet : PySem.W.kitOne K (.ref (He.ga K "BadModel")) (.ref (He.ga K "BadNet")) = some false
  k_BadModel_BadText : PySem.W.kitOne K (.ref (He.ga K "BadModel")) (.ref (He.ga K "BadText")) = some false
  k_BadModel_ValueError : PySem.W.kitOne K (.ref (He.ga K "BadModel")) (.type "ValueError") = some true
section
variable {X : Cx} {F0 : Hp}
set_option pp.deepTerms.threshold 8
/-! look_model -/
def S_look_model : SpD := fun ds L q _ => ∃ m p l, ds = [mdD m p l] ∧ okMd m p l ∧ q .non L
theorem b_look_model {ds : List D} {L : Lg} {q : D → Lg → Prop} {e : Xc → Lg → Prop} (c : Cf X (["model", "many", "pause", "late"] : List Str) ([] : List Str) (defScope (top 21)) F0 (fun y _ L' => e y L')) (T : Tx X.K X.mg) (h : S_look_model ds L q e) :
    BK X F0 (defBody (top 21)) (ds.map some ++ List.replicate 3 none) L { nx := fun _ L' => q .non L', rt := q } := by
  obtain ⟨m, p, l, rfl, hm, h1⟩ := h
  unfold okMd at hm
  refine bk_cons (sk_asg (ek_n c.toCn .z (tg_tup c.calm ⟨_, rfl, rfl, tn_c c.toCn ⟨_, (.s .z), tn_c c.toCn ⟨_, (.s (.s .z)), tn_c c.toCn ⟨_, (.s (.s (.s .z))), tn_z (?_)⟩⟩⟩⟩)))
  refine bk_one (sk_if (et_w (ew_or (et_lt (ek_n c.toCn (.s .z) (⟨_, rfl, ek_int (⟨_, rfl, ⟨rfl, rfl⟩⟩)⟩))) (fun hb => ew_or (et_gt (ek_n c.toCn (.s .z) (⟨_, rfl, ek_gi T.MOST_NUMBERS (c.toCn.gl) (⟨_, rfl, ⟨rfl, rfl⟩⟩)⟩))) (fun hb => ew_or (et_lt (ek_n c.toCn (.s (.s .z)) (⟨_, rfl, ek_int (⟨_, rfl, ⟨rfl, rfl⟩⟩)⟩))) (fun hb => ew_or (et_gt (ek_n c.toCn (.s (.s .z)) (⟨_, rfl, ek_gi T.MOST_PAUSE (c.toCn.gl) (⟨_, rfl, ⟨rfl, rfl⟩⟩)⟩))) (fun hb => ew_or (et_lt (ek_n c.toCn (.s (.s (.s .z))) (⟨_, rfl, ek_int (⟨_, rfl, ⟨rfl, rfl⟩⟩)⟩))) (fun hb => et_or1 (et_gt (ek_n c.toCn (.s (.s (.s .z))) (⟨_, rfl, ek_gi T.MOST_LATE (c.toCn.gl) (⟨_, rfl, ⟨rfl, rfl⟩⟩)⟩)))) (⟨rfl, rfl⟩)) (⟨rfl, rfl⟩)) (⟨rfl, rfl⟩)) (⟨rfl, rfl⟩)) (⟨fun ht => ?_, fun ht => ?_⟩))))
  · exfalso
    simp only [Bool.or_eq_true, decide_eq_true_eq] at ht
    omega
  · exact bk_nil h1
/-! first_stand -/
def S_first_stand : SpD := fun ds L q _ => ∃ m p l, ds = [mdD m p l] ∧ okMd m p l ∧ q (stD (firstS l)) L
theorem b_first_stand {ds : List D} {L : Lg} {q : D → Lg → Prop} {e : Xc → Lg → Prop} (c : Cf X (["model", "none"] : List Str) ([] : List Str) (defScope (top 22)) F0 (fun y _ L' => e y L')) (T : Tx X.K X.mg) (hr : Room 1 X.A)
    (G_look_model : CalX X 1 "look_model" (["model"] : List Str) S_look_model) (h : S_first_stand ds L q e) :
    BK X F0 (defBody (top 22)) (ds.map some ++ List.replicate 1 none) L { nx := fun _ L' => q .non L', rt := q } := by
  obtain ⟨m, p, l, rfl, hm, h1⟩ := h
  have hm2 := hm
  unfold okMd at hm2
  refine bk_cons (sk_expr (ek_call c.tk G_look_model (hr.mono (by first | decide | exact Nat.le_refl _)) (ea_cons (ek_n c.toCn .z (ea_nil (⟨m, p, l, rfl, hm, ?_⟩)))) (c.toCn.gl)))
  refine bk_cons (sk_set c.toCn (ek_repT (ek_tup (ea_cons (ek_non (ea_nil (⟨(by walk_at "vlen"), ek_ixT (ek_n c.toCn .z (ek_int (⟨_, _, _, rfl, rfl, (by walk_at "vix"), ⟨_, _, rfl, rfl, (⟨by decide, by decide, by omega, by omega⟩), ⟨_, (.s .z), ?_⟩⟩⟩))) (fun _ _ => rfl)⟩)))))))
  rw [rep_none]
  refine bk_one (sk_ret (ek_tup (ea_cons (ek_int (ea_cons (ek_int (ea_cons (ek_n c.toCn (.s .z) (ea_cons (ek_n c.toCn (.s .z) (ea_nil (⟨(by walk_at "vlen"), ?_⟩))))))))))))
  exact h1
/-! takes_from, hears_from -/
def S_takes_from : SpD := fun ds L q _ => ∃ m p l x, ds = [mdD m p l, stD x] ∧ okMd m p l ∧ okSd l x ∧ q (.lst (nI (tkL m x l))) L
theorem b_takes_from {ds : List D} {L : Lg} {q : D → Lg → Prop} {e : Xc → Lg → Prop} (c : Cf X (["model", "stand", "ticks", "ago", "entry"] : List Str) ([] : List Str) (defScope (top 23)) F0 (fun y _ L' => e y L')) (T : Tx X.K X.mg) (h : S_takes_from ds L q e) :
    BK X F0 (defBody (top 23)) (ds.map some ++ List.replicate 3 none) L { nx := fun _ L' => q .non L', rt := q } := by
  obtain ⟨m, p, l, x, rfl, hm, hx, h1⟩ := h
  have hm2 := hm
  unfold okMd at hm2
  refine bk_cons (sk_set c.toCn (ek_lstO (ea_cons (ek_int (ea_nil (⟨(by walk_at "vlen"), fun p_ticks => ⟨_, (.s (.s .z)), ?_⟩⟩))))))
  refine bk_cons (sk_for c (ei_enumT T.no_enumerate (c.toCn.gl) (ek_ixT (ek_n c.toCn (.s .z) (ek_int (⟨_, _, _, rfl, rfl, (by walk_at "vix"), ek_int (⟨_, _, rfl, rfl, ⟨by decide, by decide⟩, ⟨fun i Γ L' => ∃ w1 w2, Γ = [some (mdD m p l), some (stD x), some (.ref p_ticks), w1, w2] ∧ L' = (p_ticks, .lst (nI (tkL m x i))) :: L, ?_, fun F1 c i d Γ L hd hP => ?_, fun Γ L hP => ?_⟩⟩)⟩))) (fun _ _ => rfl))))
  · exact ⟨none, none, rfl, rfl⟩
  · obtain ⟨w1, w2, rfl, rfl⟩ := hP
    obtain ⟨y, hy, rfl⟩ := enumK_at hd
    obtain ⟨o, ho, rfl⟩ := op_at hy
    have hi := (List.getElem?_eq_some_iff.mp ho).1
    have hil : i < l := by have := hx.1; omega
    have hstep : nI (tkL m x (i + 1)) = nI (tkL m x i) ++ if tkE m o then [D.int (1 + (i : Int))] else [] := by
      unfold tkL nI
      rw [take_filt, List.map_append, ← List.cons_append, List.map_append]
      congr 1
      have : tak m x i = tkE m o := by
        unfold tak
        rw [ho]
        rfl
      rw [this]
      cases tkE m o
      · rfl
      · show [D.int ((i + 1 : Nat) : Int)] = [D.int (1 + (i : Int))]
        rw [show ((i + 1 : Nat) : Int) = 1 + (i : Int) by omega]
    have hlen : (nI (tkL m x i)).length ≤ i + 1 := by
      unfold tkL nI
      rw [List.length_map, List.length_cons, List.length_map]
      have := List.length_filter_le (tak m x) (List.range i)
      rw [List.length_range] at this
      omega
    refine tg_tup c.calm ⟨_, rfl, rfl, tn_c c.toCn ⟨_, (.s (.s (.s .z))), tn_c c.toCn ⟨_, (.s (.s (.s (.s .z)))), tn_z (?_)⟩⟩⟩
    cases o with
    | none =>
      refine bk_one (sk_if (et_w (ew_and (q := false) (et_notN (ek_n c.toCn (.s (.s (.s (.s .z)))) (⟨rfl, rfl⟩))) (fun hb => by cases hb) (⟨fun ht => ?_, fun ht => ?_⟩))))
      · cases ht
      · refine bk_nil ⟨_, _, rfl, ?_⟩
        rw [hstep]
        exact congrArg (fun z => (p_ticks, C.lst z) :: L) (List.append_nil _).symm
    | some v =>
      have e1 : tkE m (some v) = decide (v % m = 0) := rfl
      refine bk_one (sk_if (et_w (ew_and (et_notN (ek_n c.toCn (.s (.s (.s (.s .z)))) (⟨rfl, rfl⟩))) (fun hb => et_and1 (et_eqI (ek_mod (ek_n c.toCn (.s (.s (.s (.s .z)))) (⟨_, rfl, ek_ixT (ek_n c.toCn .z (ek_int (⟨_, _, _, rfl, rfl, (by walk_at "vix"), ⟨_, rfl, (by omega), ⟨_, rfl, ek_int (⟨_, rfl, ⟨rfl, rfl⟩⟩)⟩⟩⟩))) (fun _ _ => rfl)⟩))))) (⟨fun ht => ?_, fun ht => ?_⟩))))
      · have ht' : decide (v % m = 0) = true := ht
        refine bk_one (sk_expr (ek_app (ek_n c.toCn (.s (.s .z)) (⟨_, _, rfl, .own .z, ek_n c.toCn (.s (.s (.s .z))) (⟨_, _, _, .z, .z, (sz_lt (by omega)), ?_⟩)⟩))))
        refine ⟨_, _, rfl, ?_⟩
        rw [hstep, e1, ht']
        rfl
      · have ht' : decide (v % m = 0) = false := ht
        refine bk_nil ⟨_, _, rfl, ?_⟩
        rw [hstep, e1, ht']
        exact congrArg (fun z => (p_ticks, C.lst z) :: L) (List.append_nil _).symm
  · obtain ⟨w1, w2, rfl, rfl⟩ := hP
    rw [enumK_len, List.length_map, hx.1]
    refine bk_frz (.s (.s .z)) .z (.s (.s .z)) ?_
    refine bk_one (sk_ret (ek_n c.toCn (.s (.s .z)) (?_)))
    exact h1
def S_hears_from : SpD := fun ds L q _ => ∃ m p l x, ds = [mdD m p l, stD x] ∧ okMd m p l ∧ okSd l x ∧ q (.lst (nI (hrL m x l))) L
theorem b_hears_from {ds : List D} {L : Lg} {q : D → Lg → Prop} {e : Xc → Lg → Prop} (c : Cf X (["model", "stand", "ticks", "ago", "entry"] : List Str) ([] : List Str) (defScope (top 24)) F0 (fun y _ L' => e y L')) (T : Tx X.K X.mg) (h : S_hears_from ds L q e) :
    BK X F0 (defBody (top 24)) (ds.map some ++ List.replicate 3 none) L { nx := fun _ L' => q .non L', rt := q } := by
  obtain ⟨m, p, l, x, rfl, hm, hx, h1⟩ := h
  have hm2 := hm
  unfold okMd at hm2
  refine bk_cons (sk_set c.toCn (ek_lstO (ea_cons (ek_int (ea_nil (⟨(by walk_at "vlen"), fun p_ticks => ⟨_, (.s (.s .z)), ?_⟩⟩))))))
  refine bk_cons (sk_for c (ei_enumT T.no_enumerate (c.toCn.gl) (ek_ixT (ek_n c.toCn (.s .z) (ek_int (⟨_, _, _, rfl, rfl, (by walk_at "vix"), ek_int (⟨_, _, rfl, rfl, ⟨by decide, by decide⟩, ⟨fun i Γ L' => ∃ w1 w2, Γ = [some (mdD m p l), some (stD x), some (.ref p_ticks), w1, w2] ∧ L' = (p_ticks, .lst (nI (hrL m x i))) :: L, ?_, fun F1 c i d Γ L hd hP => ?_, fun Γ L hP => ?_⟩⟩)⟩))) (fun _ _ => rfl))))
  · exact ⟨none, none, rfl, rfl⟩
  · obtain ⟨w1, w2, rfl, rfl⟩ := hP
    obtain ⟨y, hy, rfl⟩ := enumK_at hd
    obtain ⟨o, ho, rfl⟩ := op_at hy
    have hi := (List.getElem?_eq_some_iff.mp ho).1
    have hil : i < l := by have := hx.2.1; omega
    have hstep : nI (hrL m x (i + 1)) = nI (hrL m x i) ++ if hrE m x.a x.r o then [D.int (1 + (i : Int))] else [] := by
      unfold hrL nI
      rw [take_filt, List.map_append, ← List.cons_append, List.map_append]
      congr 1
      have : hea m x i = hrE m x.a x.r o := by
        unfold hea
        rw [ho]
        rfl
      rw [this]
      cases hrE m x.a x.r o
      · rfl
      · show [D.int ((i + 1 : Nat) : Int)] = [D.int (1 + (i : Int))]
        rw [show ((i + 1 : Nat) : Int) = 1 + (i : Int) by omega]
    have hlen : (nI (hrL m x i)).length ≤ i + 1 := by
      unfold hrL nI
      rw [List.length_map, List.length_cons, List.length_map]
      have := List.length_filter_le (hea m x) (List.range i)
      rw [List.length_range] at this
      omega
    refine tg_tup c.calm ⟨_, rfl, rfl, tn_c c.toCn ⟨_, (.s (.s (.s .z))), tn_c c.toCn ⟨_, (.s (.s (.s (.s .z)))), tn_z (?_)⟩⟩⟩
    cases o with
    | none =>
      refine bk_one (sk_if (et_w (ew_and (et_eqI (ek_ixT (ek_n c.toCn (.s .z) (ek_int (⟨_, _, _, rfl, rfl, (by walk_at "vix"), ⟨_, rfl, ek_int (⟨_, rfl, ⟨rfl, rfl⟩⟩)⟩⟩))) (fun _ _ => rfl))) (fun hb => ew_and (q := false) (et_notN (ek_n c.toCn (.s (.s (.s (.s .z)))) (⟨rfl, rfl⟩))) (fun hb => by cases hb) (⟨rfl, rfl⟩)) (⟨fun ht => ?_, fun ht => ?_⟩))))
      · exfalso
        revert ht
        cases decide (x.r = 0) <;> exact fun z => nomatch z
      · refine bk_nil ⟨_, _, rfl, ?_⟩
        rw [hstep]
        exact congrArg (fun z => (p_ticks, C.lst z) :: L) (List.append_nil _).symm
    | some v =>
      have e1 : hrE m x.a x.r (some v) = (decide (x.r = 0) && decide ((v - x.a - 1) % m = 0)) := rfl
      refine bk_one (sk_if (et_w (ew_and (et_eqI (ek_ixT (ek_n c.toCn (.s .z) (ek_int (⟨_, _, _, rfl, rfl, (by walk_at "vix"), ⟨_, rfl, ek_int (⟨_, rfl, ⟨rfl, rfl⟩⟩)⟩⟩))) (fun _ _ => rfl))) (fun hb => ew_and (et_notN (ek_n c.toCn (.s (.s (.s (.s .z)))) (⟨rfl, rfl⟩))) (fun hb => et_and1 (et_eqI (ek_mod (ek_sub (ek_sub (ek_n c.toCn (.s (.s (.s (.s .z)))) (⟨_, rfl, ek_ixT (ek_n c.toCn (.s .z) (ek_int (⟨_, _, _, rfl, rfl, (by walk_at "vix"), ⟨_, rfl, ⟨_, rfl, ek_int (⟨_, rfl, ⟨_, rfl, ek_ixT (ek_n c.toCn .z (ek_int (⟨_, _, _, rfl, rfl, (by walk_at "vix"), ⟨_, rfl, (by omega), ⟨_, rfl, ek_int (⟨_, rfl, ⟨rfl, rfl⟩⟩)⟩⟩⟩))) (fun _ _ => rfl)⟩⟩)⟩⟩⟩))) (fun _ _ => rfl)⟩))))))) (⟨rfl, rfl⟩)) (⟨fun ht => ?_, fun ht => ?_⟩))))
      · have ht' : (decide (x.r = 0) && decide ((v - x.a - 1) % m = 0)) = true := ht
        refine bk_one (sk_expr (ek_app (ek_n c.toCn (.s (.s .z)) (⟨_, _, rfl, .own .z, ek_n c.toCn (.s (.s (.s .z))) (⟨_, _, _, .z, .z, (sz_lt (by omega)), ?_⟩)⟩))))
        refine ⟨_, _, rfl, ?_⟩
        rw [hstep, e1, ht']
        rfl
      · have ht' : (decide (x.r = 0) && decide ((v - x.a - 1) % m = 0)) = false := ht
        refine bk_nil ⟨_, _, rfl, ?_⟩
        rw [hstep, e1, ht']
        exact congrArg (fun z => (p_ticks, C.lst z) :: L) (List.append_nil _).symm
  · obtain ⟨w1, w2, rfl, rfl⟩ := hP
    rw [enumK_len, List.length_map, hx.2.1]
    refine bk_frz (.s (.s .z)) .z (.s (.s .z)) ?_
    refine bk_one (sk_ret (ek_n c.toCn (.s (.s .z)) (?_)))
    exact h1
/-! steps_from -/
def S_steps_from : SpD := fun ds L q _ => ∃ m p l x, ds = [mdD m p l, stD x] ∧ okMd m p l ∧ okSd l x ∧ ∀ r, q (.ref r) ((r, .lst ((allS m x l).map spD)) :: L)
theorem b_steps_from {ds : List D} {L : Lg} {q : D → Lg → Prop} {e : Xc → Lg → Prop} (c : Cf X (["model", "stand", "hears", "steps", "take"] : List Str) (["hear"] : List Str) (defScope (top 25)) F0 (fun y _ L' => e y L')) (T : Tx X.K X.mg) (hr : Room 1 X.A)
    (G_look_model : CalX X 1 "look_model" (["model"] : List Str) S_look_model) (G_takes_from : CalX X 1 "takes_from" (["model", "stand"] : List Str) S_takes_from) (G_hears_from : CalX X 1 "hears_from" (["model", "stand"] : List Str) S_hears_from) (h : S_steps_from ds L q e) :
    BK X F0 (defBody (top 25)) (ds.map some ++ List.replicate 4 none) L { nx := fun _ L' => q .non L', rt := q } := by
  obtain ⟨m, p, l, x, rfl, hm, hx, h1⟩ := h
  have hm2 := hm
  unfold okMd at hm2
  have hl1 := tkL_len (m := m) (x := x) (l := l)
  have hl2 := hrL_len (m := m) (x := x) (l := l)
  rw [allS_eq] at h1
  refine bk_cons (sk_expr (ek_call c.tk G_look_model (hr.mono (by first | decide | exact Nat.le_refl _)) (ea_cons (ek_n c.toCn .z (ea_nil (⟨m, p, l, rfl, hm, ?_⟩)))) (c.toCn.gl)))
  refine bk_cons (sk_set c.toCn (ek_call c.tk G_hears_from (hr.mono (by first | decide | exact Nat.le_refl _)) (ea_cons (ek_n c.toCn .z (ea_cons (ek_n c.toCn (.s .z) (ea_nil (⟨m, p, l, x, rfl, hm, hx, ⟨_, (.s (.s .z)), ?_⟩⟩)))))) (c.toCn.gl)))
  refine bk_cons (sk_set c.toCn (ek_lstO (ea_nil (⟨(by walk_at "vlen"), fun p_steps => ⟨_, (.s (.s (.s .z))), ?_⟩⟩))))
  refine bk_cons (sk_for c (ei_list (ek_call c.tk G_takes_from (hr.mono (by first | decide | exact Nat.le_refl _)) (ea_cons (ek_n c.toCn .z (ea_cons (ek_n c.toCn (.s .z) (ea_nil (⟨m, p, l, x, rfl, hm, hx, ⟨_, rfl, ⟨fun i Γ L' => ∃ w1 w2, Γ = [some (mdD m p l), some (stD x), some (.lst (nI (hrL m x l))), some (.ref p_steps), w1, w2] ∧ L' = (p_steps, .lst ((((tkL m x l).take i).flatMap fun t => (hrL m x l).map fun h => (t, h)).map spD)) :: L, ?_, fun F1 c i d Γ L hd hP => ?_, fun Γ L hP => ?_⟩⟩⟩)))))) (c.toCn.gl))))
  · exact ⟨none, none, rfl, rfl⟩
  · obtain ⟨w1, w2, rfl, rfl⟩ := hP
    obtain ⟨t, ht, rfl⟩ := nI_at hd
    have hi := (List.getElem?_eq_some_iff.mp ht).1
    have hfl : (((tkL m x l).take i).flatMap fun t => (hrL m x l).map fun h => (t, h)).length ≤ 4 * 4 := by
      rw [List.length_flatMap]
      have key : ∀ xs : List Nat, (xs.map fun t => ((hrL m x l).map fun h => (t, h)).length).sum = xs.length * (hrL m x l).length := fun xs => by
        induction xs with
        | nil => simp
        | cons y ys ih => rw [List.map_cons, List.sum_cons, ih, List.length_map, List.length_cons, Nat.succ_mul, Nat.add_comm]
      rw [key]
      exact Nat.mul_le_mul (by rw [List.length_take]; omega) (by omega)
    refine tg_n c.toCn ⟨_, (.s (.s (.s (.s .z)))), ?_⟩
    refine bk_one (sk_expr (ek_ext (ek_n c.toCn (.s (.s (.s .z))) (⟨_, _, rfl, .own .z, ek_lcM [("hear", 5)] c.toCn c.calm (by decide +kernel) (ei_p (ei_list (ek_n c.toCn (.s (.s .z)) (⟨_, rfl, ⟨(hrL m x l).map fun h => spD (t, h), ?_, ⟨_, _, _, _, .z, Or.inl .lst, .z, (by first | exact sz_ok (Nat.le_of_ble_eq_true rfl) | exact sz_lt (Nat.le_of_ble_eq_true rfl) | (refine sz_ok ?_; rw [List.length_map, List.length_map]; omega)), ?_⟩⟩⟩))))⟩))))
    · refine ⟨by rw [List.length_map]; unfold nI; rw [List.length_map], by unfold nI; rw [List.length_map]; omega, fun F1 n d e acc Dp hd he => ?_⟩
      obtain ⟨h, hh, rfl⟩ := nI_at hd
      have he' : e = spD (t, h) := by
        rw [List.getElem?_map, hh] at he
        exact (Option.some.inj he).symm
      subst he'
      intro X' cb hX'
      obtain ⟨s0, H0, C0, cl, fp, rfl⟩ := hX'
      refine tb_n cb ⟨_, (.s (.s (.s (.s (.s .z))))), rfl, fun X' cb hX' => ?_⟩
      obtain ⟨s0, H0, C0, cl, fp, rfl⟩ := hX'
      refine ek_tup (ea_cons (ek_b cb (.s (.s (.s (.s .z)))) (ea_cons (ek_b cb (.s (.s (.s (.s (.s .z))))) (ea_nil (⟨(by walk_at "vlen"), ?_⟩))))))
      exact ⟨rfl, rfl⟩
    · refine ⟨_, _, rfl, ?_⟩
      rw [List.take_succ, ht, List.flatMap_append, List.map_append]
      show _ = (p_steps, C.lst (_ ++ List.map spD (List.flatMap _ [t]))) :: L
      rw [List.flatMap_singleton, List.map_map]
      rfl
  · obtain ⟨w1, w2, rfl, rfl⟩ := hP
    rw [show (nI (tkL m x l)).length = (tkL m x l).length from List.length_map _, List.take_length]
    refine bk_one (sk_ret (ek_n c.toCn (.s (.s (.s .z))) (?_)))
    exact h1 _
/-! is_wrong -/
def S_is_wrong : SpD := fun ds L q _ => ∃ m p l x, ∃ s : Nat × Nat, ds = [mdD m p l, stD x, spD s] ∧ okMd m p l ∧ (s.1 = 0 ∨ ∃ v, x.s[s.1 - 1]? = some (some v)) ∧ (s.2 = 0 ∨ ∃ v, x.c[s.2 - 1]? = some (some v)) ∧ q (.bl (misr x s)) L
theorem b_is_wrong {ds : List D} {L : Lg} {q : D → Lg → Prop} {e : Xc → Lg → Prop} (c : Cf X (["model", "stand", "step", "take", "hear"] : List Str) ([] : List Str) (defScope (top 26)) F0 (fun y _ L' => e y L')) (T : Tx X.K X.mg) (hr : Room 1 X.A)
    (G_look_model : CalX X 1 "look_model" (["model"] : List Str) S_look_model) (h : S_is_wrong ds L q e) :
    BK X F0 (defBody (top 26)) (ds.map some ++ List.replicate 2 none) L { nx := fun _ L' => q .non L', rt := q } := by
  obtain ⟨m, p, l, x, ⟨t, h⟩, rfl, hm, hs, hc, h1⟩ := h
  unfold misr at h1
  simp only at h1 hs hc
  have key : ∀ b : Bool, b = (decide (t ≠ 0) && decide (x.s[t - 1]? ≠ some (some 0))) → (b = false → q (.bl (decide (h ≠ 0) && decide (x.c[h - 1]? ≠ some (some (x.a + 1))))) L) ∧ (b = true → q (.bl true) L) := fun b hb => by
    rw [← hb] at h1
    refine ⟨fun z => ?_, fun z => ?_⟩
    · rw [z, Bool.false_or] at h1
      exact h1
    · rw [z, Bool.true_or] at h1
      exact h1
  have fin : q (.bl (decide (h ≠ 0) && decide (x.c[h - 1]? ≠ some (some (x.a + 1))))) L → BK X F0 ((defBody (top 26)).drop 3) [some (mdD m p l), some (stD x), some (spD (t, h)), some (.int (t : Int)), some (.int (h : Int))] L { nx := fun _ L' => q .non L', rt := q } := fun h2 => by
    show BK X F0 [_] _ _ _
    rcases hc with h0 | ⟨v, hv⟩
    · subst h0
      refine bk_one (sk_ret (ek_and' (q := false) (ek_gt (ek_n c.toCn (.s (.s (.s (.s .z)))) (⟨_, rfl, ek_int (⟨_, rfl, ⟨rfl, rfl⟩⟩)⟩))) (fun hb => by cases hb) (?_)))
      exact h2
    · by_cases h0 : h = 0
      · subst h0
        refine bk_one (sk_ret (ek_and' (q := false) (ek_gt (ek_n c.toCn (.s (.s (.s (.s .z)))) (⟨_, rfl, ek_int (⟨_, rfl, ⟨rfl, rfl⟩⟩)⟩))) (fun hb => by cases hb) (?_)))
        exact h2
      · have hat : atI (x.c.map opD) ((h : Int) - 1) = some (.int v) := at_nat' (n := h - 1) (by omega) (by rw [List.getElem?_map, hv]; rfl)
        refine bk_one (sk_ret (ek_and' (ek_gt (ek_n c.toCn (.s (.s (.s (.s .z)))) (⟨_, rfl, ek_int (⟨_, rfl, ⟨rfl, rfl⟩⟩)⟩))) (fun hb => ek_and (ek_neI (ek_ixT (ek_ixT (ek_n c.toCn (.s .z) (ek_int (⟨_, _, _, rfl, rfl, (by first | rfl | exact hat), ek_sub (ek_n c.toCn (.s (.s (.s (.s .z)))) (⟨_, rfl, ek_int (⟨_, rfl, ⟨_, _, _, rfl, rfl, (by first | rfl | exact hat), ⟨_, rfl, ek_add (ek_ixT (ek_n c.toCn (.s .z) (ek_int (⟨_, _, _, rfl, rfl, (by first | rfl | exact hat), ⟨_, rfl, ek_int (⟨_, rfl, ⟨_, rfl, ⟨rfl, rfl⟩⟩⟩)⟩⟩))) (fun _ _ => rfl))⟩⟩⟩)⟩))⟩))) (fun _ _ => rfl)) (fun _ _ => rfl)))) (?_)))
        have e1 : (decide ((h : Int) > 0) && !decide (v = x.a + 1)) = (decide (h ≠ 0) && decide (x.c[h - 1]? ≠ some (some (x.a + 1)))) := by
          rw [decide_eq_true (show (h : Int) > 0 by omega), decide_eq_true h0, hv]
          by_cases z : v = x.a + 1 <;> simp [z]
        rw [← e1] at h2
        exact h2
  refine bk_cons (sk_expr (ek_call c.tk G_look_model (hr.mono (by first | decide | exact Nat.le_refl _)) (ea_cons (ek_n c.toCn .z (ea_nil (⟨m, p, l, rfl, hm, ?_⟩)))) (c.toCn.gl)))
  refine bk_cons (sk_asg (ek_n c.toCn (.s (.s .z)) (tg_tup c.calm ⟨_, rfl, rfl, tn_c c.toCn ⟨_, (.s (.s (.s .z))), tn_c c.toCn ⟨_, (.s (.s (.s (.s .z)))), tn_z (?_)⟩⟩⟩)))
  rcases hs with h0 | ⟨v, hv⟩
  · subst h0
    refine bk_cons (sk_if (et_w (ew_and (q := false) (et_gt (ek_n c.toCn (.s (.s (.s .z))) (⟨_, rfl, ek_int (⟨_, rfl, ⟨rfl, rfl⟩⟩)⟩))) (fun hb => by cases hb) (⟨fun ht => ?_, fun ht => ?_⟩))))
    · cases ht
    · refine bk_nil ?_
      exact fin ((key _ rfl).1 rfl)
  · by_cases h0 : t = 0
    · subst h0
      refine bk_cons (sk_if (et_w (ew_and (q := false) (et_gt (ek_n c.toCn (.s (.s (.s .z))) (⟨_, rfl, ek_int (⟨_, rfl, ⟨rfl, rfl⟩⟩)⟩))) (fun hb => by cases hb) (⟨fun ht => ?_, fun ht => ?_⟩))))
      · cases ht
      · refine bk_nil ?_
        exact fin ((key _ rfl).1 rfl)
    · have hat : atI (x.s.map opD) ((t : Int) - 1) = some (.int v) := at_nat' (n := t - 1) (by omega) (by rw [List.getElem?_map, hv]; rfl)
      have e1 : (decide ((t : Int) > 0) && !decide (v = 0)) = (decide (t ≠ 0) && decide (x.s[t - 1]? ≠ some (some 0))) := by
        rw [decide_eq_true (show (t : Int) > 0 by omega), decide_eq_true h0, hv]
        by_cases z : v = 0 <;> simp [z]
      refine bk_cons (sk_if (et_w (ew_and (et_gt (ek_n c.toCn (.s (.s (.s .z))) (⟨_, rfl, ek_int (⟨_, rfl, ⟨rfl, rfl⟩⟩)⟩))) (fun hb => et_and1 (et_neI (ek_ixT (ek_ixT (ek_n c.toCn (.s .z) (ek_int (⟨_, _, _, rfl, rfl, (by first | rfl | exact hat), ek_sub (ek_n c.toCn (.s (.s (.s .z))) (⟨_, rfl, ek_int (⟨_, rfl, ⟨_, _, _, rfl, rfl, (by first | rfl | exact hat), ⟨_, rfl, ek_int (⟨_, rfl, ⟨rfl, rfl⟩⟩)⟩⟩⟩)⟩))⟩))) (fun _ _ => rfl)) (fun _ _ => rfl)))) (⟨fun ht => ?_, fun ht => ?_⟩))))
      · refine bk_one (sk_ret (ek_bl (?_)))
        exact (key _ e1).2 ht
      · refine bk_nil ?_
        exact fin ((key _ e1).1 ht)
/-! moved, next_stand -/
def S_moved : SpD := fun ds L q _ => ∃ (xs : List (Option Int)) (o : Option Int) (t : Int), ds = [.tup (xs.map opD), opD o, .int t] ∧ xs.length ≤ 100 ∧ q (.tup ((o :: xs.dropLast.map (Option.map (· - t))).map opD)) L
theorem b_moved {ds : List D} {L : Lg} {q : D → Lg → Prop} {e : Xc → Lg → Prop} (c : Cf X (["entries", "fresh", "taken", "found", "entry"] : List Str) ([] : List Str) (defScope (top 27)) F0 (fun y _ L' => e y L')) (T : Tx X.K X.mg) (h : S_moved ds L q e) :
    BK X F0 (defBody (top 27)) (ds.map some ++ List.replicate 2 none) L { nx := fun _ L' => q .non L', rt := q } := by
  obtain ⟨xs, o, t, rfl, hl, h1⟩ := h
  have hcut : cutD (xs.map opD) none (some (-1)) = xs.dropLast.map opD := by rw [cut_dropLast, List.map_dropLast]
  have hdl : xs.dropLast.length ≤ 100 := by rw [List.length_dropLast]; omega
  generalize hys : xs.dropLast = ys at *
  refine bk_cons (sk_set c.toCn (ek_lstO (ea_cons (ek_n c.toCn (.s .z) (ea_nil (⟨(by walk_at "vlen"), fun p_found => ⟨_, (.s (.s (.s .z))), ?_⟩⟩))))))
  refine bk_cons (sk_for c (ei_tup (ek_slT (ek_n c.toCn .z (eo_n (eo_s (ek_neg (ek_int (⟨_, rfl, ⟨_, rfl, ⟨_, rfl, ⟨_, rfl, ⟨fun i Γ L' => ∃ w1, Γ = [some (.tup (xs.map opD)), some (opD o), some (.int t), some (.ref p_found), w1] ∧ L' = (p_found, .lst ((o :: (ys.take i).map (Option.map (· - t))).map opD)) :: L, ?_, fun F1 c i d Γ L hd hP => ?_, fun Γ L hP => ?_⟩⟩⟩⟩⟩)))))))))
  · exact ⟨none, rfl, rfl⟩
  · obtain ⟨w1, rfl, rfl⟩ := hP
    rw [hcut] at hd
    obtain ⟨y, hy, rfl⟩ := op_at hd
    have hi := (List.getElem?_eq_some_iff.mp hy).1
    have hlen : ((o :: (ys.take i).map (Option.map (· - t))).map opD).length ≤ i + 1 := by
      rw [List.length_map, List.length_cons, List.length_map, List.length_take]
      omega
    have hstep : (o :: (ys.take (i + 1)).map (Option.map (· - t))).map opD = (o :: (ys.take i).map (Option.map (· - t))).map opD ++ [opD (y.map (· - t))] := by
      rw [List.take_succ, hy, List.map_append, ← List.cons_append, List.map_append]
      rfl
    refine tg_n c.toCn ⟨_, (.s (.s (.s (.s .z)))), ?_⟩
    cases y with
    | none =>
      refine bk_one (sk_if (et_isN (ek_n c.toCn (.s (.s (.s (.s .z)))) (⟨fun ht => ?_, fun ht => ?_⟩))))
      · refine bk_one (sk_expr (ek_app (ek_n c.toCn (.s (.s (.s .z))) (⟨_, _, rfl, .own .z, ek_non (⟨_, _, _, .z, .z, (sz_lt (by omega)), ?_⟩)⟩))))
        exact ⟨_, rfl, by rw [hstep]; rfl⟩
      · cases ht
    | some v =>
      refine bk_one (sk_if (et_isN (ek_n c.toCn (.s (.s (.s (.s .z)))) (⟨fun ht => ?_, fun ht => ?_⟩))))
      · cases ht
      · refine bk_one (sk_expr (ek_app (ek_n c.toCn (.s (.s (.s .z))) (⟨_, _, rfl, .own .z, ek_sub (ek_n c.toCn (.s (.s (.s (.s .z)))) (⟨_, rfl, ek_n c.toCn (.s (.s .z)) (⟨_, rfl, ⟨_, _, _, .z, .z, (sz_lt (by omega)), ?_⟩⟩)⟩))⟩))))
        exact ⟨_, rfl, by rw [hstep]; rfl⟩
  · obtain ⟨w1, rfl, rfl⟩ := hP
    rw [hcut, List.length_map, List.take_length]
    refine bk_frz (.s (.s (.s .z))) .z (.s (.s (.s .z))) ?_
    refine bk_one (sk_ret (ek_tupOf T.no_tuple (c.toCn.gl) (ek_n c.toCn (.s (.s (.s .z))) (⟨_, Or.inl .lst, ?_⟩))))
    exact h1
def S_next_stand : SpD := fun ds L q _ => ∃ m p l x, ∃ s : Nat × Nat, ds = [mdD m p l, stD x, spD s] ∧ okMd m p l ∧ okSd l x ∧ q (stD (behS p x s)) L
theorem b_next_stand {ds : List D} {L : Lg} {q : D → Lg → Prop} {e : Xc → Lg → Prop} (c : Cf X (["model", "stand", "step", "ahead", "rest", "sent", "counts", "taken", "given"] : List Str) ([] : List Str) (defScope (top 28)) F0 (fun y _ L' => e y L')) (T : Tx X.K X.mg) (hr : Room 1 X.A)
    (G_look_model : CalX X 1 "look_model" (["model"] : List Str) S_look_model) (G_moved : CalX X 1 "moved" (["entries", "fresh", "taken"] : List Str) S_moved) (h : S_next_stand ds L q e) :
    BK X F0 (defBody (top 28)) (ds.map some ++ List.replicate 6 none) L { nx := fun _ L' => q .non L', rt := q } := by
  obtain ⟨m, p, l, x, ⟨t, h⟩, rfl, hm, hx, h1⟩ := h
  have hm2 := hm
  unfold okMd at hm2
  obtain ⟨hx1, hx2, hx3⟩ := hx
  refine bk_cons (sk_expr (ek_call c.tk G_look_model (hr.mono (by first | decide | exact Nat.le_refl _)) (ea_cons (ek_n c.toCn .z (ea_nil (⟨m, p, l, rfl, hm, ?_⟩)))) (c.toCn.gl)))
  refine bk_cons (sk_asg (ek_n c.toCn (.s .z) (tg_tup c.calm ⟨_, rfl, rfl, tn_c c.toCn ⟨_, (.s (.s (.s .z))), tn_c c.toCn ⟨_, (.s (.s (.s (.s .z)))), tn_c c.toCn ⟨_, (.s (.s (.s (.s (.s .z))))), tn_c c.toCn ⟨_, (.s (.s (.s (.s (.s (.s .z)))))), tn_z (?_)⟩⟩⟩⟩⟩)))
  refine bk_cons (sk_set c.toCn (ek_int (⟨_, (.s (.s (.s (.s (.s (.s (.s .z))))))), ?_⟩)))
  refine bk_cut (fun Γ L' => Γ = [some (mdD m p l), some (stD x), some (spD (t, h)), some (.int x.a), some (.int x.r), some (.tup (x.s.map opD)), some (.tup (x.c.map opD)), some (.int (b01 t)), none] ∧ L' = L) (sk_if (et_gt (ek_ixT (ek_n c.toCn (.s (.s .z)) (ek_int (⟨_, _, _, rfl, rfl, (by walk_at "vix"), ⟨_, rfl, ek_int (⟨_, rfl, ⟨fun ht => ?_, fun ht => ?_⟩⟩)⟩⟩))) (fun _ _ => rfl)))) (fun Γ L hM => ?_)
  · have ht0 : t ≠ 0 := by
      have := of_decide_eq_true ht
      omega
    refine bk_one (sk_set c.toCn (ek_int (⟨_, (.s (.s (.s (.s (.s (.s (.s .z))))))), ?_⟩)))
    refine ⟨?_, rfl⟩
    rw [show b01 t = 1 from if_neg ht0]
    rfl
  · have ht0 : t = 0 := by
      have := of_decide_eq_false ht
      omega
    refine bk_nil ⟨?_, rfl⟩
    rw [show b01 t = 0 from if_pos ht0]
    rfl
  · obtain ⟨rfl, rfl⟩ := hM
    refine bk_cons (sk_set c.toCn (ek_sub (ek_n c.toCn (.s (.s (.s .z))) (⟨_, rfl, ek_n c.toCn (.s (.s (.s (.s (.s (.s (.s .z))))))) (⟨_, rfl, ⟨_, (.s (.s (.s .z))), ?_⟩⟩)⟩))))
    refine bk_cut (fun Γ L' => Γ = [some (mdD m p l), some (stD x), some (spD (t, h)), some (.int (x.a - b01 t + b01 h)), some (.int (if h = 0 then x.r else p)), some (.tup (x.s.map opD)), some (.tup (x.c.map opD)), some (.int (b01 t)), none] ∧ L' = L) (sk_if (et_gt (ek_ixT (ek_n c.toCn (.s (.s .z)) (ek_int (⟨_, _, _, rfl, rfl, (by walk_at "vix"), ⟨_, rfl, ek_int (⟨_, rfl, ⟨fun ht => ?_, fun ht => ?_⟩⟩)⟩⟩))) (fun _ _ => rfl)))) (fun Γ L hM => ?_)
    · have ht0 : h ≠ 0 := by
        have := of_decide_eq_true ht
        omega
      refine bk_cons (sk_set c.toCn (ek_add (ek_n c.toCn (.s (.s (.s .z))) (⟨_, rfl, ek_int (⟨_, rfl, ⟨_, (.s (.s (.s .z))), ?_⟩⟩)⟩))))
      refine bk_one (sk_set c.toCn (ek_ixT (ek_n c.toCn .z (ek_int (⟨_, _, _, rfl, rfl, (by walk_at "vix"), ⟨_, (.s (.s (.s (.s .z)))), ?_⟩⟩))) (fun _ _ => rfl)))
      refine ⟨?_, rfl⟩
      rw [if_neg ht0, show b01 h = 1 from if_neg ht0]
    · have ht0 : h = 0 := by
        have := of_decide_eq_false ht
        omega
      refine bk_nil ⟨?_, rfl⟩
      rw [if_pos ht0, show b01 h = 0 from if_pos ht0, Int.add_zero]
    · obtain ⟨rfl, rfl⟩ := hM
      unfold behS at h1
      simp only at h1
      have hr0 : 0 ≤ (if h = 0 then x.r else p) := by split <;> omega
      generalize (if h = 0 then x.r else p) = r0 at *
      refine bk_cons (sk_set c.toCn (ek_n c.toCn (.s (.s (.s .z))) (⟨_, (.s (.s (.s (.s (.s (.s (.s (.s .z)))))))), ?_⟩)))
      refine bk_cut (fun Γ L' => Γ = [some (mdD m p l), some (stD x), some (spD (t, h)), some (.int (x.a - b01 t + b01 h)), some (.int (if r0 > 0 then r0 - 1 else r0)), some (.tup (x.s.map opD)), some (.tup (x.c.map opD)), some (.int (b01 t)), some (opD (if r0 > 0 then none else some (x.a - b01 t + b01 h)))] ∧ L' = L) (sk_if (et_gt (ek_n c.toCn (.s (.s (.s (.s .z)))) (⟨_, rfl, ek_int (⟨_, rfl, ⟨fun ht => ?_, fun ht => ?_⟩⟩)⟩)))) (fun Γ L hM => ?_)
      · have ht0 : r0 > 0 := of_decide_eq_true ht
        refine bk_cons (sk_set c.toCn (ek_sub (ek_n c.toCn (.s (.s (.s (.s .z)))) (⟨_, rfl, ek_int (⟨_, rfl, ⟨_, (.s (.s (.s (.s .z)))), ?_⟩⟩)⟩))))
        refine bk_one (sk_set c.toCn (ek_non (⟨_, (.s (.s (.s (.s (.s (.s (.s (.s .z)))))))), ?_⟩)))
        refine ⟨?_, rfl⟩
        rw [if_pos ht0, if_pos ht0]
        rfl
      · have ht0 : ¬ r0 > 0 := of_decide_eq_false ht
        refine bk_nil ⟨?_, rfl⟩
        rw [if_neg ht0, if_neg ht0]
        rfl
      · obtain ⟨rfl, rfl⟩ := hM
        obtain ⟨xs2, ex2⟩ : ∃ y, y = x.c := ⟨_, rfl⟩
        obtain ⟨xs3, ex3⟩ : ∃ y, y = x.s := ⟨_, rfl⟩
        obtain ⟨o2, eo2⟩ : ∃ y : Option Int, y = some 0 := ⟨_, rfl⟩
        obtain ⟨o3, eo3⟩ : ∃ y, y = (if r0 > 0 then none else some (x.a - b01 t + b01 h)) := ⟨_, rfl⟩
        have hl2 : xs2.length ≤ 100 ∧ xs3.length ≤ 100 := by rw [ex2, ex3]; omega
        refine bk_one (sk_ret (ek_tup (ea_cons (ek_n c.toCn (.s (.s (.s .z))) (ea_cons (ek_n c.toCn (.s (.s (.s (.s .z)))) (ea_cons (ek_call c.tk G_moved (hr.mono (by first | decide | exact Nat.le_refl _)) (ea_cons (ek_n c.toCn (.s (.s (.s (.s (.s .z))))) (ea_cons (ek_n c.toCn (.s (.s (.s (.s (.s (.s (.s (.s .z)))))))) (ea_cons (ek_n c.toCn (.s (.s (.s (.s (.s (.s (.s .z))))))) (ea_nil (⟨xs3, o3, _, (by first | (rw [ex3, eo3]; done) | (rw [ex3, eo3]; rfl) | (rw [ex2, eo2]; rfl)), by omega, ea_cons (ek_call c.tk G_moved (hr.mono (by first | decide | exact Nat.le_refl _)) (ea_cons (ek_n c.toCn (.s (.s (.s (.s (.s (.s .z)))))) (ea_cons (ek_int (ea_cons (ek_n c.toCn (.s (.s (.s (.s (.s (.s (.s .z))))))) (ea_nil (⟨xs2, o2, _, (by first | (rw [ex3, eo3]; done) | (rw [ex3, eo3]; rfl) | (rw [ex2, eo2]; rfl)), by omega, ea_nil (⟨(by walk_at "vlen"), ?_⟩)⟩)))))))) (c.toCn.gl))⟩)))))))) (c.toCn.gl)))))))))
        rw [ex2, eo2, ex3, eo3]
        have e9 : (if r0 > 0 then r0 - 1 else r0) = if r0 > 0 then r0 - 1 else 0 := by
          by_cases z : r0 > 0
          · rw [if_pos z, if_pos z]
          · rw [if_neg z, if_neg z]; omega
        rw [e9]
        exact h1
end
end K24


set_option Elab.async false
set_option linter.all false
set_option maxRecDepth 100000
set_option maxHeartbeats 4000000
set_option pp.deepTerms.threshold 16
namespace K24
open PySem PySem.Spec PyProof.Rows L2 Vs
local macro_rules | `(tactic| walk_at "vpos") => `(tactic| first | decide | omega)
local macro_rules | `(tactic| walk_at "vdiv") => `(tactic| first | exact ⟨by decide, by decide⟩ | (constructor <;> omega))
local macro_rules | `(tactic| walk_at "vpow") => `(tactic| exact ⟨by decide, by decide, by decide⟩)
local macro_rules | `(tactic| walk_at "vmul") => `(tactic| first | exact mulL ⟨by decide, by decide⟩ | exact mulR ⟨by decide, by decide⟩ | exact mulL (by constructor <;> omega) | exact mulR (by constructor <;> omega))
local macro_rules | `(tactic| walk_at "vlen") => `(tactic| first | exact sz_ok (Nat.le_of_ble_eq_true rfl) | exact sz_lt (Nat.le_of_ble_eq_true rfl) | (refine sz_ok ?_; simp only [List.length_append, List.length_cons, List.length_nil, List.length_map]; omega) | (refine sz_lt ?_; simp only [List.length_append, List.length_cons, List.length_nil, List.length_map]; omega))
local macro_rules | `(tactic| walk_at "vrng") => `(tactic| (refine ⟨?_, ?_⟩ <;> omega))
local macro_rules | `(tactic| walk_at "vix") => `(tactic| rfl)
local macro_rules | `(tactic| walk_at "vixn") => `(tactic| first | rfl | exact ixN_at (by omega) (by omega))
local macro_rules | `(tactic| walk_at "vkb") => `(tactic| decide +kernel)
local macro_rules | `(tactic| walk_at "vty") => `(tactic| first | exact .int | exact .bl | exact .lst | exact .str | exact .tup | exact .non | exact .own .z | exact tyd_as (by assumption))
local macro_rules | `(tactic| walk_at "vkit") => `(tactic| assumption)
local macro_rules | `(tactic| walk_at "vrep") => `(tactic| (refine ⟨by omega, by omega, ?_⟩; first | decide | (refine sz_ok ?_; simp only [List.length_cons, List.length_nil]; omega)))
section
variable {X : Cx} {F0 : Hp}
set_option pp.deepTerms.threshold 8
/-! ledgers put in order -/
theorem sp_ex {A B : Lg} (h : SubP A B) : ∃ R, B.Perm (A ++ R) := by
  obtain ⟨M, m1, m2⟩ := h
  obtain ⟨R, hR⟩ := m1.exists_perm_append
  exact ⟨R, m2.symm.trans hR⟩
theorem sp_mk {A B R : Lg} (h : B.Perm (A ++ R)) : SubP A B := ⟨A ++ R, List.sublist_append_left _ _, h.symm⟩
theorem sp_trans {A B G : Lg} (h1 : SubP A B) (h2 : SubP B G) : SubP A G := by
  obtain ⟨R, r⟩ := sp_ex h1
  obtain ⟨S, s⟩ := sp_ex h2
  exact sp_mk (R := R ++ S) (s.trans ((r.append_right S).trans (.of_eq (List.append_assoc ..))))
theorem sp_left {A B : Lg} (G : Lg) (h : SubP A B) : SubP (G ++ A) (G ++ B) := by
  obtain ⟨R, r⟩ := sp_ex h
  exact sp_mk (R := R) ((r.append_left G).trans (.of_eq (List.append_assoc ..).symm))
theorem sp_right {A B : Lg} (G : Lg) (h : SubP A B) : SubP (A ++ G) (B ++ G) := by
  obtain ⟨R, r⟩ := sp_ex h
  refine sp_mk (R := R) ((r.append_right G).trans ?_)
  rw [List.append_assoc, List.append_assoc]
  exact List.perm_append_comm.append_left A
theorem sk_nxP {st : Stmt} {Γ : Gm} {L : Lg} {k : Ks} (h : SK X F0 st Γ L { nx := fun Γ' L' => ∃ L2, SubP L2 L' ∧ k.nx Γ' L2, rt := k.rt, bk := k.bk, ct := k.ct }) : SK X F0 st Γ L k := fun F σ H Dn E q =>
  h F σ H Dn E ⟨fun Γ L F σ H ⟨L2, hs, h⟩ E => q.nx Γ L2 F σ H h (E.subP hs), q.rt, q.bk, q.ct⟩
theorem sk_rtP {st : Stmt} {Γ : Gm} {L : Lg} {k : Ks} (h : SK X F0 st Γ L { nx := k.nx, rt := fun d L' => ∃ L2, SubP L2 L' ∧ k.rt d L2, bk := k.bk, ct := k.ct }) : SK X F0 st Γ L k := fun F σ H Dn E q =>
  h F σ H Dn E ⟨q.nx, fun d L F v H ⟨L2, hs, h⟩ s l r => q.rt d L2 F v H h s (Led.subP l hs) r, q.bk, q.ct⟩
def Vp (S : SpD) : SpD := fun ds L q e => ∃ L1, SubP L1 L ∧ S ds L1 q e
theorem b_vp {S : SpD} {ds : List D} {L : Lg} {q : D → Lg → Prop} {e : Xc → Lg → Prop} {B : List Stmt} {Γ : Gm} {Z : Ks} (h : Vp S ds L q e) (f : S ds = S ds → ∀ L1, S ds L1 q e → BK X F0 B Γ L1 Z) : BK X F0 B Γ L Z := by
  obtain ⟨L1, hs, h2⟩ := h
  exact bk_lg hs (f rfl L1 h2)
theorem get_mid {α : Type} {x : α} {B : List α} : ∀ {A : List α}, Get (A ++ x :: B) A.length x
  | [] => .z
  | _ :: A => .s (get_mid (A := A))
theorem get_right {α : Type} {A B : List α} {x : α} {j : Nat} (g : Get B j x) : Get (A ++ B) (A.length + j) x := by
  induction A with
  | nil => rw [List.nil_append, List.length_nil, Nat.zero_add]; exact g
  | cons y A ih => rw [List.length_cons, Nat.add_right_comm]; exact .s ih
theorem mp_get {α : Type} {f : α → D} {xs : List α} {n : Nat} {d : D} (h : (xs.map f)[n]? = some d) : ∃ x, xs[n]? = some x ∧ d = f x := by
  rw [List.getElem?_map] at h
  cases z : xs[n]? with
  | none => rw [z] at h; cases h
  | some x => rw [z] at h; exact ⟨x, rfl, (Option.some.inj h).symm⟩
theorem take_snoc {α : Type} {xs : List α} {n : Nat} {x : α} (h : xs[n]? = some x) : xs.take (n + 1) = xs.take n ++ [x] := by
  rw [List.take_add_one, h]
  rfl
/-! steps_to -/
def S_steps_to (w : World) : SpD := fun ds L q _ => ∃ (p : Addr) (kvs : List (NestedKey × D)) (j l : Nat) (line : List Sd) (rows : List Rw) (i : Nat) (x : Sd) (r : Rw), ds = [.ref p, stD x] ∧ Get L j (p, C.dit w kvs) ∧ Cm l line rows kvs ∧ rows.length = line.length ∧ (line[0]? = some (firstS l) ∧ rows[0]? = some []) ∧ line[i]? = some x ∧ rows[i]? = some r ∧ r.length ≤ 281250 ∧
  ∀ pr, q (.ref pr) ((pr, C.lst (r.map spD)) :: L)
theorem b_steps_to {ds : List D} {L : Lg} {q : D → Lg → Prop} {e : Xc → Lg → Prop} (c : Cf X (["came", "stand", "steps", "step"] : List Str) ([] : List Str) (defScope (top 30)) F0 (fun y _ L' => e y L')) (T : Tx X.K X.mg) (hr : Room 0 X.A)
    (h : S_steps_to X.w ds L q e) :
    BK X F0 (defBody (top 30)) (ds.map some ++ List.replicate 2 none) L { nx := fun _ L' => q .non L', rt := q } := by
  obtain ⟨p, kvs, j, l, line, rows, i0, x0, R, rfl, g, hC, hln, hf, hx0, hr0, hRl, h1⟩ := h
  have hu := hr.units
  refine bk_cons (sk_set c.toCn (ek_lstO (ea_nil (⟨(by walk_at "vlen"), fun p_steps => ⟨_, (.s (.s .z)), ?_⟩⟩))))
  generalize p_steps = ps
  refine bk_cons (sk_while c.own (fun k Γ L' => ∃ (i : Nat) (x : Sd) (r acc : Rw) (w1 : Option D), Γ = [some (.ref p), some (stD x), some (.ref ps), w1] ∧ L' = (ps, C.lst (acc.map spD)) :: L ∧ line[i]? = some x ∧ rows[i]? = some r ∧ r ++ acc.reverse = R ∧ r.length = k) (R.length) ?_ (fun m Γ L hW => ?_))
  · exact ⟨i0, x0, R, [], _, rfl, rfl, hx0, hr0, by simp, rfl⟩
  · obtain ⟨i, x, r, acc, w1, rfl, rfl, hx, hr, hR, hk⟩ := hW
    have hal : (acc.map spD).length + r.length = R.length := by rw [← hR, List.length_append, List.length_reverse, List.length_map]; omega
    by_cases hi : i = 0
    · subst hi
      rw [hf.1] at hx
      rw [hf.2] at hr
      cases hx
      cases hr
      have e1 : acc.reverse = R := by simpa using hR
      refine et_notN (ek_nget hu (ek_n c.toCn .z (ek_n c.toCn (.s .z) (⟨_, _, _, (.own (Get.s g)), (ky_st _), (hC.root), ⟨fun ht => ?_, fun ht => ?_⟩⟩))))
      · cases ht
      · have e2 : (acc.map spD).reverse = R.map spD := by rw [← List.map_reverse, e1]
        refine bk_one (sk_rtP ?_)
        refine sk_ret (ek_revO c.calm T.no_list (c.toCn.gl) T.no_reversed (c.toCn.gl) (ek_n c.toCn (.s (.s .z)) (⟨_, (.own .z), fun p => ?_⟩)))
        rw [e2]
        exact ⟨_, .of_sub (.cons₂ _ (.cons _ (.refl _))), h1 _⟩
    · obtain ⟨k, y, r0, s, h2, h3, h4, h5⟩ := hC.par i x r (by omega) hx hr
      refine et_notN (ek_nget hu (ek_n c.toCn .z (ek_n c.toCn (.s .z) (⟨_, _, _, (.own (Get.s g)), (ky_st _), (h5), ⟨fun ht => ?_, fun ht => ?_⟩⟩))))
      · refine bk_cons (sk_asg (ek_nget hu (ek_n c.toCn .z (ek_n c.toCn (.s .z) (⟨_, _, _, (.own (Get.s g)), (ky_st _), (h5), tg_tup c.calm ⟨_, rfl, rfl, tn_c c.toCn ⟨_, (.s .z), tn_c c.toCn ⟨_, (.s (.s (.s .z))), tn_z (?_)⟩⟩⟩⟩)))))
        refine bk_one (sk_expr (ek_app (ek_n c.toCn (.s (.s .z)) (⟨_, _, rfl, .own .z, ek_n c.toCn (.s (.s (.s .z))) (⟨_, _, _, .z, .z, (sz_lt (by omega)), ?_⟩)⟩))))
        refine ⟨r0.length, by rw [← hk, h4, List.length_append]; exact Nat.lt_succ_self _, k, y, r0, acc ++ [s], _, rfl, ?_, h2, h3, ?_, rfl⟩
        · rw [List.map_append]; rfl
        · rw [← hR, h4, List.reverse_append]; simp
      · cases ht
/-! shown -/
def S_shown : SpD := fun ds L q _ => ∃ m p l, ds = [mdD m p l] ∧ okMd m p l ∧ (∀ r line, Safe m p l line → q (.tup [.str "safe", .ref r]) ((r, C.lst (line.map stD)) :: L)) ∧ (∀ r ss, Wrong m p l ss → q (.tup [.str "wrong", .ref r]) ((r, C.lst (ss.map spD)) :: L))
theorem b_shown {ds : List D} {L : Lg} {q : D → Lg → Prop} {e : Xc → Lg → Prop} (c : Cf X (["model", "first", "came", "line", "at", "stand", "step", "other"] : List Str) ([] : List Str) (defScope (top 31)) F0 (fun y _ L' => e y L')) (T : Tx X.K X.mg) (hr : Room 2 X.A)
    (G_first_stand : CalX X 2 "first_stand" (["model"] : List Str) S_first_stand) (G_steps_from : CalX X 2 "steps_from" (["model", "stand"] : List Str) S_steps_from) (G_is_wrong : CalX X 2 "is_wrong" (["model", "stand", "step"] : List Str) S_is_wrong) (G_next_stand : CalX X 2 "next_stand" (["model", "stand", "step"] : List Str) S_next_stand) (G_steps_to : CalX X 1 "steps_to" (["came", "stand"] : List Str) (S_steps_to X.w))
    (h : S_shown ds L q e) :
    BK X F0 (defBody (top 31)) (ds.map some ++ List.replicate 7 none) L { nx := fun _ L' => q .non L', rt := q } := by
  obtain ⟨mm, p, l, rfl, hm, hsafe, hwrong⟩ := h
  have hu := hr.units
  refine bk_cons (sk_set c.toCn (ek_call c.tk G_first_stand (hr.mono (by first | decide | exact Nat.le_refl _)) (ea_cons (ek_n c.toCn .z (ea_nil (⟨mm, p, l, rfl, hm, ⟨_, (.s .z), ?_⟩⟩)))) (c.toCn.gl)))
  refine bk_cons (sk_set c.toCn (ek_ndisp1 hu (fun p_came => ek_n c.toCn (.s .z) (ek_non (⟨_, _, _, (ky_st _), .z, .z, ⟨_, (.s (.s .z)), ?_⟩⟩)))))
  refine bk_cons (sk_set c.toCn (ek_lstO (ea_cons (ek_n c.toCn (.s .z) (ea_nil (⟨(by walk_at "vlen"), fun p_line => ⟨_, (.s (.s (.s .z))), ?_⟩⟩))))))
  refine bk_cons (sk_set c.toCn (ek_int (⟨_, (.s (.s (.s (.s .z)))), ?_⟩)))
  generalize p_came = pc
  generalize p_line = pl
  refine bk_cons (sk_while c.own (fun k Γ L' => ∃ (line : List Sd) (rows : List Rw) (kvs : List (NestedKey × D)) (a : Nat) (w1 w2 w3 : Option D), Γ = [some (mdD mm p l), some (stD (firstS l)), some (.ref pc), some (.ref pl), some (.int (a : Int)), w1, w2, w3] ∧ L' = (pl, C.lst (line.map stD)) :: (pc, C.dit X.w kvs) :: L ∧ Bf mm p l line rows a ∧ Cm l line rows kvs ∧ a ≤ line.length ∧ k + a = 281251) (281251) ?_ (fun m Γ L hW => ?_))
  · exact ⟨[firstS l], [[]], _, 0, _, _, _, rfl, rfl, bf_first, cm_first, Nat.zero_le _, rfl⟩
  · obtain ⟨line, rows, kvs, a, w1, w2, w3, rfl, rfl, hbf, hC, hal, hka⟩ := hW
    have hml : (line.map stD).length = line.length := List.length_map _
    have hsz := hbf.size hm
    refine et_lt (ek_n c.toCn (.s (.s (.s (.s .z)))) (⟨_, rfl, ek_len T.no_len (c.toCn.gl) (ek_n c.toCn (.s (.s (.s .z))) (⟨_, Or.inl (.own .z), ⟨_, rfl, ⟨fun ht => ?_, fun ht => ?_⟩⟩⟩))⟩))
    · rw [hml] at ht
      have hax : a < line.length := by simpa using ht
      obtain ⟨x, hx⟩ : ∃ x, line[a]? = some x := ⟨_, List.getElem?_eq_getElem hax⟩
      obtain ⟨r, hr'⟩ := hbf.row hx
      have hxo := (hbf.bx hm x (List.mem_of_getElem? hx)).ok
      refine bk_cons (sk_set c.toCn (ek_ix (ek_n c.toCn (.s (.s (.s .z))) (ek_n c.toCn (.s (.s (.s (.s .z)))) (⟨_, _, _, (.own .z), rfl, (at_nat' (n := a) rfl (by rw [List.getElem?_map, hx]; rfl)), ⟨_, (.s (.s (.s (.s (.s .z))))), ?_⟩⟩))) (fun _ _ => rfl)))
      refine bk_cons (sk_for c (ei_list (ek_frz (ek_call c.tk G_steps_from (hr.mono (by first | decide | exact Nat.le_refl _)) (ea_cons (ek_n c.toCn .z (ea_cons (ek_n c.toCn (.s (.s (.s (.s (.s .z))))) (ea_nil (⟨mm, p, l, x, rfl, hm, hxo, fun ra => ⟨_, _, _, _, rfl, .z, ⟨_, rfl, ⟨fun j Γ L' => ∃ (line : List Sd) (rows : List Rw) (kvs : List (NestedKey × D)) (w2 w3 : Option D), Γ = [some (mdD mm p l), some (stD (firstS l)), some (.ref pc), some (.ref pl), some (.int (a : Int)), some (stD x), w2, w3] ∧ L' = (pl, C.lst (line.map stD)) :: (pc, C.dit X.w kvs) :: L ∧ Bi mm p l line rows a x r j ∧ Cm l line rows kvs, ?_, fun F1 c j d Γ L hd hP => ?_, fun Γ L hP => ?_⟩⟩⟩⟩)))))) (c.toCn.gl)))))
      · exact ⟨line, rows, kvs, _, _, rfl, rfl, ⟨hbf, hx, hr', fun s hs => by rw [List.take_zero] at hs; cases hs⟩, hC⟩
      · obtain ⟨line, rows, kvs, w2, w3, rfl, rfl, hB, hC⟩ := hP
        obtain ⟨s, hs, rfl⟩ := mp_get hd
        have hsm := List.mem_of_getElem? hs
        have hml : (line.map stD).length = line.length := List.length_map _
        have hsz := hB.bf.size hm
        have hrl : r.length ≤ 281250 := by
          have := hB.bf.dep a r hB.hr
          have := (List.getElem?_eq_some_iff.mp hB.hx).1
          omega
        refine tg_n c.toCn ⟨_, (.s (.s (.s (.s (.s (.s .z)))))), ?_⟩
        have hrm : (r.map spD).length = r.length := List.length_map _
        refine bk_cons (sk_if (et_v (ek_call c.tk G_is_wrong (hr.mono (by first | decide | exact Nat.le_refl _)) (ea_cons (ek_n c.toCn .z (ea_cons (ek_n c.toCn (.s (.s (.s (.s (.s .z))))) (ea_cons (ek_n c.toCn (.s (.s (.s (.s (.s (.s .z)))))) (ea_nil (⟨mm, p, l, x, s, rfl, hm, mayT_some (allS_mem hsm).2.2.1, mayH_some (allS_mem hsm).2.2.2, ⟨_, rfl, ⟨fun ht => ?_, fun ht => ?_⟩⟩⟩)))))))) (c.toCn.gl))))
        · refine bk_one (sk_retS (ek_tup (ea_cons (ek_str (ea_cons (ek_catO (ek_frz (ek_call c.tk G_steps_to (hr.mono (by first | decide | exact Nat.le_refl _)) (ea_cons (ek_n c.toCn (.s (.s .z)) (ea_cons (ek_n c.toCn (.s (.s (.s (.s (.s .z))))) (ea_nil (⟨_, _, _, l, line, rows, a, x, r, rfl, .s .z, hC, hB.bf.len, hB.bf.fst, hB.hx, hB.hr, hrl, fun pr => ⟨_, _, _, _, rfl, .z, ek_lst (ea_cons (ek_n c.toCn (.s (.s (.s (.s (.s (.s .z)))))) (ea_nil (⟨(by first | exact sz_ok (Nat.le_of_ble_eq_true rfl) | (refine sz_ok ?_; rw [hrm]; show _ + 1 ≤ 1000000; omega)), ⟨_, _, .lst, .lst, (by first | exact sz_ok (Nat.le_of_ble_eq_true rfl) | (refine sz_ok ?_; rw [hrm]; show _ + 1 ≤ 1000000; omega)), fun p_cat => ea_nil (⟨(by first | exact sz_ok (Nat.le_of_ble_eq_true rfl) | (refine sz_ok ?_; rw [hrm]; show _ + 1 ≤ 1000000; omega)), ⟨_, .cons₂ _ (.cons _ (.cons _ (.refl _))), ?_⟩⟩)⟩⟩))))⟩⟩)))))) (c.toCn.gl)))))))))
          have := hwrong p_cat (r ++ [s]) (hB.bf.wrong hm hB.hx hB.hr hsm ht)
          rw [List.map_append] at this
          exact this
        · refine bk_nil ?_
          have hmi : misr x s = false := ht
          refine bk_cons (sk_set c.toCn (ek_call c.tk G_next_stand (hr.mono (by first | decide | exact Nat.le_refl _)) (ea_cons (ek_n c.toCn .z (ea_cons (ek_n c.toCn (.s (.s (.s (.s (.s .z))))) (ea_cons (ek_n c.toCn (.s (.s (.s (.s (.s (.s .z)))))) (ea_nil (⟨mm, p, l, x, s, rfl, hm, hxo, ⟨_, (.s (.s (.s (.s (.s (.s (.s .z))))))), ?_⟩⟩)))))))) (c.toCn.gl)))
          have hkn := hC.kn (behS p x s)
          refine bk_one (sk_if (et_nnotin hu (ek_n c.toCn (.s (.s (.s (.s (.s (.s (.s .z))))))) (ek_n c.toCn (.s (.s .z)) (⟨_, _, (.own (.s .z)), (ky_st _), ⟨fun ht => ?_, fun ht => ?_⟩⟩)))))
          · have ho : behS p x s ∉ line := fun z => by
              rw [hkn, decide_eq_true z] at ht
              cases ht
            refine bk_cons (sk_nput hu (ek_tup (ea_cons (ek_n c.toCn (.s (.s (.s (.s (.s .z))))) (ea_cons (ek_n c.toCn (.s (.s (.s (.s (.s (.s .z)))))) (ea_nil (⟨(by first | exact sz_ok (Nat.le_of_ble_eq_true rfl) | exact sz_lt (by have := hC.le; omega)), ek_n c.toCn (.s (.s .z)) (ek_n c.toCn (.s (.s (.s (.s (.s (.s (.s .z))))))) (⟨_, _, _, _, _, rfl, (.s .z), (ky_st _), (by first | exact sz_ok (Nat.le_of_ble_eq_true rfl) | exact sz_lt (by have := hC.le; omega)), (.s .z), ?_⟩))⟩))))))))
            refine bk_one (sk_expr (ek_app (ek_n c.toCn (.s (.s (.s .z))) (⟨_, _, rfl, .own .z, ek_n c.toCn (.s (.s (.s (.s (.s (.s (.s .z))))))) (⟨_, _, _, .z, .z, (sz_lt (by rw [hml]; omega)), ?_⟩)⟩))))
            refine ⟨line ++ [behS p x s], rows ++ [r ++ [s]], _, _, _, rfl, ?_, hB.new hs hmi ho, hC.new hB.bf.len (List.mem_of_getElem? hB.bf.fst.1) hB.hx hB.hr ho⟩
            rw [List.map_append]
            rfl
          · refine bk_nil ⟨line, rows, kvs, _, _, rfl, rfl, hB.old hs hmi ?_, hC⟩
            by_cases z : behS p x s ∈ line
            · exact z
            · rw [hkn, decide_eq_false z] at ht
              cases ht
      · obtain ⟨line, rows, kvs, w2, w3, rfl, rfl, hB, hC⟩ := hP
        rw [List.length_map] at hB
        have hf := hB.fin
        have hlt := (List.getElem?_eq_some_iff.mp hB.hx).1
        have hsz := hf.size hm
        refine bk_one (sk_set c.toCn (ek_add (ek_n c.toCn (.s (.s (.s (.s .z)))) (⟨_, rfl, ek_int (⟨_, rfl, ⟨_, (.s (.s (.s (.s .z)))), ?_⟩⟩)⟩))))
        exact ⟨281251 - (a + 1), by omega, line, rows, kvs, a + 1, _, _, _, rfl, rfl, hf, hC, hlt, by omega⟩
    · rw [hml] at ht
      have hae : a = line.length := by
        have : ¬ ((a : Int) < (line.length : Int)) := by simpa using ht
        omega
      refine bk_one (sk_retS (ek_tup (ea_cons (ek_str (ea_cons (ek_n c.toCn (.s (.s (.s .z))) (ea_nil (⟨(by walk_at "vlen"), ⟨_, .cons₂ _ (.cons _ (.refl _)), ?_⟩⟩))))))))
      exact hsafe pl line (hbf.safe hm hae)
end
end K24


set_option Elab.async false
set_option linter.all false
set_option maxRecDepth 100000
set_option maxHeartbeats 4000000
set_option pp.deepTerms.threshold 16
namespace K24
open PySem PySem.Spec PyProof.Rows L2 Vs
local macro_rules | `(tactic| walk_at "vpos") => `(tactic| first | decide | omega)
local macro_rules | `(tactic| walk_at "vdiv") => `(tactic| first | exact ⟨by decide, by decide⟩ | (constructor <;> omega))
local macro_rules | `(tactic| walk_at "vpow") => `(tactic| exact ⟨by decide, by decide, by decide⟩)
local macro_rules | `(tactic| walk_at "vmul") => `(tactic| first | exact mulL ⟨by decide, by decide⟩ | exact mulR ⟨by decide, by decide⟩ | exact mulL (by constructor <;> omega) | exact mulR (by constructor <;> omega))
local macro_rules | `(tactic| walk_at "vlen") => `(tactic| first | exact sz_ok (Nat.le_of_ble_eq_true rfl) | exact sz_lt (Nat.le_of_ble_eq_true rfl) | (refine sz_ok ?_; simp only [List.length_append, List.length_cons, List.length_nil, List.length_map]; omega) | (refine sz_lt ?_; simp only [List.length_append, List.length_cons, List.length_nil, List.length_map]; omega))
local macro_rules | `(tactic| walk_at "vrng") => `(tactic| (refine ⟨?_, ?_⟩ <;> omega))
local macro_rules | `(tactic| walk_at "vix") => `(tactic| rfl)
local macro_rules | `(tactic| walk_at "vixn") => `(tactic| first | rfl | exact ixN_at (by omega) (by omega))
local macro_rules | `(tactic| walk_at "vkb") => `(tactic| decide +kernel)
local macro_rules | `(tactic| walk_at "vty") => `(tactic| first | exact .int | exact .bl | exact .lst | exact .str | exact .tup | exact .non | exact .own .z | exact tyd_as (by assumption))
local macro_rules | `(tactic| walk_at "vkit") => `(tactic| assumption)
local macro_rules | `(tactic| walk_at "vrep") => `(tactic| (refine ⟨by omega, by omega, ?_⟩; first | decide | (refine sz_ok ?_; simp only [List.length_cons, List.length_nil]; omega)))
section
variable {X : Cx} {F0 : Hp}
set_option pp.deepTerms.threshold 8
/-! _law_cell -/
def S_law_cell : SpD := fun ds L q _ => ∃ (ns : List Int) (k : Nat), ds = [.lst (dI ns), .int (k : Int)] ∧ q (.int (ns.getD k 0)) L
theorem b_law_cell {ds : List D} {L : Lg} {q : D → Lg → Prop} {e : Xc → Lg → Prop} (c : Cf X (["script", "k"] : List Str) ([] : List Str) (defScope (top 35)) F0 (fun y _ L' => e y L')) (T : Tx X.K X.mg) (h : S_law_cell ds L q e) :
    BK X F0 (defBody (top 35)) (ds.map some ++ List.replicate 0 none) L { nx := fun _ L' => q .non L', rt := q } := by
  obtain ⟨ns, k, rfl, h1⟩ := h
  refine bk_cons (sk_if (et_lt (ek_n c.toCn (.s .z) (⟨_, rfl, ek_len T.no_len (c.toCn.gl) (ek_n c.toCn .z (⟨_, Or.inl .lst, ⟨_, rfl, ⟨fun ht => ?_, fun ht => ?_⟩⟩⟩))⟩))))
  · rw [dI_len] at ht
    obtain ⟨v, hv⟩ : ∃ v, ns[k]? = some v := ⟨_, List.getElem?_eq_getElem (by simp at ht; omega)⟩
    refine bk_one (sk_ret (ek_ix (ek_n c.toCn .z (ek_n c.toCn (.s .z) (⟨_, _, _, .lst, rfl, (at_dIk hv), ?_⟩))) (fun _ _ => rfl)))
    rw [List.getD_eq_getElem?_getD, hv] at h1
    exact h1
  · rw [dI_len] at ht
    refine bk_nil ?_
    refine bk_one (sk_ret (ek_int (?_)))
    rw [List.getD_eq_getElem?_getD, List.getElem?_eq_none (by simp at ht; omega)] at h1
    exact h1
/-! _law_left, _law_next: a draw -/
def S_law_left : SpD := fun ds L q _ => ∃ v, ds = [.int v] ∧ ∀ p r m, q (.ref p) ((p, .lst (dI [r, m, 0])) :: L)
theorem b_law_left {ds : List D} {L : Lg} {q : D → Lg → Prop} {e : Xc → Lg → Prop} (c : Cf X (["cell"] : List Str) ([] : List Str) (defScope (top 36)) F0 (fun y _ L' => e y L')) (T : Tx X.K X.mg) (h : S_law_left ds L q e) :
    BK X F0 (defBody (top 36)) (ds.map some ++ List.replicate 0 none) L { nx := fun _ L' => q .non L', rt := q } := by
  obtain ⟨v, rfl, h1⟩ := h
  refine bk_one (sk_ret (ek_lstO (ea_cons (ek_max2 c.calm T.no_max (c.toCn.gl) (ek_int (⟨_, rfl, ek_sub (ek_n c.toCn .z (⟨_, rfl, ek_pow (ek_int (⟨_, rfl, ek_int (⟨_, rfl, (by walk_at "vpow"), ⟨_, rfl, ⟨_, rfl, ea_cons (ek_mod (ek_n c.toCn .z (⟨_, rfl, ek_pow (ek_int (⟨_, rfl, ek_int (⟨_, rfl, (by walk_at "vpow"), ⟨_, rfl, (by walk_at "vpos"), ea_cons (ek_int (ea_nil (⟨(by walk_at "vlen"), fun p => ?_⟩)))⟩⟩)⟩))⟩)))⟩⟩⟩)⟩))⟩))⟩))))))
  exact h1 p _ _
def S_law_next : SpD := fun ds L q _ => ∃ p r m n base j, ds = [.ref p, .int base] ∧ Get L j (p, .lst (dI [r, m, n])) ∧ (0 < base ∧ base < 1000000000) ∧
  ∀ dg r' n', (0 ≤ dg ∧ dg < base) → q (.int dg) (L.set j (p, .lst (dI [r', m, n'])))
theorem b_law_next {ds : List D} {L : Lg} {q : D → Lg → Prop} {e : Xc → Lg → Prop} (c : Cf X (["left", "base", "digit", "near", "stir"] : List Str) ([] : List Str) (defScope (top 37)) F0 (fun y _ L' => e y L')) (T : Tx X.K X.mg) (h : S_law_next ds L q e) :
    BK X F0 (defBody (top 37)) (ds.map some ++ List.replicate 3 none) L { nx := fun _ L' => q .non L', rt := q } := by
  obtain ⟨p, r, m, n, base, j, rfl, g, hs, h1⟩ := h
  refine bk_cons (sk_if (et_gt (ek_ix (ek_n c.toCn .z (ek_int (⟨_, _, _, (.own g), rfl, (by walk_at "vix"), ⟨_, rfl, ek_int (⟨_, rfl, ⟨fun ht => ?_, fun ht => ?_⟩⟩)⟩⟩))) (fun _ _ => rfl))))
  · refine bk_cons (sk_set c.toCn (ek_mod (ek_ix (ek_n c.toCn .z (ek_int (⟨_, _, _, (.own g), rfl, (by walk_at "vix"), ⟨_, rfl, ek_n c.toCn (.s .z) (⟨_, rfl, (by walk_at "vpos"), ⟨_, (.s (.s .z)), ?_⟩⟩)⟩⟩))) (fun _ _ => rfl))))
    refine bk_cons (sk_seti (ek_fdiv (ek_ix (ek_n c.toCn .z (ek_int (⟨_, _, _, (.own g), rfl, (by walk_at "vix"), ⟨_, rfl, ek_n c.toCn (.s .z) (⟨_, rfl, (by walk_at "vdiv"), ek_n c.toCn .z (ek_int (⟨_, _, _, _, _, _, rfl, rfl, g, (by walk_at "vixn"), g.put, ?_⟩))⟩)⟩⟩))) (fun _ _ => rfl))))
    refine bk_one (sk_ret (ek_n c.toCn (.s (.s .z)) (?_)))
    exact h1 _ _ _ ⟨Int.emod_nonneg _ (by omega), Int.emod_lt_of_pos _ hs.1⟩
  · refine bk_nil ?_
    refine bk_cons (sk_seti (ek_add (ek_ix (ek_n c.toCn .z (ek_int (⟨_, _, _, (.own g), rfl, (by walk_at "vix"), ⟨_, rfl, ek_int (⟨_, rfl, ek_n c.toCn .z (ek_int (⟨_, _, _, _, _, _, rfl, rfl, g, (by walk_at "vixn"), g.put, ?_⟩))⟩)⟩⟩))) (fun _ _ => rfl))))
    have b1 : ∀ x : Int, 0 ≤ x % 1000000007 ∧ x % 1000000007 < 1000000007 := fun x => ⟨Int.emod_nonneg _ (by decide), Int.emod_lt_of_pos _ (by decide)⟩
    have b2 : ∀ x : Int, 0 ≤ x % 998244353 ∧ x % 998244353 < 998244353 := fun x => ⟨Int.emod_nonneg _ (by decide), Int.emod_lt_of_pos _ (by decide)⟩
    refine bk_cons (sk_set c.toCn (ek_mod (ek_add (ek_ix (ek_n c.toCn .z (ek_int (⟨_, _, _, (.own g.got), rfl, (by walk_at "vix"), ⟨_, rfl, ek_mul (ek_int (⟨_, rfl, ek_ix (ek_n c.toCn .z (ek_int (⟨_, _, _, (.own g.got), rfl, (by walk_at "vix"), ⟨_, rfl, (by walk_at "vmul"), ⟨_, rfl, ⟨_, rfl, ek_int (⟨_, rfl, (by walk_at "vpos"), ⟨_, (.s (.s (.s .z))), ?_⟩⟩)⟩⟩⟩⟩))) (fun _ _ => rfl)⟩))⟩⟩))) (fun _ _ => rfl)))))
    have c1 := b1 (m + 7919 * (n + 1))
    generalize (m + 7919 * (n + 1)) % 1000000007 = near at *
    refine bk_cons (sk_set c.toCn (ek_mod (ek_mul (ek_add (ek_n c.toCn (.s (.s (.s .z))) (⟨_, rfl, ek_int (⟨_, rfl, ⟨_, rfl, ek_add (ek_n c.toCn (.s (.s (.s .z))) (⟨_, rfl, ek_int (⟨_, rfl, ⟨_, rfl, (by walk_at "vmul"), ⟨_, rfl, ek_int (⟨_, rfl, (by walk_at "vpos"), ⟨_, (.s (.s (.s (.s .z)))), ?_⟩⟩)⟩⟩⟩)⟩))⟩⟩)⟩))))))
    have c2 := b2 ((near + 11) * (near + 48271))
    generalize (near + 11) * (near + 48271) % 998244353 = stir at *
    refine bk_one (sk_ret (ek_mod (ek_fdiv (ek_mod (ek_mul (ek_n c.toCn (.s (.s (.s (.s .z)))) (⟨_, rfl, ek_n c.toCn (.s (.s (.s (.s .z)))) (⟨_, rfl, (by walk_at "vmul"), ⟨_, rfl, ek_int (⟨_, rfl, (by walk_at "vpos"), ⟨_, rfl, ek_int (⟨_, rfl, (by walk_at "vdiv"), ⟨_, rfl, ek_n c.toCn (.s .z) (⟨_, rfl, (by walk_at "vpos"), ?_⟩)⟩⟩)⟩⟩)⟩⟩)⟩)))))))
    exact h1 _ _ _ ⟨Int.emod_nonneg _ (by omega), Int.emod_lt_of_pos _ hs.1⟩
theorem get_set2 {α : Type} {x y z : α} {L : List α} {j : Nat} (g : Get L j x) : Get ((L.set j y).set j z) j z := get_at_set (get_at_set g)
end
end K24


set_option Elab.async false
set_option linter.all false
set_option maxRecDepth 100000
set_option maxHeartbeats 4000000
set_option pp.deepTerms.threshold 16
namespace K24
open PySem PySem.Spec PyProof.Rows L2 Vs
local macro_rules | `(tactic| walk_at "vpos") => `(tactic| first | decide | omega)
local macro_rules | `(tactic| walk_at "vdiv") => `(tactic| first | exact ⟨by decide, by decide⟩ | (constructor <;> omega))
local macro_rules | `(tactic| walk_at "vpow") => `(tactic| exact ⟨by decide, by decide, by decide⟩)
local macro_rules | `(tactic| walk_at "vmul") => `(tactic| first | exact mulL ⟨by decide, by decide⟩ | exact mulR ⟨by decide, by decide⟩ | exact mulL (by constructor <;> omega) | exact mulR (by constructor <;> omega))
local macro_rules | `(tactic| walk_at "vlen") => `(tactic| first | exact sz_ok (Nat.le_of_ble_eq_true rfl) | exact sz_lt (Nat.le_of_ble_eq_true rfl) | (refine sz_ok ?_; simp only [List.length_append, List.length_cons, List.length_nil, List.length_map]; omega) | (refine sz_lt ?_; simp only [List.length_append, List.length_cons, List.length_nil, List.length_map]; omega))
local macro_rules | `(tactic| walk_at "vrng") => `(tactic| (refine ⟨?_, ?_⟩ <;> omega))
local macro_rules | `(tactic| walk_at "vix") => `(tactic| rfl)
local macro_rules | `(tactic| walk_at "vixn") => `(tactic| first | rfl | exact ixN_at (by omega) (by omega))
local macro_rules | `(tactic| walk_at "vkb") => `(tactic| decide +kernel)
local macro_rules | `(tactic| walk_at "vty") => `(tactic| first | exact .int | exact .bl | exact .lst | exact .str | exact .tup | exact .non | exact .own .z | exact tyd_as (by assumption))
local macro_rules | `(tactic| walk_at "vkit") => `(tactic| assumption)
local macro_rules | `(tactic| walk_at "vrep") => `(tactic| (refine ⟨by omega, by omega, ?_⟩; first | decide | (refine sz_ok ?_; simp only [List.length_cons, List.length_nil]; omega)))
section
variable {X : Cx} {F0 : Hp}
set_option pp.deepTerms.threshold 8
/-! fence_stands -/
def S_fence : SpD := fun ds L q _ => ∃ m p l x xs, ds = [mdD m p l, x] ∧ (∀ G : Lg, AsL (G ++ L) x (xs.map stD)) ∧ okMd m p l ∧ (∀ y ∈ xs, okSd l y) ∧ xs.length ≤ 300000 ∧ q (.bl (fenB m p l xs)) L
theorem b_fence {ds : List D} {L : Lg} {q : D → Lg → Prop} {e : Xc → Lg → Prop} (c : Cf X (["model", "stands", "inside", "stand", "step"] : List Str) ([] : List Str) (defScope (top 32)) F0 (fun y _ L' => e y L')) (T : Tx X.K X.mg) (hr : Room 2 X.A)
    (G_first_stand : CalX X 2 "first_stand" (["model"] : List Str) S_first_stand) (G_steps_from : CalX X 2 "steps_from" (["model", "stand"] : List Str) S_steps_from) (G_is_wrong : CalX X 2 "is_wrong" (["model", "stand", "step"] : List Str) S_is_wrong) (G_next_stand : CalX X 2 "next_stand" (["model", "stand", "step"] : List Str) S_next_stand) (h : S_fence ds L q e) :
    BK X F0 (defBody (top 32)) (ds.map some ++ List.replicate 3 none) L { nx := fun _ L' => q .non L', rt := q } := by
  obtain ⟨m, p, l, x, xs, rfl, hx, hm, hok, hxl, h1⟩ := h
  have hu := hr.units
  refine bk_cons (sk_set c.toCn (ek_nnew (fun p_inside => ⟨_, (.s (.s .z)), ?_⟩)))
  have hml : (xs.map stD).length = xs.length := List.length_map _
  refine bk_cons (sk_forN c (fun kk h => ek_n c.toCn (.s .z) (h)) (hx [_]) (fun i Γ L' => ∃ kvs w1 w2, Γ = [some (mdD m p l), some x, some (.ref p_inside), w1, w2] ∧ L' = (p_inside, C.dit X.w kvs) :: L ∧ Knw (xs.take i) kvs) ?_ ?_ (fun F1 c i d Γ L hd hP => ?_) (fun Γ L hP => ?_))
  · exact ⟨[], none, none, rfl, rfl, knw_nil⟩
  · rintro i Γ' L' ⟨kvs, w1, w2, rfl, rfl, hk⟩
    exact hx [_]
  · obtain ⟨kvs, w1, w2, rfl, rfl, hk⟩ := hP
    obtain ⟨y, hy, rfl⟩ := mp_get hd
    have hl := hk.le
    rw [List.length_take] at hl
    refine tg_n c.toCn ⟨_, (.s (.s (.s .z))), ?_⟩
    refine bk_one (sk_nput hu (ek_bl (ek_n c.toCn (.s (.s .z)) (ek_n c.toCn (.s (.s (.s .z))) (⟨_, _, _, _, _, rfl, .z, (ky_st y), (sz_lt (by omega)), .z, ?_⟩)))))
    refine ⟨_, _, _, rfl, rfl, ?_⟩
    rw [take_snoc hy]
    exact hk.put y _
  · obtain ⟨kvs, w1, w2, rfl, rfl, hk⟩ := hP
    rw [hml, List.take_length] at hk
    have hl := hk.le
    have e0 : ∀ y : Sd, (atK (skK y) kvs).isSome = decide (y ∈ xs) := hk.at_
    have e1 : (!decide ((kvs.length : Int) = (xs.length : Int))) = !decide xs.Nodup := by
      have := hk.eq
      congr 1
      exact decide_eq_decide.mpr ⟨fun z => this.mp (by omega), fun z => by have := this.mpr z; omega⟩
    refine bk_cons (sk_if (et_w (ew_or (et_nnotin hu (ek_call c.tk G_first_stand (hr.mono (by first | decide | exact Nat.le_refl _)) (ea_cons (ek_n c.toCn .z (ea_nil (⟨m, p, l, rfl, hm, ek_n c.toCn (.s (.s .z)) (⟨_, _, (.own .z), (ky_st (firstS l)), ⟨rfl, rfl⟩⟩)⟩)))) (c.toCn.gl))) (fun hb => et_or1 (et_neI (ek_lenN T.no_len (c.toCn.gl) (ek_n c.toCn (.s (.s .z)) (⟨_, (.own .z), ⟨_, rfl, ek_len T.no_len (c.toCn.gl) (ek_n c.toCn (.s .z) (⟨_, Or.inl (hx [_]), ⟨_, rfl, ⟨rfl, rfl⟩⟩⟩))⟩⟩))))) (⟨fun ht => ?_, fun ht => ?_⟩))))
    · refine bk_drop .z ?_
      refine bk_one (sk_ret (ek_bl (?_)))
      rw [e0, hml, e1] at ht
      have e2 : fenB m p l xs = false := by
        unfold fenB
        revert ht
        cases decide (firstS l ∈ xs) <;> cases decide xs.Nodup <;> intro ht <;> first | rfl | cases ht
      rw [← e2]
      exact h1
    · rw [e0, hml, e1] at ht
      have e2 : fenB m p l xs = xs.all fun y => (allS m y l).all fun s => !misr y s && decide (behS p y s ∈ xs) := by
        unfold fenB
        revert ht
        cases decide (firstS l ∈ xs) <;> cases decide xs.Nodup <;> intro ht <;> first | exact Bool.true_and _ | cases ht
      rw [e2] at h1
      clear e2 ht e1
      refine bk_nil ?_
      refine bk_cons (sk_forN c (fun kk h => ek_n c.toCn (.s .z) (h)) (hx [_]) (fun i Γ L' => ∃ w1 w2, Γ = [some (mdD m p l), some x, some (.ref p_inside), w1, w2] ∧ L' = (p_inside, C.dit X.w kvs) :: L ∧ ((xs.take i).all fun y => (allS m y l).all fun s => !misr y s && decide (behS p y s ∈ xs)) = true) ?_ ?_ (fun F1 c i d Γ L hd hP => ?_) (fun Γ L hP => ?_))
      · exact ⟨_, _, rfl, rfl, rfl⟩
      · rintro i Γ' L' ⟨w1, w2, rfl, rfl, hk⟩
        exact hx [_]
      · obtain ⟨w1, w2, rfl, rfl, hall⟩ := hP
        obtain ⟨y, hyi, rfl⟩ := mp_get hd
        have hy := hok y (List.mem_of_getElem? hyi)
        refine tg_n c.toCn ⟨_, (.s (.s (.s .z))), ?_⟩
        refine bk_one (sk_for c (ei_list (ek_frz (ek_call c.tk G_steps_from (hr.mono (by first | decide | exact Nat.le_refl _)) (ea_cons (ek_n c.toCn .z (ea_cons (ek_n c.toCn (.s (.s (.s .z))) (ea_nil (⟨m, p, l, y, rfl, hm, hy, fun r => ⟨_, _, _, _, rfl, .z, ⟨_, rfl, ⟨fun j Γ L' => ∃ w2, Γ = [some (mdD m p l), some x, some (.ref p_inside), some (stD y), w2] ∧ L' = (p_inside, C.dit X.w kvs) :: L ∧ (((allS m y l).take j).all fun s => !misr y s && decide (behS p y s ∈ xs)) = true, ?_, fun F1 c j d Γ L hd hP => ?_, fun Γ L hP => ?_⟩⟩⟩⟩)))))) (c.toCn.gl)))))
        · exact ⟨_, rfl, rfl, rfl⟩
        · obtain ⟨w2, rfl, rfl, hall2⟩ := hP
          obtain ⟨s, hs, rfl⟩ := mp_get hd
          have hsm := List.mem_of_getElem? hs
          refine tg_n c.toCn ⟨_, (.s (.s (.s (.s .z)))), ?_⟩
          refine bk_one (sk_if (et_w (ew_or (et_v (ek_call c.tk G_is_wrong (hr.mono (by first | decide | exact Nat.le_refl _)) (ea_cons (ek_n c.toCn .z (ea_cons (ek_n c.toCn (.s (.s (.s .z))) (ea_cons (ek_n c.toCn (.s (.s (.s (.s .z)))) (ea_nil (⟨m, p, l, y, s, rfl, hm, mayT_some (allS_mem hsm).2.2.1, mayH_some (allS_mem hsm).2.2.2, ⟨_, rfl, ⟨rfl, rfl⟩⟩⟩)))))))) (c.toCn.gl))) (fun hb => et_or1 (et_nnotin hu (ek_call c.tk G_next_stand (hr.mono (by first | decide | exact Nat.le_refl _)) (ea_cons (ek_n c.toCn .z (ea_cons (ek_n c.toCn (.s (.s (.s .z))) (ea_cons (ek_n c.toCn (.s (.s (.s (.s .z)))) (ea_nil (⟨m, p, l, y, s, rfl, hm, hy, ek_n c.toCn (.s (.s .z)) (⟨_, _, (.own .z), (ky_st (behS p y s)), ⟨rfl, rfl⟩⟩)⟩)))))))) (c.toCn.gl)))) (⟨fun ht => ?_, fun ht => ?_⟩))))
          · refine bk_drop .z ?_
            refine bk_one (sk_ret (ek_bl (?_)))
            rw [e0] at ht
            have e2 : (xs.all fun y => (allS m y l).all fun s => !misr y s && decide (behS p y s ∈ xs)) = false := by
              rw [List.all_eq_false]
              refine ⟨y, List.mem_of_getElem? hyi, ?_⟩
              rw [Bool.not_eq_true, List.all_eq_false]
              refine ⟨s, hsm, ?_⟩
              revert ht
              cases misr y s <;> cases decide (behS p y s ∈ xs) <;> decide
            rw [← e2]
            exact h1
          · rw [e0] at ht
            refine bk_nil ⟨_, rfl, rfl, ?_⟩
            rw [take_snoc hs, List.all_append, hall2]
            show ((!misr y s && decide (behS p y s ∈ xs)) && true) = true
            revert ht
            cases misr y s <;> cases decide (behS p y s ∈ xs) <;> decide
        · obtain ⟨w2, rfl, rfl, hall2⟩ := hP
          rw [List.length_map, List.take_length] at hall2
          refine ⟨_, _, rfl, rfl, ?_⟩
          rw [take_snoc hyi, List.all_append, hall]
          show ((allS m y l).all _ && true) = true
          rw [hall2]
          rfl
      · obtain ⟨w1, w2, rfl, rfl, hall⟩ := hP
        rw [hml, List.take_length] at hall
        refine bk_drop .z ?_
        refine bk_one (sk_ret (ek_bl (?_)))
        rw [hall] at h1
        exact h1
/-! walk_of -/
def S_walk_of : SpD := fun ds L q _ => ∃ m p l x ps xs, ds = [mdD m p l, x] ∧ (∀ G : Lg, AsL (G ++ L) x (ps.map siD)) ∧ okMd m p l ∧ ps.length ≤ 300000 ∧ Wk m p l (firstS l) ps = some xs ∧ (∀ r, q (.ref r) ((r, .lst (xs.map stD)) :: L))
theorem b_walk_of {ds : List D} {L : Lg} {q : D → Lg → Prop} {e : Xc → Lg → Prop} (c : Cf X (["model", "steps", "stand", "found", "place", "step"] : List Str) ([] : List Str) (defScope (top 33)) F0 (fun y _ L' => e y L')) (T : Tx X.K X.mg) (hr : Room 2 X.A)
    (G_first_stand : CalX X 2 "first_stand" (["model"] : List Str) S_first_stand) (G_steps_from : CalX X 2 "steps_from" (["model", "stand"] : List Str) S_steps_from) (G_is_wrong : CalX X 2 "is_wrong" (["model", "stand", "step"] : List Str) S_is_wrong) (G_next_stand : CalX X 2 "next_stand" (["model", "stand", "step"] : List Str) S_next_stand) (h : S_walk_of ds L q e) :
    BK X F0 (defBody (top 33)) (ds.map some ++ List.replicate 4 none) L { nx := fun _ L' => q .non L', rt := q } := by
  obtain ⟨m, p, l, y0, ps, xs, rfl, hst, hm, hpl, hwk, h2⟩ := h
  have hu65 : X.A.units + 65 < cLine := by have := hr.un; omega
  have hpm : (ps.map siD).length = ps.length := List.length_map _
  refine bk_cons (sk_set c.toCn (ek_call c.tk G_first_stand (hr.mono (by first | decide | exact Nat.le_refl _)) (ea_cons (ek_n c.toCn .z (ea_nil (⟨m, p, l, rfl, hm, ⟨_, (.s (.s .z)), ?_⟩⟩)))) (c.toCn.gl)))
  refine bk_cons (sk_set c.toCn (ek_lstO (ea_nil (⟨(by walk_at "vlen"), fun p_found => ⟨_, (.s (.s (.s .z))), ?_⟩⟩))))
  refine bk_cons (sk_forNE T.no_enumerate (c.toCn.gl) c (fun kk h => ek_n c.toCn (.s .z) (h)) (hst [_]) (fun i Γ L' => ∃ x acc w1 w2, Γ = [some (mdD m p l), some y0, some (stD x), some (.ref p_found), w1, w2] ∧ L' = (p_found, .lst (acc.map stD)) :: L ∧ okSd l x ∧ acc.length ≤ i ∧ Wk m p l (firstS l) ps = (Wk m p l x (ps.drop i)).map (acc ++ ·)) ?_ ?_ (fun F1 c i d Γ L hd hP => ?_) (fun Γ L hP => ?_))
  · refine ⟨_, [], none, none, rfl, rfl, firstS_ok, Nat.le_refl _, ?_⟩
    rw [List.drop_zero]
    cases Wk m p l (firstS l) ps <;> rfl
  · rintro i Γ' L' ⟨x, acc, w1, w2, rfl, rfl, _⟩
    exact hst [_]
  · obtain ⟨x, acc, w1, w2, rfl, rfl, hx, hal, hW⟩ := hP
    obtain ⟨y, hy, rfl⟩ := enumD_at hd
    obtain ⟨s, hs, rfl⟩ := si_at hy
    have hi := (List.getElem?_eq_some_iff.mp hs).1
    rw [drop_cons hs, Wk_cons] at hW
    refine tg_tup c.calm ⟨_, rfl, rfl, tn_c c.toCn ⟨_, (.s (.s (.s (.s .z)))), tn_c c.toCn ⟨_, (.s (.s (.s (.s (.s .z))))), tn_z (?_)⟩⟩⟩
    refine bk_cons (sk_if (et_notinD hu65 (ek_n c.toCn (.s (.s (.s (.s (.s .z))))) (ek_call c.tk G_steps_from (hr.mono (by first | decide | exact Nat.le_refl _)) (ea_cons (ek_n c.toCn .z (ea_cons (ek_n c.toCn (.s (.s .z)) (ea_nil (⟨m, p, l, x, rfl, hm, hx, fun r => ⟨_, _, (by first | exact dpd_si s | exact .own .z (dpds_mp dpd_sp)), (by first | exact dpd_si s | exact .own .z (dpds_mp dpd_sp)), (by first | exact shp_ok shp_sp (by decide) | exact shp_ok (k := 1) (shp_2 _ _) (by decide)), (by first | exact shp_ok shp_sp (by decide) | exact shp_ok (k := 1) (shp_2 _ _) (by decide)), ⟨_, rfl, ⟨fun ht => ?_, fun ht => ?_⟩⟩⟩⟩)))))) (c.toCn.gl)))))
    · rw [in_allS, Bool.not_eq_true'] at ht
      rw [if_neg (by rw [ht]; decide), hwk] at hW
      cases hW
    · rw [in_allS, Bool.not_eq_false'] at ht
      refine bk_nil ?_
      refine bk_drop .z ?_
      rw [if_pos ht] at hW
      obtain ⟨hsd, hs1, hs2, hmt, hmh⟩ := mayI_parts ht
      rw [isE_drop] at hW
      refine bk_cons (sk_expr (ek_app (ek_n c.toCn (.s (.s (.s .z))) (⟨_, _, rfl, .own .z, ek_n c.toCn (.s (.s .z)) (⟨_, _, _, .z, .z, (sz_lt (by rw [List.length_map]; omega)), ?_⟩)⟩))))
      have hac : acc.map stD ++ [stD x] = (acc ++ [x]).map stD := by rw [List.map_append]; rfl
      rw [hac]
      refine bk_one (sk_if (et_lt (ek_add (ek_n c.toCn (.s (.s (.s (.s .z)))) (⟨_, rfl, ek_int (⟨_, rfl, ⟨_, rfl, ek_len T.no_len (c.toCn.gl) (ek_n c.toCn (.s .z) (⟨_, Or.inl (hst [_]), ⟨_, rfl, ⟨fun ht => ?_, fun ht => ?_⟩⟩⟩))⟩⟩)⟩)))))
      · rw [hpm] at ht
        rw [ht, Bool.not_true, if_neg Bool.false_ne_true] at hW
        refine bk_cons (sk_if (et_v (ek_call c.tk G_is_wrong (hr.mono (by first | decide | exact Nat.le_refl _)) (ea_cons (ek_n c.toCn .z (ea_cons (ek_n c.toCn (.s (.s .z)) (ea_cons (ek_n c.toCn (.s (.s (.s (.s (.s .z))))) (ea_nil (⟨m, p, l, x, nt s, (by rw [hsd]), hm, mayT_some hmt, mayH_some hmh, ⟨_, rfl, ⟨fun ht => ?_, fun ht => ?_⟩⟩⟩)))))))) (c.toCn.gl))))
        · rw [if_pos ht, hwk] at hW
          cases hW
        · rw [if_neg (by rw [ht]; decide)] at hW
          refine bk_nil ?_
          refine bk_one (sk_set c.toCn (ek_call c.tk G_next_stand (hr.mono (by first | decide | exact Nat.le_refl _)) (ea_cons (ek_n c.toCn .z (ea_cons (ek_n c.toCn (.s (.s .z)) (ea_cons (ek_n c.toCn (.s (.s (.s (.s (.s .z))))) (ea_nil (⟨m, p, l, x, nt s, (by rw [hsd]), hm, hx, ⟨_, (.s (.s .z)), ?_⟩⟩)))))))) (c.toCn.gl)))
          refine ⟨_, acc ++ [x], _, _, rfl, rfl, behS_ok hm.2.2.1 hx, by rw [List.length_append]; exact Nat.succ_le_succ hal, ?_⟩
          rw [hW, opt_app]
      · rw [hpm] at ht
        rw [ht, Bool.not_false, if_pos rfl] at hW
        refine bk_nil ⟨x, acc ++ [x], _, _, rfl, rfl, hx, by rw [List.length_append]; exact Nat.succ_le_succ hal, ?_⟩
        have hnil : ps.drop (i + 1) = [] := List.drop_eq_nil_of_le (by have := of_decide_eq_false ht; omega)
        rw [hW, hnil]
        show some (acc ++ [x]) = some ((acc ++ [x]) ++ [])
        rw [List.append_nil]
  · obtain ⟨x, acc, w1, w2, rfl, rfl, hx, hal, hW⟩ := hP
    rw [enumD_len, hpm, List.drop_length] at hW
    refine bk_one (sk_ret (ek_n c.toCn (.s (.s (.s .z))) (?_)))
    have e1 : Wk m p l (firstS l) ps = some acc := by
      rw [hW]
      show some (acc ++ []) = some acc
      rw [List.append_nil]
    rw [e1] at hwk
    cases hwk
    exact h2 p_found
end
end K24


set_option Elab.async false
set_option linter.all false
set_option maxRecDepth 100000
set_option maxHeartbeats 4000000
set_option pp.deepTerms.threshold 16
namespace K24
open PySem PySem.Spec PyProof.Rows L2 Vs
local macro_rules | `(tactic| walk_at "vpos") => `(tactic| first | decide | omega)
local macro_rules | `(tactic| walk_at "vdiv") => `(tactic| first | exact ⟨by decide, by decide⟩ | (constructor <;> omega))
local macro_rules | `(tactic| walk_at "vpow") => `(tactic| exact ⟨by decide, by decide, by decide⟩)
local macro_rules | `(tactic| walk_at "vmul") => `(tactic| first | exact mulL ⟨by decide, by decide⟩ | exact mulR ⟨by decide, by decide⟩ | exact mulL (by constructor <;> omega) | exact mulR (by constructor <;> omega))
local macro_rules | `(tactic| walk_at "vlen") => `(tactic| first | exact sz_ok (Nat.le_of_ble_eq_true rfl) | exact sz_lt (Nat.le_of_ble_eq_true rfl) | (refine sz_ok ?_; simp only [List.length_append, List.length_cons, List.length_nil, List.length_map]; omega) | (refine sz_lt ?_; simp only [List.length_append, List.length_cons, List.length_nil, List.length_map]; omega))
local macro_rules | `(tactic| walk_at "vrng") => `(tactic| (refine ⟨?_, ?_⟩ <;> omega))
local macro_rules | `(tactic| walk_at "vix") => `(tactic| rfl)
local macro_rules | `(tactic| walk_at "vixn") => `(tactic| first | rfl | exact ixN_at (by omega) (by omega))
local macro_rules | `(tactic| walk_at "vkb") => `(tactic| decide +kernel)
local macro_rules | `(tactic| walk_at "vty") => `(tactic| first | exact .int | exact .bl | exact .lst | exact .str | exact .tup | exact .non | exact .own .z | exact tyd_as (by assumption))
local macro_rules | `(tactic| walk_at "vkit") => `(tactic| assumption)
local macro_rules | `(tactic| walk_at "vrep") => `(tactic| (refine ⟨by omega, by omega, ?_⟩; first | decide | (refine sz_ok ?_; simp only [List.length_cons, List.length_nil]; omega)))
section
variable {X : Cx} {F0 : Hp}
set_option pp.deepTerms.threshold 8
/-! models that are none -/
def mdI (a b c : Int) : D := .tup [.int a, .int b, .int c]
def badM (a b c : Int) : Prop := ¬ ((1 ≤ a ∧ a ≤ 9) ∧ (0 ≤ b ∧ b ≤ 8) ∧ (1 ≤ c ∧ c ≤ 3))
def S_look_bad (K : PySem.W.Frag) : SpD := fun ds L _ e => ∃ a b c, ds = [mdI a b c] ∧ badM a b c ∧ e (xcOf K "BadModel") L
theorem b_look_bad {ds : List D} {L : Lg} {q : D → Lg → Prop} {e : Xc → Lg → Prop} (c : Cf X (["model", "many", "pause", "late"] : List Str) ([] : List Str) (defScope (top 21)) F0 (fun y _ L' => e y L')) (T : Tx X.K X.mg)
    (h : S_look_bad X.K ds L q e) :
    BK X F0 (defBody (top 21)) (ds.map some ++ List.replicate 3 none) L { nx := fun _ L' => q .non L', rt := q } := by
  obtain ⟨a, b, c', rfl, hm, h1⟩ := h
  unfold badM at hm
  refine bk_cons (sk_asg (ek_n c.toCn .z (tg_tup c.calm ⟨_, rfl, rfl, tn_c c.toCn ⟨_, (.s .z), tn_c c.toCn ⟨_, (.s (.s .z)), tn_c c.toCn ⟨_, (.s (.s (.s .z))), tn_z (?_)⟩⟩⟩⟩)))
  refine bk_one (sk_if (et_w (ew_or (et_lt (ek_n c.toCn (.s .z) (⟨_, rfl, ek_int (⟨_, rfl, ⟨rfl, rfl⟩⟩)⟩))) (fun hb => ew_or (et_gt (ek_n c.toCn (.s .z) (⟨_, rfl, ek_gi T.MOST_NUMBERS (c.toCn.gl) (⟨_, rfl, ⟨rfl, rfl⟩⟩)⟩))) (fun hb => ew_or (et_lt (ek_n c.toCn (.s (.s .z)) (⟨_, rfl, ek_int (⟨_, rfl, ⟨rfl, rfl⟩⟩)⟩))) (fun hb => ew_or (et_gt (ek_n c.toCn (.s (.s .z)) (⟨_, rfl, ek_gi T.MOST_PAUSE (c.toCn.gl) (⟨_, rfl, ⟨rfl, rfl⟩⟩)⟩))) (fun hb => ew_or (et_lt (ek_n c.toCn (.s (.s (.s .z))) (⟨_, rfl, ek_int (⟨_, rfl, ⟨rfl, rfl⟩⟩)⟩))) (fun hb => et_or1 (et_gt (ek_n c.toCn (.s (.s (.s .z))) (⟨_, rfl, ek_gi T.MOST_LATE (c.toCn.gl) (⟨_, rfl, ⟨rfl, rfl⟩⟩)⟩)))) (⟨rfl, rfl⟩)) (⟨rfl, rfl⟩)) (⟨rfl, rfl⟩)) (⟨rfl, rfl⟩)) (⟨fun ht => ?_, fun ht => ?_⟩))))
  · refine bk_one (sk_rz c T.BadModel ?_)
    exact h1
  · exfalso
    simp only [Bool.or_eq_false_iff, decide_eq_false_iff_not] at ht
    omega
def S_first_stand_bad (K : PySem.W.Frag) : SpD := fun ds L _ e => ∃ a b c, ds = [mdI a b c] ∧ badM a b c ∧ e (xcOf K "BadModel") L
theorem b_first_stand_bad {ds : List D} {L : Lg} {q : D → Lg → Prop} {e : Xc → Lg → Prop} (c : Cf X (["model", "none"] : List Str) ([] : List Str) (defScope (top 22)) F0 (fun y _ L' => e y L')) (T : Tx X.K X.mg) (hr : Room 1 X.A)
    (G_look_model : CalX X 1 "look_model" (["model"] : List Str) (S_look_bad X.K)) (h : S_first_stand_bad X.K ds L q e) :
    BK X F0 (defBody (top 22)) (ds.map some ++ List.replicate 1 none) L { nx := fun _ L' => q .non L', rt := q } := by
  obtain ⟨a, b, c', rfl, hm, h1⟩ := h
  refine bk_cons (sk_expr (ek_call c.tk G_look_model (hr.mono (by first | decide | exact Nat.le_refl _)) (ea_cons (ek_n c.toCn .z (ea_nil (⟨a, b, c', rfl, hm, ?_⟩)))) (c.toCn.gl)))
  exact h1
def S_steps_from_bad (K : PySem.W.Frag) : SpD := fun ds L _ e => ∃ a b c x, ds = [mdI a b c, x] ∧ badM a b c ∧ e (xcOf K "BadModel") L
theorem b_steps_from_bad {ds : List D} {L : Lg} {q : D → Lg → Prop} {e : Xc → Lg → Prop} (c : Cf X (["model", "stand", "hears", "steps", "take"] : List Str) (["hear"] : List Str) (defScope (top 25)) F0 (fun y _ L' => e y L')) (T : Tx X.K X.mg) (hr : Room 1 X.A)
    (G_look_model : CalX X 1 "look_model" (["model"] : List Str) (S_look_bad X.K)) (h : S_steps_from_bad X.K ds L q e) :
    BK X F0 (defBody (top 25)) (ds.map some ++ List.replicate 4 none) L { nx := fun _ L' => q .non L', rt := q } := by
  obtain ⟨a, b, c', x, rfl, hm, h1⟩ := h
  refine bk_cons (sk_expr (ek_call c.tk G_look_model (hr.mono (by first | decide | exact Nat.le_refl _)) (ea_cons (ek_n c.toCn .z (ea_nil (⟨a, b, c', rfl, hm, ?_⟩)))) (c.toCn.gl)))
  exact h1
def S_is_wrong_bad (K : PySem.W.Frag) : SpD := fun ds L _ e => ∃ a b c x y, ds = [mdI a b c, x, y] ∧ badM a b c ∧ e (xcOf K "BadModel") L
theorem b_is_wrong_bad {ds : List D} {L : Lg} {q : D → Lg → Prop} {e : Xc → Lg → Prop} (c : Cf X (["model", "stand", "step", "take", "hear"] : List Str) ([] : List Str) (defScope (top 26)) F0 (fun y _ L' => e y L')) (T : Tx X.K X.mg) (hr : Room 1 X.A)
    (G_look_model : CalX X 1 "look_model" (["model"] : List Str) (S_look_bad X.K)) (h : S_is_wrong_bad X.K ds L q e) :
    BK X F0 (defBody (top 26)) (ds.map some ++ List.replicate 2 none) L { nx := fun _ L' => q .non L', rt := q } := by
  obtain ⟨a, b, c', x, y, rfl, hm, h1⟩ := h
  refine bk_cons (sk_expr (ek_call c.tk G_look_model (hr.mono (by first | decide | exact Nat.le_refl _)) (ea_cons (ek_n c.toCn .z (ea_nil (⟨a, b, c', rfl, hm, ?_⟩)))) (c.toCn.gl)))
  exact h1
def S_next_stand_bad (K : PySem.W.Frag) : SpD := fun ds L _ e => ∃ a b c x y, ds = [mdI a b c, x, y] ∧ badM a b c ∧ e (xcOf K "BadModel") L
theorem b_next_stand_bad {ds : List D} {L : Lg} {q : D → Lg → Prop} {e : Xc → Lg → Prop} (c : Cf X (["model", "stand", "step", "ahead", "rest", "sent", "counts", "taken", "given"] : List Str) ([] : List Str) (defScope (top 28)) F0 (fun y _ L' => e y L')) (T : Tx X.K X.mg) (hr : Room 1 X.A)
    (G_look_model : CalX X 1 "look_model" (["model"] : List Str) (S_look_bad X.K)) (h : S_next_stand_bad X.K ds L q e) :
    BK X F0 (defBody (top 28)) (ds.map some ++ List.replicate 6 none) L { nx := fun _ L' => q .non L', rt := q } := by
  obtain ⟨a, b, c', x, y, rfl, hm, h1⟩ := h
  refine bk_cons (sk_expr (ek_call c.tk G_look_model (hr.mono (by first | decide | exact Nat.le_refl _)) (ea_cons (ek_n c.toCn .z (ea_nil (⟨a, b, c', rfl, hm, ?_⟩)))) (c.toCn.gl)))
  exact h1
def S_walk_of_bad (K : PySem.W.Frag) : SpD := fun ds L _ e => ∃ a b c x, ds = [mdI a b c, x] ∧ badM a b c ∧ e (xcOf K "BadModel") L
theorem b_walk_of_bad {ds : List D} {L : Lg} {q : D → Lg → Prop} {e : Xc → Lg → Prop} (c : Cf X (["model", "steps", "stand", "found", "place", "step"] : List Str) ([] : List Str) (defScope (top 33)) F0 (fun y _ L' => e y L')) (T : Tx X.K X.mg) (hr : Room 2 X.A)
    (G_first_stand : CalX X 2 "first_stand" (["model"] : List Str) (S_first_stand_bad X.K)) (h : S_walk_of_bad X.K ds L q e) :
    BK X F0 (defBody (top 33)) (ds.map some ++ List.replicate 4 none) L { nx := fun _ L' => q .non L', rt := q } := by
  obtain ⟨a, b, c', x, rfl, hm, h1⟩ := h
  refine bk_cons (sk_set (i := 2) c.toCn (ek_call c.tk G_first_stand (hr.mono (by first | decide | exact Nat.le_refl _)) (ea_cons (ek_n c.toCn .z (ea_nil (⟨a, b, c', rfl, hm, h1⟩)))) (c.toCn.gl)))
def S_shown_bad (K : PySem.W.Frag) : SpD := fun ds L _ e => ∃ a b c, ds = [mdI a b c] ∧ badM a b c ∧ e (xcOf K "BadModel") L
theorem b_shown_bad {ds : List D} {L : Lg} {q : D → Lg → Prop} {e : Xc → Lg → Prop} (c : Cf X (["model", "first", "came", "line", "at", "stand", "step", "other"] : List Str) ([] : List Str) (defScope (top 31)) F0 (fun y _ L' => e y L')) (T : Tx X.K X.mg) (hr : Room 2 X.A)
    (G_first_stand : CalX X 2 "first_stand" (["model"] : List Str) (S_first_stand_bad X.K)) (h : S_shown_bad X.K ds L q e) :
    BK X F0 (defBody (top 31)) (ds.map some ++ List.replicate 7 none) L { nx := fun _ L' => q .non L', rt := q } := by
  obtain ⟨a, b, c', rfl, hm, h1⟩ := h
  refine bk_cons (sk_set (i := 1) c.toCn (ek_call c.tk G_first_stand (hr.mono (by first | decide | exact Nat.le_refl _)) (ea_cons (ek_n c.toCn .z (ea_nil (⟨a, b, c', rfl, hm, h1⟩)))) (c.toCn.gl)))
def S_fence_bad (K : PySem.W.Frag) : SpD := fun ds L _ e => ∃ a b c x, ds = [mdI a b c, .lst [stD x]] ∧ badM a b c ∧ ∀ en, e (xcOf K "BadModel") (en :: L)
theorem b_fence_bad {ds : List D} {L : Lg} {q : D → Lg → Prop} {e : Xc → Lg → Prop} (c : Cf X (["model", "stands", "inside", "stand", "step"] : List Str) ([] : List Str) (defScope (top 32)) F0 (fun y _ L' => e y L')) (T : Tx X.K X.mg) (hr : Room 2 X.A)
    (G_first_stand : CalX X 2 "first_stand" (["model"] : List Str) (S_first_stand_bad X.K)) (h : S_fence_bad X.K ds L q e) :
    BK X F0 (defBody (top 32)) (ds.map some ++ List.replicate 3 none) L { nx := fun _ L' => q .non L', rt := q } := by
  obtain ⟨a, b, c', x, rfl, hm, h1⟩ := h
  have hu := hr.units
  have hu65 : X.A.units + 65 < cLine := by have := hr.un; omega
  refine bk_cons (sk_set c.toCn (ek_nnew (fun p_inside => ⟨_, (.s (.s .z)), ?_⟩)))
  refine bk_cons (sk_for c (ei_list (ek_n c.toCn (.s .z) (⟨_, rfl, ⟨fun i Γ L' => ∃ kvs w1 w2, Γ = [some (mdI a b c'), some (.lst [stD x]), some (.ref p_inside), w1, w2] ∧ L' = (p_inside, C.dit X.w kvs) :: L ∧ Knw ([x].take i) kvs, ?_, fun F1 c i d Γ L hd hP => ?_, fun Γ L hP => ?_⟩⟩))))
  · exact ⟨[], none, none, rfl, rfl, knw_nil⟩
  · obtain ⟨kvs, w1, w2, rfl, rfl, hk⟩ := hP
    have hd' : ([x].map stD)[i]? = some d := hd
    obtain ⟨y, hy, rfl⟩ := mp_get hd'
    have hl := hk.le
    rw [List.length_take] at hl
    have hl1 : [x].length = 1 := rfl
    refine tg_n c.toCn ⟨_, (.s (.s (.s .z))), ?_⟩
    refine bk_one (sk_nput hu (ek_bl (ek_n c.toCn (.s (.s .z)) (ek_n c.toCn (.s (.s (.s .z))) (⟨_, _, _, _, _, rfl, .z, (ky_st y), (sz_lt (by omega)), .z, ?_⟩)))))
    refine ⟨_, _, _, rfl, rfl, ?_⟩
    rw [take_snoc hy]
    exact hk.put y _
  · obtain ⟨kvs, w1, w2, rfl, rfl, hk⟩ := hP
    refine bk_cons (sk_if (et_w (et_orw (et_nnotin hu (ek_call c.tk G_first_stand (hr.mono (by first | decide | exact Nat.le_refl _)) (ea_cons (ek_n c.toCn .z (ea_nil (⟨a, b, c', rfl, hm, h1 _⟩)))) (c.toCn.gl))))))
/-! _law_kinds, called where BadModel is handled -/
def S_kinds (a : Addr) : SpD := fun ds L q _ => ds = [.ref a] ∧ q (.lst [.int 4]) L
def kb (n : Nat) : Bool := decide (n = 4)
def kbs : List D := [.bl false, .bl false, .bl false, .bl false, .bl true, .bl false, .bl false, .bl false, .bl false, .bl false, .bl false, .bl false, .bl false, .bl false, .bl false]
theorem kbs_at {n : Nat} (h : n < 15) : atI kbs (0 + (n : Int)) = some (.bl (kb n)) := at_nat' (n := n) (by omega) (by
  have : n = 0 ∨ n = 1 ∨ n = 2 ∨ n = 3 ∨ n = 4 ∨ n = 5 ∨ n = 6 ∨ n = 7 ∨ n = 8 ∨ n = 9 ∨ n = 10 ∨ n = 11 ∨ n = 12 ∨ n = 13 ∨ n = 14 := by omega
  rcases this with rfl | rfl | rfl | rfl | rfl | rfl | rfl | rfl | rfl | rfl | rfl | rfl | rfl | rfl | rfl <;> rfl)
def kes : List (Option D) := (List.range 15).map fun i => if kb i then some (.int (0 + (i : Int))) else none
theorem b_law_kinds {ad : Addr} {oe : Obj} {ds : List D} {L : Lg} {q : D → Lg → Prop} {e : Xc → Lg → Prop} (cn : Cn X (["e", "found"] : List Str) (["k"] : List Str) (defScope (top 38))) (hot1 : L2H.Hot1 X.A (ad, oe)) (hp : (ad, oe) ∈ X.pn) (ho : Own (He.ga X.K "BadModel") oe) (T : Tx X.K X.mg)
    (h : S_kinds ad ds L q e) :
    BK X F0 (defBody (top 38)) (ds.map some ++ List.replicate 2 none) L { nx := fun _ L' => q .non L', rt := q } := by
  obtain ⟨rfl, h1⟩ := h
  have hot : L2H.HotC X := ⟨(ad, oe), hot1, hp⟩
  have hX := T.hX_BadModel
  have k1 := T.k_BadModel_BadSign
  have k2 := T.k_BadModel_BadCell
  have k3 := T.k_BadModel_BadMeasure
  have k4 := T.k_BadModel_BadFate
  have k5 := T.k_BadModel_BadModel
  have k6 := T.k_BadModel_NoLink
  have k7 := T.k_BadModel_BadPiece
  have k8 := T.k_BadModel_BadLetter
  have k9 := T.k_BadModel_BadNews
  have k10 := T.k_BadModel_BadHouse
  have k11 := T.k_BadModel_BadName
  have k12 := T.k_BadModel_NoStream
  have k13 := T.k_BadModel_NoAsk
  have k14 := T.k_BadModel_BadNet
  have k15 := T.k_BadModel_BadText
  have k16 := T.k_BadModel_ValueError
  refine bk_cons (sk_set cn (ek_lst (ea_cons (ek_isP hp hX ho T.no_isinstance (cn.gl) (ek_n cn .z (⟨rfl, ek_cls T.BadSign.g (cn.gl) (⟨_, _, .own, (by walk_at "vkit"), ea_cons (ek_isP hp hX ho T.no_isinstance (cn.gl) (ek_n cn .z (⟨rfl, ek_cls T.BadCell.g (cn.gl) (⟨_, _, .own, (by walk_at "vkit"), ea_cons (ek_isP hp hX ho T.no_isinstance (cn.gl) (ek_n cn .z (⟨rfl, ek_cls T.BadMeasure.g (cn.gl) (⟨_, _, .own, (by walk_at "vkit"), ea_cons (ek_isP hp hX ho T.no_isinstance (cn.gl) (ek_n cn .z (⟨rfl, ek_cls T.BadFate.g (cn.gl) (⟨_, _, .own, (by walk_at "vkit"), ea_nil (⟨(by walk_at "vlen"), ⟨_, (.s .z), ?_⟩⟩)⟩)⟩)))⟩)⟩)))⟩)⟩)))⟩)⟩))))))
  refine bk_cons (sk_set cn (ek_cat (ek_n cn (.s .z) (ek_lst (ea_cons (ek_isP hp hX ho T.no_isinstance (cn.gl) (ek_n cn .z (⟨rfl, ek_cls T.BadModel.g (cn.gl) (⟨_, _, .own, (by walk_at "vkit"), ea_cons (ek_isP hp hX ho T.no_isinstance (cn.gl) (ek_n cn .z (⟨rfl, ek_cls T.NoLink.g (cn.gl) (⟨_, _, .own, (by walk_at "vkit"), ea_cons (ek_isP hp hX ho T.no_isinstance (cn.gl) (ek_n cn .z (⟨rfl, ek_cls T.BadPiece.g (cn.gl) (⟨_, _, .own, (by walk_at "vkit"), ea_cons (ek_isP hp hX ho T.no_isinstance (cn.gl) (ek_n cn .z (⟨rfl, ek_cls T.BadLetter.g (cn.gl) (⟨_, _, .own, (by walk_at "vkit"), ea_nil (⟨(by walk_at "vlen"), ⟨_, _, .lst, .lst, (by walk_at "vlen"), ⟨_, (.s .z), ?_⟩⟩⟩)⟩)⟩)))⟩)⟩)))⟩)⟩)))⟩)⟩))))))))
  refine bk_cons (sk_set cn (ek_cat (ek_n cn (.s .z) (ek_lst (ea_cons (ek_isP hp hX ho T.no_isinstance (cn.gl) (ek_n cn .z (⟨rfl, ek_cls T.BadNews.g (cn.gl) (⟨_, _, .own, (by walk_at "vkit"), ea_cons (ek_isP hp hX ho T.no_isinstance (cn.gl) (ek_n cn .z (⟨rfl, ek_cls T.BadHouse.g (cn.gl) (⟨_, _, .own, (by walk_at "vkit"), ea_cons (ek_isP hp hX ho T.no_isinstance (cn.gl) (ek_n cn .z (⟨rfl, ek_cls T.BadName.g (cn.gl) (⟨_, _, .own, (by walk_at "vkit"), ea_cons (ek_isP hp hX ho T.no_isinstance (cn.gl) (ek_n cn .z (⟨rfl, ek_cls T.NoStream.g (cn.gl) (⟨_, _, .own, (by walk_at "vkit"), ea_nil (⟨(by walk_at "vlen"), ⟨_, _, .lst, .lst, (by walk_at "vlen"), ⟨_, (.s .z), ?_⟩⟩⟩)⟩)⟩)))⟩)⟩)))⟩)⟩)))⟩)⟩))))))))
  refine bk_cons (sk_set cn (ek_cat (ek_n cn (.s .z) (ek_lst (ea_cons (ek_isP hp hX ho T.no_isinstance (cn.gl) (ek_n cn .z (⟨rfl, ek_cls T.NoAsk.g (cn.gl) (⟨_, _, .own, (by walk_at "vkit"), ea_cons (ek_isP hp hX ho T.no_isinstance (cn.gl) (ek_n cn .z (⟨rfl, ek_cls T.BadNet.g (cn.gl) (⟨_, _, .own, (by walk_at "vkit"), ea_cons (ek_isP hp hX ho T.no_isinstance (cn.gl) (ek_n cn .z (⟨rfl, ek_cls T.BadText.g (cn.gl) (⟨_, _, .own, (by walk_at "vkit"), ea_nil (⟨(by walk_at "vlen"), ⟨_, _, .lst, .lst, (by walk_at "vlen"), ⟨_, (.s .z), ?_⟩⟩⟩)⟩)⟩)))⟩)⟩)))⟩)⟩))))))))
  show BK X F0 _ [some (.ref ad), some (.lst kbs), none] L _
  refine bk_cons (sk_if (et_not (et_v (ek_isP hp hX ho T.no_isinstance (cn.gl) (ek_n cn .z (⟨rfl, ek_ty (n := "ValueError") T.no_ValueError (cn.gl) (by decide +kernel) (⟨_, _, .ty, (by walk_at "vkit"), ⟨_, rfl, ⟨fun ht => ?_, fun ht => ?_⟩⟩⟩)⟩))))))
  · cases ht
  · refine bk_nil ?_
    refine bk_one (sk_ret (ek_lcR [("k", 2)] cn hot (by decide +kernel) T.no_range (cn.gl) (ek_int (⟨_, rfl, (by walk_at "vrng"), kes, ?_, ?_, ?_, ?_⟩))))
    · rfl
    · decide
    · intro F1 n e' acc Dp hn he
      have hn : n < 15 := hn
      have hix := kbs_at hn
      have he' : e' = if kb n then some (.int (0 + (n : Int))) else none := by
        unfold kes at he
        rw [List.getElem?_map, List.getElem?_range hn] at he
        exact (Option.some.inj he).symm
      intro X' cb hX'
      obtain ⟨s0, H0, C0, cl, fp, rfl⟩ := hX'
      refine tb_nH cb ⟨_, (.s (.s .z)), rfl, fun X' cb hX' => ?_⟩
      obtain ⟨s0, H0, C0, cl, fp, rfl⟩ := hX'
      refine es_one (et_v (ek_ix (ek_bH cb (.s .z) (ek_bH cb (.s (.s .z)) (⟨_, _, _, .lst, rfl, (hix), ⟨_, rfl, ⟨rfl, fun ht X' cb hX' => ?_, fun ht => ?_⟩⟩⟩))) (fun _ _ => rfl)))
      · skip
        obtain ⟨s0, H0, C0, cl, fp, rfl⟩ := hX'
        refine ek_bH cb (.s (.s .z)) (?_)
        have ht' : kb n = true := ht
        rw [ht', if_pos rfl] at he'
        exact ⟨rfl, he'⟩
      · have ht' : kb n = false := ht
        rw [ht', if_neg Bool.false_ne_true] at he'
        exact he'
    · exact h1
/-! _law_asked of a model that is none -/
def S_asked_bad (K : PySem.W.Frag) : SpD := fun ds L _ e => ∃ i a b c x, ds = [.int i, mdI a b c, stD x] ∧ (0 ≤ i ∧ i < 7) ∧ badM a b c ∧ ∀ G, e (xcOf K "BadModel") (G ++ L)
theorem b_asked_bad {ds : List D} {L : Lg} {q : D → Lg → Prop} {e : Xc → Lg → Prop} (c : Cf X (["which", "model", "stand"] : List Str) ([] : List Str) (defScope (top 40)) F0 (fun y _ L' => e y L')) (T : Tx X.K X.mg) (hr : Room 3 X.A)
    (G_first_stand : CalX X 2 "first_stand" (["model"] : List Str) (S_first_stand_bad X.K)) (G_steps_from : CalX X 2 "steps_from" (["model", "stand"] : List Str) (S_steps_from_bad X.K)) (G_is_wrong : CalX X 2 "is_wrong" (["model", "stand", "step"] : List Str) (S_is_wrong_bad X.K)) (G_next_stand : CalX X 2 "next_stand" (["model", "stand", "step"] : List Str) (S_next_stand_bad X.K))
    (G_fence_stands : CalX X 3 "fence_stands" (["model", "stands"] : List Str) (S_fence_bad X.K)) (G_walk_of : CalX X 3 "walk_of" (["model", "steps"] : List Str) (S_walk_of_bad X.K)) (G_shown : CalX X 3 "shown" (["model"] : List Str) (S_shown_bad X.K)) (h : S_asked_bad X.K ds L q e) :
    BK X F0 (defBody (top 40)) (ds.map some ++ List.replicate 0 none) L { nx := fun _ L' => q .non L', rt := q } := by
  obtain ⟨i, a, b, c', x, rfl, hi, hm, h1⟩ := h
  refine bk_cons (sk_if (et_eqI (ek_n c.toCn .z (⟨_, rfl, ek_int (⟨_, rfl, ⟨fun ht => ?_, fun ht => ?_⟩⟩)⟩))))
  · refine bk_one (sk_ret (ek_call c.tk G_first_stand (hr.mono (by first | decide | exact Nat.le_refl _)) (ea_cons (ek_n c.toCn (.s .z) (ea_nil (⟨a, b, c', rfl, hm, h1 []⟩)))) (c.toCn.gl)))
  · refine bk_nil ?_
    refine bk_cons (sk_if (et_eqI (ek_n c.toCn .z (⟨_, rfl, ek_int (⟨_, rfl, ⟨fun ht => ?_, fun ht => ?_⟩⟩)⟩))))
    · refine bk_one (sk_ret (ek_call c.tk G_steps_from (hr.mono (by first | decide | exact Nat.le_refl _)) (ea_cons (ek_n c.toCn (.s .z) (ea_cons (ek_n c.toCn (.s (.s .z)) (ea_nil (⟨a, b, c', _, rfl, hm, h1 []⟩)))))) (c.toCn.gl)))
    · refine bk_nil ?_
      refine bk_cons (sk_if (et_eqI (ek_n c.toCn .z (⟨_, rfl, ek_int (⟨_, rfl, ⟨fun ht => ?_, fun ht => ?_⟩⟩)⟩))))
      · refine bk_one (sk_ret (ek_call c.tk G_is_wrong (hr.mono (by first | decide | exact Nat.le_refl _)) (ea_cons (ek_n c.toCn (.s .z) (ea_cons (ek_n c.toCn (.s (.s .z)) (ea_cons (ek_tup (ea_cons (ek_int (ea_cons (ek_int (ea_nil (⟨(by walk_at "vlen"), ea_nil (⟨a, b, c', _, _, rfl, hm, h1 []⟩)⟩)))))))))))) (c.toCn.gl)))
      · refine bk_nil ?_
        refine bk_cons (sk_if (et_eqI (ek_n c.toCn .z (⟨_, rfl, ek_int (⟨_, rfl, ⟨fun ht => ?_, fun ht => ?_⟩⟩)⟩))))
        · refine bk_one (sk_ret (ek_call c.tk G_next_stand (hr.mono (by first | decide | exact Nat.le_refl _)) (ea_cons (ek_n c.toCn (.s .z) (ea_cons (ek_n c.toCn (.s (.s .z)) (ea_cons (ek_tup (ea_cons (ek_int (ea_cons (ek_int (ea_nil (⟨(by walk_at "vlen"), ea_nil (⟨a, b, c', _, _, rfl, hm, h1 []⟩)⟩)))))))))))) (c.toCn.gl)))
        · refine bk_nil ?_
          refine bk_cons (sk_if (et_eqI (ek_n c.toCn .z (⟨_, rfl, ek_int (⟨_, rfl, ⟨fun ht => ?_, fun ht => ?_⟩⟩)⟩))))
          · refine bk_one (sk_ret (ek_call c.tk G_fence_stands (hr.mono (by first | decide | exact Nat.le_refl _)) (ea_cons (ek_n c.toCn (.s .z) (ea_cons (ek_lst (ea_cons (ek_n c.toCn (.s (.s .z)) (ea_nil (⟨(by walk_at "vlen"), ea_nil (⟨a, b, c', _, rfl, hm, fun en => h1 [en]⟩)⟩)))))))) (c.toCn.gl)))
          · refine bk_nil ?_
            refine bk_cons (sk_if (et_eqI (ek_n c.toCn .z (⟨_, rfl, ek_int (⟨_, rfl, ⟨fun ht => ?_, fun ht => ?_⟩⟩)⟩))))
            · refine bk_one (sk_ret (ek_call c.tk G_walk_of (hr.mono (by first | decide | exact Nat.le_refl _)) (ea_cons (ek_n c.toCn (.s .z) (ea_cons (ek_lst (ea_cons (ek_tup (ea_cons (ek_int (ea_cons (ek_int (ea_nil (⟨(by walk_at "vlen"), ea_nil (⟨(by walk_at "vlen"), ea_nil (⟨a, b, c', _, rfl, hm, h1 []⟩)⟩)⟩)))))))))))) (c.toCn.gl)))
            · refine bk_nil ?_
              refine bk_one (sk_ret (ek_call c.tk G_shown (hr.mono (by first | decide | exact Nat.le_refl _)) (ea_cons (ek_n c.toCn (.s .z) (ea_nil (⟨a, b, c', rfl, hm, h1 []⟩)))) (c.toCn.gl)))
/-! _law_refused -/
def S_refused : SpD := fun ds L q _ => ∃ i a b c x, ds = [.int i, mdI a b c, stD x] ∧ (0 ≤ i ∧ i < 7) ∧ badM a b c ∧ q (.bl true) L
theorem b_refused {ds : List D} {L : Lg} {q : D → Lg → Prop} {e : Xc → Lg → Prop} (c : Cf X (["which", "model", "stand", "found", "e"] : List Str) ([] : List Str) (defScope (top 41)) F0 (fun y _ L' => e y L')) (T : Tx X.K X.mg) (hr : Room 4 X.A)
    (G__law_asked : CalX X 4 "_law_asked" (["which", "model", "stand"] : List Str) (S_asked_bad X.K)) (G__law_kinds : CalZX X 1 "_law_kinds" (["e"] : List Str) (Own (He.ga X.K "BadModel")) S_kinds) (h : S_refused ds L q e) :
    BK X F0 (defBody (top 41)) (ds.map some ++ List.replicate 2 none) L { nx := fun _ L' => q .non L', rt := q } := by
  obtain ⟨i, a, b, c', x, rfl, hi, hm, h1⟩ := h
  have hu := hr.units
  refine bk_cons (sk_set c.toCn (ek_non (⟨_, (.s (.s (.s .z))), ?_⟩)))
  refine bk_cons (sk_try_asZ (i := 4) c rfl rfl ⟨(c.toCn.gl), rfl, .inl T.PostError.g⟩ (fun pn xe Z' c1 hZ => ?_))
  refine bk_one (sk_expr (ek_call c1.tk G__law_asked (hr.mono (by first | decide | exact Nat.le_refl _)) (ea_cons (ek_n c1.toCn .z (ea_cons (ek_n c1.toCn (.s .z) (ea_cons (ek_n c1.toCn (.s (.s .z)) (ea_nil (⟨i, a, b, c', x, rfl, hi, hm, fun G => ?_⟩)))))))) (c1.toCn.gl)))
  refine hZ _ _ _ ⟨true, T.exm_BadModel_PostError, fun _ ad oe pn hz hf hot cn => ⟨_, .s (.s (.s (.s .z))), ?_⟩, fun h => nomatch h⟩
  have ho : Own (He.ga X.K "BadModel") oe := ⟨hz rfl, hf⟩
  have hp : (ad, oe) ∈ (X.suite ad ((ad, oe) :: pn)).pn := List.mem_cons_self ..
  have hrH : L2H.RoomH 1 (X.suite ad ((ad, oe) :: pn)).A := ⟨((L2H.roomH_of hr).mono (show 1 ≤ 4 by decide)).dp, ((L2H.roomH_of hr).mono (show 1 ≤ 4 by decide)).un⟩
  refine bk_one (sk_set cn (ek_callZ hot hp ho G__law_kinds hrH (ea_cons (ek_n cn (.s (.s (.s (.s .z)))) (ea_nil (⟨rfl, ⟨_, (.s (.s (.s .z))), ?_⟩⟩)))) (cn.gl)))
  refine ⟨_, .s (.s (.s (.s .z))), ?_⟩
  refine bk_one (sk_retS (ek_eqD hu (ek_n c.toCn (.s (.s (.s .z))) (ek_lst (ea_cons (ek_int (ea_nil (⟨(by walk_at "vlen"), ⟨_, _, (.lst (.cons .int .nil)), (.lst (.cons .int .nil)), (by decide +kernel), (by decide +kernel), ⟨_, List.sublist_append_right G L, ?_⟩⟩⟩))))))))
  have e1 : PyData.eqv (.list [.int 4]) (.list [.int 4]) = true := SeqAt.eqv_refl _ (by decide +kernel)
  rw [e1]
  exact h1
end
end K24


set_option Elab.async false
set_option linter.all false
set_option maxRecDepth 100000
set_option maxHeartbeats 4000000
set_option pp.deepTerms.threshold 16
namespace K24
open PySem PySem.Spec PyProof.Rows L2 Vs
local macro_rules | `(tactic| walk_at "vpos") => `(tactic| first | decide | omega)
local macro_rules | `(tactic| walk_at "vdiv") => `(tactic| first | exact ⟨by decide, by decide⟩ | (constructor <;> omega))
local macro_rules | `(tactic| walk_at "vpow") => `(tactic| exact ⟨by decide, by decide, by decide⟩)
local macro_rules | `(tactic| walk_at "vmul") => `(tactic| first | exact mulL ⟨by decide, by decide⟩ | exact mulR ⟨by decide, by decide⟩ | exact mulL (by constructor <;> omega) | exact mulR (by constructor <;> omega))
local macro_rules | `(tactic| walk_at "vlen") => `(tactic| first | exact sz_ok (Nat.le_of_ble_eq_true rfl) | exact sz_lt (Nat.le_of_ble_eq_true rfl) | (refine sz_ok ?_; simp only [List.length_append, List.length_cons, List.length_nil, List.length_map]; omega) | (refine sz_lt ?_; simp only [List.length_append, List.length_cons, List.length_nil, List.length_map]; omega))
local macro_rules | `(tactic| walk_at "vrng") => `(tactic| (refine ⟨?_, ?_⟩ <;> omega))
local macro_rules | `(tactic| walk_at "vix") => `(tactic| rfl)
local macro_rules | `(tactic| walk_at "vixn") => `(tactic| first | rfl | exact ixN_at (by omega) (by omega))
local macro_rules | `(tactic| walk_at "vkb") => `(tactic| decide +kernel)
local macro_rules | `(tactic| walk_at "vty") => `(tactic| first | exact .int | exact .bl | exact .lst | exact .str | exact .tup | exact .non | exact .own .z | exact tyd_as (by assumption))
local macro_rules | `(tactic| walk_at "vkit") => `(tactic| assumption)
local macro_rules | `(tactic| walk_at "vrep") => `(tactic| (refine ⟨by omega, by omega, ?_⟩; first | decide | (refine sz_ok ?_; simp only [List.length_cons, List.length_nil]; omega)))
section
variable {X : Cx} {F0 : Hp}
set_option pp.deepTerms.threshold 8
def S_law_first : SpD := fun ds L q _ => ∃ m p l, ds = [mdD m p l] ∧ okMd m p l ∧ q (stD (firstS l)) L
theorem b_law_first {ds : List D} {L : Lg} {q : D → Lg → Prop} {e : Xc → Lg → Prop} (c : Cf X (["model"] : List Str) ([] : List Str) (defScope (top 39)) F0 (fun y _ L' => e y L')) (T : Tx X.K X.mg) (h : S_law_first ds L q e) :
    BK X F0 (defBody (top 39)) (ds.map some ++ List.replicate 0 none) L { nx := fun _ L' => q .non L', rt := q } := by
  obtain ⟨m, p, l, rfl, hm, h1⟩ := h
  have hm2 := hm
  unfold okMd at hm2
  refine bk_one (sk_ret (ek_tup (ea_cons (ek_int (ea_cons (ek_int (ea_cons (ek_repT (ek_tup (ea_cons (ek_non (ea_nil (⟨(by walk_at "vlen"), ek_ixT (ek_n c.toCn .z (ek_int (⟨_, _, _, rfl, rfl, (by walk_at "vix"), ⟨_, _, rfl, rfl, (⟨by decide, by decide, by omega, by omega⟩), ea_cons (ek_repT (ek_tup (ea_cons (ek_non (ea_nil (⟨(by walk_at "vlen"), ek_ixT (ek_n c.toCn .z (ek_int (⟨_, _, _, rfl, rfl, (by walk_at "vix"), ⟨_, _, rfl, rfl, (⟨by decide, by decide, by omega, by omega⟩), ea_nil (⟨(by walk_at "vlen"), ?_⟩)⟩⟩))) (fun _ _ => rfl)⟩))))))⟩⟩))) (fun _ _ => rfl)⟩)))))))))))))
  rw [rep_none]
  exact h1
/-! _law_off: a model beyond its bounds -/
def pk2 (a b i : Int) : Int := if i = 0 then a else b
def pk3 (a b c i : Int) : Int := if i = 0 then a else if i = 1 then b else c
def pk5 (a b c d e i : Int) : Int := if i = 0 then a else if i = 1 then b else if i = 2 then c else if i = 3 then d else e
theorem pick2 {a b i : Int} (h : 0 ≤ i ∧ i < 2) : atI [D.int a, D.int b] i = some (.int (pk2 a b i)) := by
  have : i = 0 ∨ i = 1 := by omega
  rcases this with rfl | rfl <;> rfl
theorem pick3 {a b c i : Int} (h : 0 ≤ i ∧ i < 3) : atI [D.int a, D.int b, D.int c] i = some (.int (pk3 a b c i)) := by
  have : i = 0 ∨ i = 1 ∨ i = 2 := by omega
  rcases this with rfl | rfl | rfl <;> rfl
theorem pick5 {a b c d e i : Int} (h : 0 ≤ i ∧ i < 5) : atI [D.int a, D.int b, D.int c, D.int d, D.int e] i = some (.int (pk5 a b c d e i)) := by
  have : i = 0 ∨ i = 1 ∨ i = 2 ∨ i = 3 ∨ i = 4 := by omega
  rcases this with rfl | rfl | rfl | rfl | rfl <;> rfl
theorem pk5_off {lo hi far i : Int} (hlh : lo ≤ hi) (hf : 1 ≤ far) : pk5 (lo - 1) (hi + 1) (lo - far) (hi + far) (hi + far * 10 ^ 30) i < lo ∨ hi < pk5 (lo - 1) (hi + 1) (lo - far) (hi + far) (hi + far * 10 ^ 30) i := by
  unfold pk5
  have : far ≤ far * 10 ^ 30 := by omega
  split
  · omega
  · split
    · omega
    · split
      · omega
      · split <;> omega
def S_off : SpD := fun ds L q _ => ∃ p r m n j, ds = [.ref p] ∧ Get L j (p, .lst (dI [r, m, n])) ∧ ∀ a b c r' m' n', badM a b c → q (mdI a b c) (L.set j (p, .lst (dI [r', m', n'])))
theorem b_off {ds : List D} {L : Lg} {q : D → Lg → Prop} {e : Xc → Lg → Prop} (c : Cf X (["left", "model", "at", "low", "high", "far"] : List Str) ([] : List Str) (defScope (top 42)) F0 (fun y _ L' => e y L')) (T : Tx X.K X.mg) (hr : Room 1 X.A)
    (G__law_next : CalX X 1 "_law_next" (["left", "base"] : List Str) S_law_next) (h : S_off ds L q e) :
    BK X F0 (defBody (top 42)) (ds.map some ++ List.replicate 5 none) L { nx := fun _ L' => q .non L', rt := q } := by
  obtain ⟨p, r, m, n, j, rfl, g, h1⟩ := h
  refine bk_cons (sk_set c.toCn (ek_lstO (ea_cons (ek_add (ek_int (⟨_, rfl, ek_call c.tk G__law_next (hr.mono (by first | decide | exact Nat.le_refl _)) (ea_cons (ek_n c.toCn .z (ea_cons (ek_int (ea_nil (⟨_, _, _, _, _, j, rfl, (by first | exact g | exact get_at_set g | exact get_set2 g), ⟨by decide, by decide⟩, fun dg3 r3 n3 hd3 => ⟨_, rfl, ea_cons (ek_call c.tk G__law_next (hr.mono (by first | decide | exact Nat.le_refl _)) (ea_cons (ek_n c.toCn .z (ea_cons (ek_int (ea_nil (⟨_, _, _, _, _, j, rfl, (by first | exact g | exact get_at_set g | exact get_set2 g), ⟨by decide, by decide⟩, fun dg2 r2 n2 hd2 => ea_cons (ek_add (ek_int (⟨_, rfl, ek_call c.tk G__law_next (hr.mono (by first | decide | exact Nat.le_refl _)) (ea_cons (ek_n c.toCn .z (ea_cons (ek_int (ea_nil (⟨_, _, _, _, _, j, rfl, (by first | exact g | exact get_at_set g | exact get_set2 g), ⟨by decide, by decide⟩, fun dg1 r1 n1 hd1 => ⟨_, rfl, ea_nil (⟨(by walk_at "vlen"), fun p_model => ⟨_, (.s .z), ?_⟩⟩)⟩⟩)))))) (c.toCn.gl)⟩)))⟩)))))) (c.toCn.gl))⟩⟩)))))) (c.toCn.gl)⟩))))))
  rw [List.set_set, List.set_set]
  refine bk_cons (sk_set c.toCn (ek_call c.tk G__law_next (hr.mono (by first | decide | exact Nat.le_refl _)) (ea_cons (ek_n c.toCn .z (ea_cons (ek_int (ea_nil (⟨_, _, _, _, _, j + 1, rfl, .s (get_at_set g), ⟨by decide, by decide⟩, fun dg4 r4 n4 hd4 => ⟨_, (.s (.s .z)), ?_⟩⟩)))))) (c.toCn.gl)))
  rw [List.set_cons_succ, List.set_set]
  refine bk_cons (sk_set c.toCn (ek_ix (ek_lst (ea_cons (ek_int (ea_cons (ek_int (ea_cons (ek_int (ea_nil (⟨(by walk_at "vlen"), ek_n c.toCn (.s (.s .z)) (⟨_, _, _, .lst, rfl, (pick3 hd4), ⟨_, (.s (.s (.s .z))), ?_⟩⟩)⟩))))))))) (fun _ _ => rfl)))
  refine bk_cons (sk_set c.toCn (ek_ix (ek_lst (ea_cons (ek_int (ea_cons (ek_int (ea_cons (ek_int (ea_nil (⟨(by walk_at "vlen"), ek_n c.toCn (.s (.s .z)) (⟨_, _, _, .lst, rfl, (pick3 hd4), ⟨_, (.s (.s (.s (.s .z)))), ?_⟩⟩)⟩))))))))) (fun _ _ => rfl)))
  refine bk_cons (sk_set c.toCn (ek_add (ek_int (⟨_, rfl, ek_call c.tk G__law_next (hr.mono (by first | decide | exact Nat.le_refl _)) (ea_cons (ek_n c.toCn .z (ea_cons (ek_int (ea_nil (⟨_, _, _, _, _, j + 1, rfl, .s (get_at_set g), ⟨by decide, by decide⟩, fun dg5 r5 n5 hd5 => ⟨_, rfl, ⟨_, (.s (.s (.s (.s (.s .z))))), ?_⟩⟩⟩)))))) (c.toCn.gl)⟩))))
  rw [List.set_cons_succ, List.set_set]
  have h4 : dg4 = 0 ∨ dg4 = 1 ∨ dg4 = 2 := by omega
  rcases h4 with rfl | rfl | rfl
  · refine bk_cons (sk_seti (ek_ix (ek_lst (ea_cons (ek_sub (ek_n c.toCn (.s (.s (.s .z))) (⟨_, rfl, ek_int (⟨_, rfl, ea_cons (ek_add (ek_n c.toCn (.s (.s (.s (.s .z)))) (⟨_, rfl, ek_int (⟨_, rfl, ea_cons (ek_sub (ek_n c.toCn (.s (.s (.s .z))) (⟨_, rfl, ek_n c.toCn (.s (.s (.s (.s (.s .z))))) (⟨_, rfl, ea_cons (ek_add (ek_n c.toCn (.s (.s (.s (.s .z)))) (⟨_, rfl, ek_n c.toCn (.s (.s (.s (.s (.s .z))))) (⟨_, rfl, ea_cons (ek_add (ek_n c.toCn (.s (.s (.s (.s .z)))) (⟨_, rfl, ek_mul (ek_n c.toCn (.s (.s (.s (.s (.s .z))))) (⟨_, rfl, ek_pow (ek_int (⟨_, rfl, ek_int (⟨_, rfl, (by walk_at "vpow"), ⟨_, rfl, (by walk_at "vmul"), ⟨_, rfl, ea_nil (⟨(by walk_at "vlen"), ek_call c.tk G__law_next (hr.mono (by first | decide | exact Nat.le_refl _)) (ea_cons (ek_n c.toCn .z (ea_cons (ek_int (ea_nil (⟨_, _, _, _, _, j + 1, rfl, .s (get_at_set g), ⟨by decide, by decide⟩, fun dg6 r6 n6 hd6 => ⟨_, _, _, .lst, rfl, (pick5 hd6), ek_n c.toCn (.s .z) (ek_n c.toCn (.s (.s .z)) (⟨_, _, _, _, _, _, rfl, rfl, .z, (by walk_at "vixn"), .z, ?_⟩))⟩⟩)))))) (c.toCn.gl)⟩)⟩⟩⟩)⟩))⟩))⟩)))⟩)⟩)))⟩)⟩)))⟩)⟩)))⟩)⟩))))) (fun _ _ => rfl)))
    have hv := pk5_off (lo := 1) (hi := 9) (far := 1 + dg5) (i := dg6) (by decide) (by omega)
    rw [List.set_set]
    refine bk_one (sk_retS (ek_tupOf T.no_tuple (c.toCn.gl) (ek_n c.toCn (.s .z) (⟨_, Or.inl (.own .z), ⟨_, List.sublist_cons_self _ _, ?_⟩⟩))))
    refine h1 (pk5 (1 - 1) (9 + 1) (1 - (1 + dg5)) (9 + (1 + dg5)) (9 + (1 + dg5) * 10 ^ 30) dg6) dg2 (1 + dg1) _ _ _ ?_
    unfold badM
    omega
  · refine bk_cons (sk_seti (ek_ix (ek_lst (ea_cons (ek_sub (ek_n c.toCn (.s (.s (.s .z))) (⟨_, rfl, ek_int (⟨_, rfl, ea_cons (ek_add (ek_n c.toCn (.s (.s (.s (.s .z)))) (⟨_, rfl, ek_int (⟨_, rfl, ea_cons (ek_sub (ek_n c.toCn (.s (.s (.s .z))) (⟨_, rfl, ek_n c.toCn (.s (.s (.s (.s (.s .z))))) (⟨_, rfl, ea_cons (ek_add (ek_n c.toCn (.s (.s (.s (.s .z)))) (⟨_, rfl, ek_n c.toCn (.s (.s (.s (.s (.s .z))))) (⟨_, rfl, ea_cons (ek_add (ek_n c.toCn (.s (.s (.s (.s .z)))) (⟨_, rfl, ek_mul (ek_n c.toCn (.s (.s (.s (.s (.s .z))))) (⟨_, rfl, ek_pow (ek_int (⟨_, rfl, ek_int (⟨_, rfl, (by walk_at "vpow"), ⟨_, rfl, (by walk_at "vmul"), ⟨_, rfl, ea_nil (⟨(by walk_at "vlen"), ek_call c.tk G__law_next (hr.mono (by first | decide | exact Nat.le_refl _)) (ea_cons (ek_n c.toCn .z (ea_cons (ek_int (ea_nil (⟨_, _, _, _, _, j + 1, rfl, .s (get_at_set g), ⟨by decide, by decide⟩, fun dg7 r7 n7 hd7 => ⟨_, _, _, .lst, rfl, (pick5 hd7), ek_n c.toCn (.s .z) (ek_n c.toCn (.s (.s .z)) (⟨_, _, _, _, _, _, rfl, rfl, .z, (by walk_at "vixn"), .z, ?_⟩))⟩⟩)))))) (c.toCn.gl)⟩)⟩⟩⟩)⟩))⟩))⟩)))⟩)⟩)))⟩)⟩)))⟩)⟩)))⟩)⟩))))) (fun _ _ => rfl)))
    have hv := pk5_off (lo := 0) (hi := 8) (far := 1 + dg5) (i := dg7) (by decide) (by omega)
    rw [List.set_set]
    refine bk_one (sk_retS (ek_tupOf T.no_tuple (c.toCn.gl) (ek_n c.toCn (.s .z) (⟨_, Or.inl (.own .z), ⟨_, List.sublist_cons_self _ _, ?_⟩⟩))))
    refine h1 (1 + dg3) (pk5 (0 - 1) (8 + 1) (0 - (1 + dg5)) (8 + (1 + dg5)) (8 + (1 + dg5) * 10 ^ 30) dg7) (1 + dg1) _ _ _ ?_
    unfold badM
    omega
  · refine bk_cons (sk_seti (ek_ix (ek_lst (ea_cons (ek_sub (ek_n c.toCn (.s (.s (.s .z))) (⟨_, rfl, ek_int (⟨_, rfl, ea_cons (ek_add (ek_n c.toCn (.s (.s (.s (.s .z)))) (⟨_, rfl, ek_int (⟨_, rfl, ea_cons (ek_sub (ek_n c.toCn (.s (.s (.s .z))) (⟨_, rfl, ek_n c.toCn (.s (.s (.s (.s (.s .z))))) (⟨_, rfl, ea_cons (ek_add (ek_n c.toCn (.s (.s (.s (.s .z)))) (⟨_, rfl, ek_n c.toCn (.s (.s (.s (.s (.s .z))))) (⟨_, rfl, ea_cons (ek_add (ek_n c.toCn (.s (.s (.s (.s .z)))) (⟨_, rfl, ek_mul (ek_n c.toCn (.s (.s (.s (.s (.s .z))))) (⟨_, rfl, ek_pow (ek_int (⟨_, rfl, ek_int (⟨_, rfl, (by walk_at "vpow"), ⟨_, rfl, (by walk_at "vmul"), ⟨_, rfl, ea_nil (⟨(by walk_at "vlen"), ek_call c.tk G__law_next (hr.mono (by first | decide | exact Nat.le_refl _)) (ea_cons (ek_n c.toCn .z (ea_cons (ek_int (ea_nil (⟨_, _, _, _, _, j + 1, rfl, .s (get_at_set g), ⟨by decide, by decide⟩, fun dg8 r8 n8 hd8 => ⟨_, _, _, .lst, rfl, (pick5 hd8), ek_n c.toCn (.s .z) (ek_n c.toCn (.s (.s .z)) (⟨_, _, _, _, _, _, rfl, rfl, .z, (by walk_at "vixn"), .z, ?_⟩))⟩⟩)))))) (c.toCn.gl)⟩)⟩⟩⟩)⟩))⟩))⟩)))⟩)⟩)))⟩)⟩)))⟩)⟩)))⟩)⟩))))) (fun _ _ => rfl)))
    have hv := pk5_off (lo := 1) (hi := 3) (far := 1 + dg5) (i := dg8) (by decide) (by omega)
    rw [List.set_set]
    refine bk_one (sk_retS (ek_tupOf T.no_tuple (c.toCn.gl) (ek_n c.toCn (.s .z) (⟨_, Or.inl (.own .z), ⟨_, List.sublist_cons_self _ _, ?_⟩⟩))))
    refine h1 (1 + dg3) dg2 (pk5 (1 - 1) (3 + 1) (1 - (1 + dg5)) (3 + (1 + dg5)) (3 + (1 + dg5) * 10 ^ 30) dg8) _ _ _ ?_
    unfold badM
    omega
/-! _law_edge -/
def S_edge : SpD := fun ds L q _ => ∃ p r m n j, ds = [.ref p] ∧ Get L j (p, .lst (dI [r, m, n])) ∧ ∀ a b l r' n' , okMd a b l → q (mdD a b l) (L.set j (p, .lst (dI [r', m, n'])))
theorem b_edge {ds : List D} {L : Lg} {q : D → Lg → Prop} {e : Xc → Lg → Prop} (c : Cf X (["left"] : List Str) ([] : List Str) (defScope (top 43)) F0 (fun y _ L' => e y L')) (T : Tx X.K X.mg) (hr : Room 1 X.A)
    (G__law_next : CalX X 1 "_law_next" (["left", "base"] : List Str) S_law_next) (h : S_edge ds L q e) :
    BK X F0 (defBody (top 43)) (ds.map some ++ List.replicate 0 none) L { nx := fun _ L' => q .non L', rt := q } := by
  obtain ⟨p, r, m, n, j, rfl, g, h1⟩ := h
  refine bk_one (sk_ret (ek_tup (ea_cons (ek_ix (ek_lst (ea_cons (ek_int (ea_cons (ek_int (ea_nil (⟨(by walk_at "vlen"), ek_call c.tk G__law_next (hr.mono (by first | decide | exact Nat.le_refl _)) (ea_cons (ek_n c.toCn .z (ea_cons (ek_int (ea_nil (⟨_, _, _, _, _, j, rfl, (by first | exact g | exact get_at_set g | exact get_set2 g), ⟨by decide, by decide⟩, fun dg3 r3 n3 hd3 => ⟨_, _, _, .lst, rfl, (by first | exact pick2 hd1 | exact pick2 hd2 | exact pick2 hd3), ea_cons (ek_ix (ek_lst (ea_cons (ek_int (ea_cons (ek_int (ea_nil (⟨(by walk_at "vlen"), ek_call c.tk G__law_next (hr.mono (by first | decide | exact Nat.le_refl _)) (ea_cons (ek_n c.toCn .z (ea_cons (ek_int (ea_nil (⟨_, _, _, _, _, j, rfl, (by first | exact g | exact get_at_set g | exact get_set2 g), ⟨by decide, by decide⟩, fun dg2 r2 n2 hd2 => ⟨_, _, _, .lst, rfl, (by first | exact pick2 hd1 | exact pick2 hd2 | exact pick2 hd3), ea_cons (ek_ix (ek_lst (ea_cons (ek_int (ea_cons (ek_int (ea_nil (⟨(by walk_at "vlen"), ek_call c.tk G__law_next (hr.mono (by first | decide | exact Nat.le_refl _)) (ea_cons (ek_n c.toCn .z (ea_cons (ek_int (ea_nil (⟨_, _, _, _, _, j, rfl, (by first | exact g | exact get_at_set g | exact get_set2 g), ⟨by decide, by decide⟩, fun dg1 r1 n1 hd1 => ⟨_, _, _, .lst, rfl, (by first | exact pick2 hd1 | exact pick2 hd2 | exact pick2 hd3), ea_nil (⟨(by walk_at "vlen"), ?_⟩)⟩⟩)))))) (c.toCn.gl)⟩))))))) (fun _ _ => rfl))⟩⟩)))))) (c.toCn.gl)⟩))))))) (fun _ _ => rfl))⟩⟩)))))) (c.toCn.gl)⟩))))))) (fun _ _ => rfl)))))
  rw [List.set_set, List.set_set]
  have a1 : 1 ≤ pk2 1 9 dg3 ∧ pk2 1 9 dg3 ≤ 9 := by unfold pk2; split <;> omega
  have a2 : 0 ≤ pk2 0 8 dg2 ∧ pk2 0 8 dg2 ≤ 8 := by unfold pk2; split <;> omega
  have a3 : 1 ≤ pk2 1 3 dg1 ∧ pk2 1 3 dg1 ≤ 3 := by unfold pk2; split <;> omega
  obtain ⟨l, hl⟩ : ∃ l : Nat, pk2 1 3 dg1 = (l : Int) := ⟨(pk2 1 3 dg1).toNat, by omega⟩
  have h2 := h1 (pk2 1 9 dg3) (pk2 0 8 dg2) l
  rw [hl]
  exact h2 _ _ ⟨a1, a2, by omega, by omega⟩
/-! _law_asked of a model at its bounds -/
def S_asked_ok : SpD := fun ds L q _ => ∃ i m p l, ds = [.int i, mdD m p l, stD (firstS l)] ∧ (0 ≤ i ∧ i < 6) ∧ okMd m p l ∧ (i = 0 → q (stD (firstS l)) L) ∧ (i = 1 → ∀ r, q (.ref r) ((r, .lst ((allS m (firstS l) l).map spD)) :: L)) ∧ (i = 2 → q (.bl (misr (firstS l) (0, 0))) L) ∧
  (i = 3 → q (stD (behS p (firstS l) (0, 0))) L) ∧ (i = 4 → q (.bl (fenB m p l [firstS l])) L) ∧ (i = 5 → ∀ r, q (.ref r) ((r, .lst ([firstS l].map stD)) :: L))
theorem in_00 {m : Int} {x : Sd} {l : Nat} : ((0, 0) : Nat × Nat) ∈ allS m x l := by
  obtain ⟨r, hr⟩ := allS_head (m := m) (x := x) (l := l)
  rw [hr]
  exact List.mem_cons_self ..
def i2 (s : Nat × Nat) : Int × Int := ((s.1 : Int), (s.2 : Int))
theorem nt_i2 {s : Nat × Nat} : nt (i2 s) = s := by
  obtain ⟨a, b⟩ := s
  show ((a : Int).toNat, (b : Int).toNat) = (a, b)
  rw [Int.toNat_natCast, Int.toNat_natCast]
theorem mayI_all {m : Int} {x : Sd} {l : Nat} {s : Nat × Nat} (h : s ∈ allS m x l) : mayI m x l (i2 s) = true := by
  obtain ⟨h1, h2, h3, h4⟩ := allS_mem h
  unfold mayI may i2
  simp only [Int.toNat_natCast]
  rw [h3, h4, decide_eq_true ⟨⟨by omega, by omega⟩, by omega, by omega⟩]
  rfl
def WrRow (m p : Int) (l : Nat) (ss : Rw) : Prop := ∃ r s, ss = r ++ [s] ∧ Pth m p l r ∧ s ∈ allS m (go p l r) l ∧ misr (go p l r) s = true
theorem wk_00 {m p : Int} {l : Nat} {x : Sd} : Wk m p l x [(0, 0)] = some [x] := by
  rw [Wk_cons, show mayI m x l (0, 0) = true from mayI_all in_00, if_pos rfl]
  rfl
theorem b_asked_ok {ds : List D} {L : Lg} {q : D → Lg → Prop} {e : Xc → Lg → Prop} (c : Cf X (["which", "model", "stand"] : List Str) ([] : List Str) (defScope (top 40)) F0 (fun y _ L' => e y L')) (T : Tx X.K X.mg) (hr : Room 3 X.A)
    (G_first_stand : CalX X 2 "first_stand" (["model"] : List Str) S_first_stand) (G_steps_from : CalX X 2 "steps_from" (["model", "stand"] : List Str) S_steps_from) (G_is_wrong : CalX X 2 "is_wrong" (["model", "stand", "step"] : List Str) S_is_wrong) (G_next_stand : CalX X 2 "next_stand" (["model", "stand", "step"] : List Str) S_next_stand)
    (G_fence_stands : CalX X 3 "fence_stands" (["model", "stands"] : List Str) S_fence) (G_walk_of : CalX X 3 "walk_of" (["model", "steps"] : List Str) S_walk_of) (h : S_asked_ok ds L q e) :
    BK X F0 (defBody (top 40)) (ds.map some ++ List.replicate 0 none) L { nx := fun _ L' => q .non L', rt := q } := by
  obtain ⟨i, m, p, l, rfl, hi, hm, h1, h2, h3, h4, h5, h6⟩ := h
  refine bk_cons (sk_if (et_eqI (ek_n c.toCn .z (⟨_, rfl, ek_int (⟨_, rfl, ⟨fun ht => ?_, fun ht => ?_⟩⟩)⟩))))
  · obtain rfl : i = 0 := of_decide_eq_true ht
    refine bk_one (sk_ret (ek_call c.tk G_first_stand (hr.mono (by first | decide | exact Nat.le_refl _)) (ea_cons (ek_n c.toCn (.s .z) (ea_nil (⟨m, p, l, rfl, hm, ?_⟩)))) (c.toCn.gl)))
    exact h1 rfl
  · refine bk_nil ?_
    have i0 := of_decide_eq_false ht
    refine bk_cons (sk_if (et_eqI (ek_n c.toCn .z (⟨_, rfl, ek_int (⟨_, rfl, ⟨fun ht => ?_, fun ht => ?_⟩⟩)⟩))))
    · obtain rfl : i = 1 := of_decide_eq_true ht
      refine bk_one (sk_ret (ek_call c.tk G_steps_from (hr.mono (by first | decide | exact Nat.le_refl _)) (ea_cons (ek_n c.toCn (.s .z) (ea_cons (ek_n c.toCn (.s (.s .z)) (ea_nil (⟨m, p, l, firstS l, rfl, hm, firstS_ok, fun r => h2 rfl r⟩)))))) (c.toCn.gl)))
    · refine bk_nil ?_
      have i1 := of_decide_eq_false ht
      refine bk_cons (sk_if (et_eqI (ek_n c.toCn .z (⟨_, rfl, ek_int (⟨_, rfl, ⟨fun ht => ?_, fun ht => ?_⟩⟩)⟩))))
      · obtain rfl : i = 2 := of_decide_eq_true ht
        refine bk_one (sk_ret (ek_call c.tk G_is_wrong (hr.mono (by first | decide | exact Nat.le_refl _)) (ea_cons (ek_n c.toCn (.s .z) (ea_cons (ek_n c.toCn (.s (.s .z)) (ea_cons (ek_tup (ea_cons (ek_int (ea_cons (ek_int (ea_nil (⟨(by walk_at "vlen"), ea_nil (⟨m, p, l, firstS l, (0, 0), rfl, hm, .inl rfl, .inl rfl, ?_⟩)⟩)))))))))))) (c.toCn.gl)))
        exact h3 rfl
      · refine bk_nil ?_
        have i2 := of_decide_eq_false ht
        refine bk_cons (sk_if (et_eqI (ek_n c.toCn .z (⟨_, rfl, ek_int (⟨_, rfl, ⟨fun ht => ?_, fun ht => ?_⟩⟩)⟩))))
        · obtain rfl : i = 3 := of_decide_eq_true ht
          refine bk_one (sk_ret (ek_call c.tk G_next_stand (hr.mono (by first | decide | exact Nat.le_refl _)) (ea_cons (ek_n c.toCn (.s .z) (ea_cons (ek_n c.toCn (.s (.s .z)) (ea_cons (ek_tup (ea_cons (ek_int (ea_cons (ek_int (ea_nil (⟨(by walk_at "vlen"), ea_nil (⟨m, p, l, firstS l, (0, 0), rfl, hm, firstS_ok, ?_⟩)⟩)))))))))))) (c.toCn.gl)))
          exact h4 rfl
        · refine bk_nil ?_
          have i3 := of_decide_eq_false ht
          refine bk_cons (sk_if (et_eqI (ek_n c.toCn .z (⟨_, rfl, ek_int (⟨_, rfl, ⟨fun ht => ?_, fun ht => ?_⟩⟩)⟩))))
          · obtain rfl : i = 4 := of_decide_eq_true ht
            refine bk_one (sk_ret (ek_call c.tk G_fence_stands (hr.mono (by first | decide | exact Nat.le_refl _)) (ea_cons (ek_n c.toCn (.s .z) (ea_cons (ek_lst (ea_cons (ek_n c.toCn (.s (.s .z)) (ea_nil (⟨(by walk_at "vlen"), ea_nil (⟨m, p, l, _, [firstS l], rfl, fun _ => .lst, hm, (fun y hy => by rw [List.mem_singleton.mp hy]; exact firstS_ok), Nat.le_of_ble_eq_true rfl, ?_⟩)⟩)))))))) (c.toCn.gl)))
            exact h5 rfl
          · refine bk_nil ?_
            have i4 := of_decide_eq_false ht
            obtain rfl : i = 5 := by omega
            refine bk_cons (sk_if (et_eqI (ek_n c.toCn .z (⟨_, rfl, ek_int (⟨_, rfl, ⟨fun ht => ?_, fun ht => ?_⟩⟩)⟩))))
            · refine bk_one (sk_ret (ek_call c.tk G_walk_of (hr.mono (by first | decide | exact Nat.le_refl _)) (ea_cons (ek_n c.toCn (.s .z) (ea_cons (ek_lst (ea_cons (ek_tup (ea_cons (ek_int (ea_cons (ek_int (ea_nil (⟨(by walk_at "vlen"), ea_nil (⟨(by walk_at "vlen"), ea_nil (⟨m, p, l, _, [(0, 0)], [firstS l], rfl, (fun _ => .lst), hm, Nat.le_of_ble_eq_true rfl, wk_00, fun r => h6 rfl r⟩)⟩)⟩)))))))))))) (c.toCn.gl)))
            · cases ht
end
end K24


set_option Elab.async false
set_option linter.all false
set_option maxRecDepth 100000
set_option maxHeartbeats 4000000
set_option pp.deepTerms.threshold 16
namespace K24
open PySem PySem.Spec PyProof.Rows L2 Vs
local macro_rules | `(tactic| walk_at "vpos") => `(tactic| first | decide | omega)
local macro_rules | `(tactic| walk_at "vdiv") => `(tactic| first | exact ⟨by decide, by decide⟩ | (constructor <;> omega))
local macro_rules | `(tactic| walk_at "vpow") => `(tactic| exact ⟨by decide, by decide, by decide⟩)
local macro_rules | `(tactic| walk_at "vmul") => `(tactic| first | exact mulL ⟨by decide, by decide⟩ | exact mulR ⟨by decide, by decide⟩ | exact mulL (by constructor <;> omega) | exact mulR (by constructor <;> omega))
local macro_rules | `(tactic| walk_at "vlen") => `(tactic| first | exact sz_ok (Nat.le_of_ble_eq_true rfl) | exact sz_lt (Nat.le_of_ble_eq_true rfl) | (refine sz_ok ?_; simp only [List.length_append, List.length_cons, List.length_nil, List.length_map]; omega) | (refine sz_lt ?_; simp only [List.length_append, List.length_cons, List.length_nil, List.length_map]; omega))
local macro_rules | `(tactic| walk_at "vrng") => `(tactic| (refine ⟨?_, ?_⟩ <;> omega))
local macro_rules | `(tactic| walk_at "vix") => `(tactic| rfl)
local macro_rules | `(tactic| walk_at "vixn") => `(tactic| first | rfl | exact ixN_at (by omega) (by omega))
local macro_rules | `(tactic| walk_at "vkb") => `(tactic| decide +kernel)
local macro_rules | `(tactic| walk_at "vty") => `(tactic| first | exact .int | exact .bl | exact .lst | exact .str | exact .tup | exact .non | exact .own .z | exact tyd_as (by assumption))
local macro_rules | `(tactic| walk_at "vkit") => `(tactic| assumption)
local macro_rules | `(tactic| walk_at "vrep") => `(tactic| (refine ⟨by omega, by omega, ?_⟩; first | decide | (refine sz_ok ?_; simp only [List.length_cons, List.length_nil]; omega)))
section
variable {X : Cx} {F0 : Hp}
set_option pp.deepTerms.threshold 8
/-! _law_edge_good -/
def edF (l : Nat) : Sd := firstS l
def edL (m p : Int) (l : Nat) (r1 r5 : Addr) : List D := [stD (firstS l), .ref r1, .bl (misr (firstS l) (0, 0)), stD (behS p (firstS l) (0, 0)), .bl (fenB m p l [firstS l]), .ref r5]
def edG (m : Int) (l : Nat) (r1 r5 : Addr) (n : Nat) (L : Lg) : Lg := if n ≤ 1 then L else if n ≤ 5 then (r1, C.lst ((allS m (firstS l) l).map spD)) :: L else (r5, C.lst ([firstS l].map stD)) :: (r1, C.lst ((allS m (firstS l) l).map spD)) :: L
def EdP (m p : Int) (l : Nat) (L : Lg) (n : Nat) (acc : List D) (L' : Lg) : Prop := ∃ r1 r5, acc = (edL m p l r1 r5).take n ∧ L' = edG m l r1 r5 n L
theorem beh_ne {p : Int} {l : Nat} (hl : 1 ≤ l) : PyData.eqv (stP (behS p (firstS l) (0, 0))) (stP (firstS l)) = false := by
  obtain ⟨k, rfl⟩ : ∃ k, l = k + 1 := ⟨l - 1, by omega⟩
  unfold stP behS firstS
  simp [PyData.eqv, PyData.eqvAll, b01, opP, List.replicate_succ]
theorem beh_ne2 {p : Int} {l : Nat} (hl : 1 ≤ l) : behS p (firstS l) (0, 0) ≠ firstS l := fun h => by
  have := beh_ne (p := p) hl
  rw [h, SeqAt.eqv_refl _ (shp_stP _).1] at this
  cases this
theorem fen_edge {m p : Int} {l : Nat} (hl : 1 ≤ l) : fenB m p l [firstS l] = false := by
  cases h : fenB m p l [firstS l] with
  | false => rfl
  | true =>
    unfold fenB at h
    rw [Bool.and_eq_true] at h
    have h2 := List.all_eq_true.mp h.2 (firstS l) (List.mem_cons_self ..)
    have h3 := List.all_eq_true.mp h2 (0, 0) in_00
    rw [Bool.and_eq_true, decide_eq_true_eq, List.mem_singleton] at h3
    exact absurd h3.2 (beh_ne2 hl)
theorem st_refl (x : Sd) : PyData.eqv (stP x) (stP x) = true := SeqAt.eqv_refl _ (shp_stP x).1
theorem in_sp {ps : List (Nat × Nat)} {s : Nat × Nat} (h : s ∈ ps) : (ps.map spP).any (fun z => PyData.eqv z (spP s)) = true := by
  rw [List.any_map, List.any_eq_true]
  exact ⟨s, h, SeqAt.eqv_refl _ (shp_2 (k := 0) _ _).1⟩
def S_edge_good : SpD := fun ds L q _ => ∃ m p l, ds = [mdD m p l] ∧ okMd m p l ∧ q (.bl true) L
theorem b_edge_good {ds : List D} {L : Lg} {q : D → Lg → Prop} {e : Xc → Lg → Prop} (c : Cf X (["model", "first", "found"] : List Str) (["which"] : List Str) (defScope (top 44)) F0 (fun y _ L' => e y L')) (T : Tx X.K X.mg) (hr : Room 4 X.A)
    (G__law_first : CalX X 1 "_law_first" (["model"] : List Str) S_law_first) (G__law_asked : CalX X 4 "_law_asked" (["which", "model", "stand"] : List Str) S_asked_ok) (h : S_edge_good ds L q e) :
    BK X F0 (defBody (top 44)) (ds.map some ++ List.replicate 3 none) L { nx := fun _ L' => q .non L', rt := q } := by
  obtain ⟨m, p, l, rfl, hm, h1⟩ := h
  have hu := hr.units
  have hu65 : X.A.units + 65 < cLine := by have := hr.un; omega
  refine bk_cons (sk_set c.toCn (ek_call c.tk G__law_first (hr.mono (by first | decide | exact Nat.le_refl _)) (ea_cons (ek_n c.toCn .z (ea_nil (⟨m, p, l, rfl, hm, ⟨_, (.s .z), ?_⟩⟩)))) (c.toCn.gl)))
  refine bk_cons (sk_setLcO [("which", 3)] c.toCn c.calm (by decide +kernel) (ei_range1 T.no_range (c.toCn.gl) (ek_int (⟨_, rfl, (by walk_at "vrng"), ⟨EdP m p l L, ?_, ?_, ?_, fun acc L Dp hP hacc => ⟨_, (.s (.s .z)), ?_⟩⟩⟩))))
  · exact ⟨0, 0, rfl, rfl⟩
  · rw [rangeD_len]; decide
  · intro F1 n d acc Lc Dp hd hacc hP
    obtain ⟨hn, rfl⟩ := range_nat hd
    have hn : n < 6 := hn
    intro X' cb hX'
    obtain ⟨s0, H0, C0, cl, fp, rfl⟩ := hX'
    refine tb_n cb ⟨_, (.s (.s (.s .z))), fun X' cb hX' => ?_⟩
    obtain ⟨s0, H0, C0, cl, fp, rfl⟩ := hX'
    refine es_nil ⟨fun _ X' cb hX' => ?_, fun h => nomatch h⟩
    obtain ⟨s0, H0, C0, cl, fp, rfl⟩ := hX'
    refine ek_call takesZ0 G__law_asked (hr.mono (by first | decide | exact Nat.le_refl _)) (ea_cons (ek_b cb (.s (.s (.s .z))) (ea_cons (ek_b cb .z (ea_cons (ek_b cb (.s .z) (ea_nil (⟨0 + (n : Int), m, p, l, rfl, by omega, hm, fun h => ?_, fun h r => ?_, fun h => ?_, fun h => ?_, fun h => ?_, fun h r => ?_⟩)))))))) cb.gl
    · obtain rfl : n = 0 := by omega
      obtain ⟨r1, r5, rfl, rfl⟩ := hP
      exact ⟨_, rfl, r1, r5, rfl, rfl⟩
    · obtain rfl : n = 1 := by omega
      obtain ⟨r1, r5, rfl, rfl⟩ := hP
      exact ⟨_, rfl, r, r5, rfl, rfl⟩
    · obtain rfl : n = 2 := by omega
      obtain ⟨r1, r5, rfl, rfl⟩ := hP
      exact ⟨_, rfl, r1, r5, rfl, rfl⟩
    · obtain rfl : n = 3 := by omega
      obtain ⟨r1, r5, rfl, rfl⟩ := hP
      exact ⟨_, rfl, r1, r5, rfl, rfl⟩
    · obtain rfl : n = 4 := by omega
      obtain ⟨r1, r5, rfl, rfl⟩ := hP
      exact ⟨_, rfl, r1, r5, rfl, rfl⟩
    · obtain rfl : n = 5 := by omega
      obtain ⟨r1, r5, rfl, rfl⟩ := hP
      exact ⟨_, rfl, r1, r, rfl, rfl⟩
  rw [rangeD_len] at hP
  obtain ⟨r1, r5, rfl, rfl⟩ := hP
  have hmi : misr (firstS l) (0, 0) = false := rfl
  have hfe := fen_edge (m := m) (p := p) hm.2.2.1
  have hL : edL m p l r1 r5 = [stD (firstS l), .ref r1, .bl false, stD (behS p (firstS l) (0, 0)), .bl false, .ref r5] := by
    unfold edL
    rw [hmi, hfe]
  show BK X F0 _ [some (mdD m p l), some (stD (firstS l)), some (.ref Dp), none] ((Dp, C.lst (edL m p l r1 r5)) :: (r5, C.lst ([firstS l].map stD)) :: (r1, C.lst ((allS m (firstS l) l).map spD)) :: L) _
  rw [hL]
  refine bk_cons (sk_if (et_w (ew_or (et_neD hu (ek_ix (ek_n c.toCn (.s (.s .z)) (ek_int (⟨_, _, _, (.own .z), rfl, (by walk_at "vix"), ek_n c.toCn (.s .z) (⟨_, _, (by first | exact dpd_st _ | exact dpd_sp (0, 0) | exact .own (.s (.s .z)) (dpds_mp dpd_sp)), (by first | exact dpd_st _ | exact dpd_sp (0, 0) | exact .own (.s (.s .z)) (dpds_mp dpd_sp)), (by first | exact shp_ok (k := 2) (shp_stP _) (by decide) | exact shp_ok shp_sp (by decide) | exact shp_ok (k := 1) (shp_2 _ _) (by decide)), (by first | exact shp_ok (k := 2) (shp_stP _) (by decide) | exact shp_ok shp_sp (by decide) | exact shp_ok (k := 1) (shp_2 _ _) (by decide)), ⟨rfl, rfl⟩⟩)⟩))) (fun _ _ => rfl))) (fun hb => ew_or (et_notinD hu65 (ek_tup (ea_cons (ek_int (ea_cons (ek_int (ea_nil (⟨(by walk_at "vlen"), ek_ix (ek_n c.toCn (.s (.s .z)) (ek_int (⟨_, _, _, (.own .z), rfl, (by walk_at "vix"), ⟨_, _, (by first | exact dpd_st _ | exact dpd_sp (0, 0) | exact .own (.s (.s .z)) (dpds_mp dpd_sp)), (by first | exact dpd_st _ | exact dpd_sp (0, 0) | exact .own (.s (.s .z)) (dpds_mp dpd_sp)), (by first | exact shp_ok (k := 2) (shp_stP _) (by decide) | exact shp_ok shp_sp (by decide) | exact shp_ok (k := 1) (shp_2 _ _) (by decide)), (by first | exact shp_ok (k := 2) (shp_stP _) (by decide) | exact shp_ok shp_sp (by decide) | exact shp_ok (k := 1) (shp_2 _ _) (by decide)), ⟨_, rfl, ⟨rfl, rfl⟩⟩⟩⟩))) (fun _ _ => rfl)⟩)))))))) (fun hb => ew_or (et_isnotB (ek_ix (ek_n c.toCn (.s (.s .z)) (ek_int (⟨_, _, _, (.own .z), rfl, (by walk_at "vix"), ⟨_, rfl, ek_bl (⟨_, rfl, ⟨rfl, rfl⟩⟩)⟩⟩))) (fun _ _ => rfl))) (fun hb => et_or1 (et_isnotB (ek_ix (ek_n c.toCn (.s (.s .z)) (ek_int (⟨_, _, _, (.own .z), rfl, (by walk_at "vix"), ⟨_, rfl, ek_bl (⟨_, rfl, ⟨rfl, rfl⟩⟩)⟩⟩))) (fun _ _ => rfl)))) (⟨rfl, rfl⟩)) (⟨rfl, rfl⟩)) (⟨fun ht => ?_, fun ht => ?_⟩))))
  · exfalso
    rw [st_refl, in_sp in_00] at ht
    cases ht
  · refine bk_nil ?_
    refine bk_one (sk_retS (ek_and' (ek_neD hu (ek_ix (ek_n c.toCn (.s (.s .z)) (ek_int (⟨_, _, _, (.own .z), rfl, (by walk_at "vix"), ek_n c.toCn (.s .z) (⟨_, _, (by first | exact dpd_st _ | exact .own (.s .z) (dpds_st [firstS l]) | exact .lst (dpds_st [firstS l])), (by first | exact dpd_st _ | exact .own (.s .z) (dpds_st [firstS l]) | exact .lst (dpds_st [firstS l])), (by first | exact shp_ok (k := 2) (shp_stP _) (by decide) | exact shp_ok (shp_sts [firstS l]) (by decide)), (by first | exact shp_ok (k := 2) (shp_stP _) (by decide) | exact shp_ok (shp_sts [firstS l]) (by decide)), ⟨rfl, rfl⟩⟩)⟩))) (fun _ _ => rfl))) (fun hb => ek_and (ek_eqD hu (ek_ix (ek_n c.toCn (.s (.s .z)) (ek_int (⟨_, _, _, (.own .z), rfl, (by walk_at "vix"), ek_lst (ea_cons (ek_n c.toCn (.s .z) (ea_nil (⟨(by walk_at "vlen"), ⟨_, _, (by first | exact dpd_st _ | exact .own (.s .z) (dpds_st [firstS l]) | exact .lst (dpds_st [firstS l])), (by first | exact dpd_st _ | exact .own (.s .z) (dpds_st [firstS l]) | exact .lst (dpds_st [firstS l])), (by first | exact shp_ok (k := 2) (shp_stP _) (by decide) | exact shp_ok (shp_sts [firstS l]) (by decide)), (by first | exact shp_ok (k := 2) (shp_stP _) (by decide) | exact shp_ok (shp_sts [firstS l]) (by decide)), ⟨rfl, rfl⟩⟩⟩))))⟩))) (fun _ _ => rfl)))) (⟨_, .cons _ (.cons _ (.cons _ (.refl _))), ?_⟩)))
    rw [beh_ne hm.2.2.1, SeqAt.eqv_refl _ (shp_sts [firstS l]).1]
    exact h1
/-! the law -/
theorem no_safe {line : List Sd} (h : Safe 1 0 1 line) : False := by
  have := h.2.2.2 [(0, 0)] (fun k s hs => by
    match k, hs with
    | 0, hs =>
      obtain rfl := Option.some.inj hs
      exact ⟨in_00, rfl⟩) (0, 1) (by decide)
  exact absurd this (by decide)
def S_law : SpD := fun ds L q _ => ∃ ns : List Int, ds = [.lst (dI ns)] ∧ ns.length ≤ 63 ∧ ∀ L', q (.bl true) L'
theorem b_law {ds : List D} {LB : Lg} {q : D → Lg → Prop} {e : Xc → Lg → Prop} (c : Cf X (["script", "cell", "left", "model", "stand", "which"] : List Str) ([] : List Str) (defScope (top 45)) F0 (fun y _ L' => e y L')) (T : Tx X.K X.mg) (hr : Room 5 X.A)
    (G__law_left : CalX X 1 "_law_left" (["cell"] : List Str) S_law_left) (G__law_next : CalX X 1 "_law_next" (["left", "base"] : List Str) S_law_next) (G__law_off : CalX X 2 "_law_off" (["left"] : List Str) S_off) (G__law_first : CalX X 1 "_law_first" (["model"] : List Str) S_law_first)
    (G__law_refused : CalX X 5 "_law_refused" (["which", "model", "stand"] : List Str) S_refused) (G__law_edge : CalX X 2 "_law_edge" (["left"] : List Str) S_edge) (G__law_edge_good : CalX X 5 "_law_edge_good" (["model"] : List Str) S_edge_good) (G_shown : CalX X 3 "shown" (["model"] : List Str) S_shown) (h : S_law ds LB q e) :
    BK X F0 (defBody (top 45)) (ds.map some ++ List.replicate 5 none) LB { nx := fun _ L' => q .non L', rt := q } := by
  obtain ⟨ns, rfl, hns, h1⟩ := h
  have e1 : Vs.cutD (dI ns) none (some 30) = dI (ns.take 30) := cut_dI (n := 30) (by decide)
  have ecl : (ns.take 30).length ≤ 30 := List.length_take_le _ _
  refine bk_cons (sk_for c (ei_list (ek_cat (ek_sl (ek_n c.toCn .z (eo_n (eo_s (ek_int (⟨_, rfl, ⟨_, .lst, ek_lst (ea_cons (ek_int (ea_nil (⟨(by first | exact sz_ok (Nat.le_of_ble_eq_true rfl) | (refine sz_ok ?_; rw [e1, dI_len]; simp only [List.length_cons, List.length_nil, List.length_append]; omega)), ⟨_, _, .lst, .lst, (by first | exact sz_ok (Nat.le_of_ble_eq_true rfl) | (refine sz_ok ?_; rw [e1, dI_len]; simp only [List.length_cons, List.length_nil, List.length_append]; omega)), ⟨_, rfl, ⟨fun i Γ L' => ∃ w1 w2 w3 w4 w5, Γ = [some (.lst (dI ns)), w1, w2, w3, w4, w5], ?_, fun F1 c i d Γ L hd hP => ?_, fun Γ L hP => ?_⟩⟩⟩⟩))))⟩⟩)))))))))
  · exact ⟨_, _, _, _, _, rfl⟩
  · obtain ⟨w1, w2, w3, w4, w5, rfl⟩ := hP
    have hd2 : (dI (ns.take 30 ++ [0]))[i]? = some d := by
      rw [← hd, e1]
      unfold dI
      rw [List.map_append]
      rfl
    obtain ⟨v, hv2, rfl⟩ := dI_get hd2
    refine tg_n c.toCn ⟨_, (.s .z), ?_⟩
    refine bk_cons (sk_set c.toCn (ek_call c.tk G__law_left (hr.mono (by first | decide | exact Nat.le_refl _)) (ea_cons (ek_n c.toCn (.s .z) (ea_nil (⟨_, rfl, fun pl r0 m0 => ⟨_, (.s (.s .z)), ?_⟩⟩)))) (c.toCn.gl)))
    refine bk_cons (sk_set c.toCn (ek_call c.tk G__law_off (hr.mono (by first | decide | exact Nat.le_refl _)) (ea_cons (ek_n c.toCn (.s (.s .z)) (ea_nil (⟨pl, _, _, _, 0, rfl, .z, fun a b c' r1 m1 n1 hb => ⟨_, (.s (.s (.s .z))), ?_⟩⟩)))) (c.toCn.gl)))
    rw [List.set_cons_zero]
    refine bk_cons (sk_set c.toCn (ek_call c.tk G__law_first (hr.mono (by first | decide | exact Nat.le_refl _)) (ea_cons (ek_tup (ea_cons (ek_int (ea_cons (ek_int (ea_cons (ek_add (ek_int (⟨_, rfl, ek_call c.tk G__law_next (hr.mono (by first | decide | exact Nat.le_refl _)) (ea_cons (ek_n c.toCn (.s (.s .z)) (ea_cons (ek_int (ea_nil (⟨_, _, _, _, _, 0, rfl, .z, ⟨by decide, by decide⟩, fun dg r n hd => ⟨_, rfl, ea_nil (⟨(by walk_at "vlen"), ea_nil (⟨1, 0, (1 + dg).toNat, (by unfold mdD; rw [show (((1 + dg).toNat : Nat) : Int) = 1 + dg by omega]), ⟨⟨by decide, by decide⟩, ⟨by decide, by decide⟩, by omega, by omega⟩, ⟨_, (.s (.s (.s (.s .z)))), ?_⟩⟩)⟩)⟩⟩)))))) (c.toCn.gl)⟩)))))))))) (c.toCn.gl)))
    rw [List.set_cons_zero]
    refine bk_cons (sk_for c (ei_range1 T.no_range (c.toCn.gl) (ek_int (⟨_, rfl, (by walk_at "vrng"), ⟨fun i Γ L' => ∃ w6, Γ = [some (.lst (dI ns)), some (.int v), some (.ref pl), some (mdI a b c'), some (stD (firstS (1 + dg).toNat)), w6] ∧ ∃ x1 x2 x3, L' = (pl, C.lst (dI [x1, x2, x3])) :: L, ?_, fun F1 c i d Γ L hd hP => ?_, fun Γ L hP => ?_⟩⟩))))
    · exact ⟨_, rfl, _, _, _, rfl⟩
    · obtain ⟨w6, rfl, x1, x2, x3, rfl⟩ := hP
      obtain ⟨hi, rfl⟩ := range_nat hd
      have hi : i < 7 := hi
      refine tg_n c.toCn ⟨_, (.s (.s (.s (.s (.s .z))))), ?_⟩
      refine bk_one (sk_if (et_not (et_v (ek_call c.tk G__law_refused (hr.mono (by first | decide | exact Nat.le_refl _)) (ea_cons (ek_n c.toCn (.s (.s (.s (.s (.s .z))))) (ea_cons (ek_n c.toCn (.s (.s (.s .z))) (ea_cons (ek_n c.toCn (.s (.s (.s (.s .z)))) (ea_nil (⟨_, a, b, c', _, rfl, by omega, hb, ⟨_, rfl, ⟨fun ht => ?_, fun ht => ?_⟩⟩⟩)))))))) (c.toCn.gl)))))
      · cases ht
      · exact bk_nil ⟨_, rfl, _, _, _, rfl⟩
    · obtain ⟨w6, rfl, x1, x2, x3, rfl⟩ := hP
      refine bk_one (sk_if (et_not (et_v (ek_call c.tk G__law_edge_good (hr.mono (by first | decide | exact Nat.le_refl _)) (ea_cons (ek_call c.tk G__law_edge (hr.mono (by first | decide | exact Nat.le_refl _)) (ea_cons (ek_n c.toCn (.s (.s .z)) (ea_nil (⟨pl, _, _, _, 0, rfl, .z, fun m p l r9 n9 hm => ea_nil (⟨m, p, l, rfl, hm, ⟨_, rfl, ⟨fun ht => ?_, fun ht => ?_⟩⟩⟩)⟩)))) (c.toCn.gl))) (c.toCn.gl)))))
      · cases ht
      · exact bk_nil ⟨_, _, _, _, _, rfl⟩
  · obtain ⟨w1, w2, w3, w4, w5, rfl⟩ := hP
    have w1' : decide (("safe" : Str) ∈ (["safe", "wrong"] : List Str)) = true := by decide +kernel
    have w2' : decide (("wrong" : Str) ∈ (["safe", "wrong"] : List Str)) = true := by decide +kernel
    refine bk_one (sk_ret (ek_andv (ek_eqS (ek_ixT (ek_call c.tk G_shown (hr.mono (by first | decide | exact Nat.le_refl _)) (ea_cons (ek_tup (ea_cons (ek_int (ea_cons (ek_int (ea_cons (ek_int (ea_nil (⟨(by walk_at "vlen"), ea_nil (⟨_, _, _, rfl, ⟨⟨by decide, by decide⟩, ⟨by decide, by decide⟩, by decide, by decide⟩, fun r line hs => ek_int (⟨_, _, _, rfl, rfl, (by walk_at "vix"), ⟨_, rfl, ek_str (⟨_, rfl, ⟨_, rfl, (fun _ => ek_and (ek_inS (ek_ixT (ek_call c.tk G_shown (hr.mono (by first | decide | exact Nat.le_refl _)) (ea_cons (ek_tup (ea_cons (ek_int (ea_cons (ek_int (ea_cons (ek_int (ea_nil (⟨(by walk_at "vlen"), ea_nil (⟨_, _, _, rfl, ⟨⟨by decide, by decide⟩, ⟨by decide, by decide⟩, by decide, by decide⟩, fun r line hs => ek_int (⟨_, _, _, rfl, rfl, (by walk_at "vix"), ⟨_, rfl, ek_lst (ea_cons (ek_str (ea_cons (ek_str (ea_nil (⟨(by walk_at "vlen"), ⟨(["safe", "wrong"] : List Str), Or.inl .lst, ?_⟩⟩))))))⟩⟩), fun r ss hw => ek_int (⟨_, _, _, rfl, rfl, (by walk_at "vix"), ⟨_, rfl, ek_lst (ea_cons (ek_str (ea_cons (ek_str (ea_nil (⟨(by walk_at "vlen"), ⟨(["safe", "wrong"] : List Str), Or.inl .lst, ?_⟩⟩))))))⟩⟩)⟩)⟩)))))))))) (c.toCn.gl)) (fun _ _ => rfl)))), (fun hb => by first | exact (no_safe hs).elim | exact absurd hb (by decide))⟩⟩)⟩⟩), fun r ss hw => ek_int (⟨_, _, _, rfl, rfl, (by walk_at "vix"), ⟨_, rfl, ek_str (⟨_, rfl, ⟨_, rfl, (fun _ => ek_and (ek_inS (ek_ixT (ek_call c.tk G_shown (hr.mono (by first | decide | exact Nat.le_refl _)) (ea_cons (ek_tup (ea_cons (ek_int (ea_cons (ek_int (ea_cons (ek_int (ea_nil (⟨(by walk_at "vlen"), ea_nil (⟨_, _, _, rfl, ⟨⟨by decide, by decide⟩, ⟨by decide, by decide⟩, by decide, by decide⟩, fun r line hs => ek_int (⟨_, _, _, rfl, rfl, (by walk_at "vix"), ⟨_, rfl, ek_lst (ea_cons (ek_str (ea_cons (ek_str (ea_nil (⟨(by walk_at "vlen"), ⟨(["safe", "wrong"] : List Str), Or.inl .lst, ?_⟩⟩))))))⟩⟩), fun r ss hw => ek_int (⟨_, _, _, rfl, rfl, (by walk_at "vix"), ⟨_, rfl, ek_lst (ea_cons (ek_str (ea_cons (ek_str (ea_nil (⟨(by walk_at "vlen"), ⟨(["safe", "wrong"] : List Str), Or.inl .lst, ?_⟩⟩))))))⟩⟩)⟩)⟩)))))))))) (c.toCn.gl)) (fun _ _ => rfl)))), (fun hb => by first | exact (no_safe hs).elim | exact absurd hb (by decide))⟩⟩)⟩⟩)⟩)⟩)))))))))) (c.toCn.gl)) (fun _ _ => rfl)))))
    · exact (no_safe (by assumption)).elim
    · exact (no_safe (by assumption)).elim
    · rw [w1']
      exact h1 _
    · rw [w2']
      exact h1 _
end
end K24


set_option Elab.async false
set_option linter.all false
set_option maxRecDepth 100000
set_option maxHeartbeats 4000000
set_option pp.deepTerms.threshold 16
namespace K24
open PySem PySem.Spec PyProof.Rows L2 Vs
/-! ### the head and the end -/
abbrev R : PySem.W.OpenRow := PySem.W.OpenLaw.row PySem.Challenge.rw_stormpost_k24_models_refused
def fn : List He.DefD := [dd "look_model" (top 21), dd "first_stand" (top 22), dd "takes_from" (top 23), dd "hears_from" (top 24), dd "steps_from" (top 25), dd "is_wrong" (top 26), dd "moved" (top 27), dd "next_stand" (top 28), dd "steps_to" (top 30), dd "shown" (top 31), dd "fence_stands" (top 32), dd "walk_of" (top 33), dd "_law_left" (top 36), dd "_law_next" (top 37), dd "_law_first" (top 39), dd "_law_kinds" (top 38), dd "_law_asked" (top 40), dd "_law_refused" (top 41), dd "_law_off" (top 42), dd "_law_edge" (top 43), dd "_law_edge_good" (top 44), dd "law" (top 45)]
def fa : List He.Fa := [.glo "look_model", .glo "first_stand", .glo "takes_from", .glo "hears_from", .glo "steps_from", .glo "is_wrong", .glo "moved", .glo "next_stand", .glo "steps_to", .glo "shown", .glo "fence_stands", .glo "walk_of", .glo "_law_left", .glo "_law_next", .glo "_law_first", .glo "_law_kinds", .glo "_law_asked", .glo "_law_refused", .glo "_law_off", .glo "_law_edge", .glo "_law_edge_good", .glo "law", .glo "PostError", .exc "PostError", .glo "BadModel", .exc "BadModel", .glo "BadSign", .exc "BadSign", .glo "BadCell", .exc "BadCell", .glo "BadMeasure", .exc "BadMeasure", .glo "BadFate", .exc "BadFate", .glo "NoLink", .exc "NoLink", .glo "BadPiece", .exc "BadPiece", .glo "BadLetter", .exc "BadLetter", .glo "BadNews", .exc "BadNews", .glo "BadHouse", .exc "BadHouse", .glo "BadName", .exc "BadName", .glo "NoStream", .exc "NoStream", .glo "NoAsk", .exc "NoAsk", .glo "BadNet", .exc "BadNet", .glo "BadText", .int "MOST_NUMBERS" 9, .int "MOST_PAUSE" 8, .int "MOST_LATE" 3, .free "enumerate", .free "range", .free "len", .free "int", .free "max", .free "tuple", .free "list", .free "isinstance", .free "str", .free "bool", .free "all", .free "reversed", .free "ValueError", .exm "BadModel" "PostError" true]
def ex (K : PySem.W.Frag) : Bool := (excCB K "BadModel" && (kitB1 K "BadModel" "BadSign" false && (kitB1 K "BadModel" "BadCell" false && (kitB1 K "BadModel" "BadMeasure" false && (kitB1 K "BadModel" "BadFate" false && (kitB1 K "BadModel" "BadModel" true && (kitB1 K "BadModel" "NoLink" false && (kitB1 K "BadModel" "BadPiece" false && (kitB1 K "BadModel" "BadLetter" false && (kitB1 K "BadModel" "BadNews" false && (kitB1 K "BadModel" "BadHouse" false && (kitB1 K "BadModel" "BadName" false && (kitB1 K "BadModel" "NoStream" false && (kitB1 K "BadModel" "NoAsk" false && (kitB1 K "BadModel" "BadNet" false && (kitB1 K "BadModel" "BadText" false && (kitB2 K "BadModel" "ValueError" true && true)))))))))))))))))
abbrev hk : PySem.W.Hook := hookE 6 fa fn ex
def ob (s : PySem.W.SharedT) : AlE := obsE 6 fa fn ex (HandSHeadRun.getT s)
theorem ob_eq (s : PySem.W.SharedT) : ob s = hk.obs s.abs := obsE_eq (HandSHeadRun.getT_eq s)
def loose : List Str := (("PostError" : Str) :: ("BadSign" : Str) :: ("BadCell" : Str) :: ("BadMeasure" : Str) :: ("BadFate" : Str) :: ("BadModel" : Str) :: ("NoLink" : Str) :: ("BadPiece" : Str) :: ("BadLetter" : Str) :: ("BadNews" : Str) :: ("BadHouse" : Str) :: ("BadName" : Str) :: ("NoStream" : Str) :: ("NoAsk" : Str) :: ("BadNet" : Str) :: ("BadText" : Str) :: ("MOST_NUMBERS" : Str) :: ("MOST_PAUSE" : Str) :: ("MOST_LATE" : Str) :: ("look_model" : Str) :: ("first_stand" : Str) :: ("takes_from" : Str) :: ("hears_from" : Str) :: ("steps_from" : Str) :: ("is_wrong" : Str) :: ("moved" : Str) :: ("next_stand" : Str) :: ("steps_to" : Str) :: ("shown" : Str) :: ("fence_stands" : Str) :: ("walk_of" : Str) :: ("_law_cell" : Str) :: ("_law_left" : Str) :: ("_law_next" : Str) :: ("_law_kinds" : Str) :: [] : List Str) ++ (("_law_first" : Str) :: ("_law_asked" : Str) :: ("_law_refused" : Str) :: ("_law_off" : Str) :: ("_law_edge" : Str) :: ("_law_edge_good" : Str) :: [] : List Str)
theorem run (w : World) : HandSHeadRun.RunEq R (PySem.W.view R.prog [45]) hk ob 9000 loose w := by
  intro os
  kernel_rfl
theorem tx_of {K : PySem.W.Frag} {h : Heap} {mg : Str → Option Value} (X : K.In h) (G : h.Ns mainGlobals mg) (c : SaysE fa fn ex K) : Tx K mg := by
  have f := fun (i : Nat) (q : He.Fa) (hq : fa[i]? = some q) => c.d.fact i hq
  have e := c.ex
  unfold ex at e
  obtain ⟨e0, e⟩ := He.ba e
  obtain ⟨e1, e⟩ := He.ba e
  obtain ⟨e2, e⟩ := He.ba e
  obtain ⟨e3, e⟩ := He.ba e
  obtain ⟨e4, e⟩ := He.ba e
  obtain ⟨e5, e⟩ := He.ba e
  obtain ⟨e6, e⟩ := He.ba e
  obtain ⟨e7, e⟩ := He.ba e
  obtain ⟨e8, e⟩ := He.ba e
  obtain ⟨e9, e⟩ := He.ba e
  obtain ⟨e10, e⟩ := He.ba e
  obtain ⟨e11, e⟩ := He.ba e
  obtain ⟨e12, e⟩ := He.ba e
  obtain ⟨e13, e⟩ := He.ba e
  obtain ⟨e14, e⟩ := He.ba e
  obtain ⟨e15, e⟩ := He.ba e
  obtain ⟨e16, e⟩ := He.ba e
  exact { PostError := exF_of X G (f 22 _ rfl) (f 23 _ rfl),
          BadModel := exF_of X G (f 24 _ rfl) (f 25 _ rfl),
          BadSign := exF_of X G (f 26 _ rfl) (f 27 _ rfl),
          BadCell := exF_of X G (f 28 _ rfl) (f 29 _ rfl),
          BadMeasure := exF_of X G (f 30 _ rfl) (f 31 _ rfl),
          BadFate := exF_of X G (f 32 _ rfl) (f 33 _ rfl),
          NoLink := exF_of X G (f 34 _ rfl) (f 35 _ rfl),
          BadPiece := exF_of X G (f 36 _ rfl) (f 37 _ rfl),
          BadLetter := exF_of X G (f 38 _ rfl) (f 39 _ rfl),
          BadNews := exF_of X G (f 40 _ rfl) (f 41 _ rfl),
          BadHouse := exF_of X G (f 42 _ rfl) (f 43 _ rfl),
          BadName := exF_of X G (f 44 _ rfl) (f 45 _ rfl),
          NoStream := exF_of X G (f 46 _ rfl) (f 47 _ rfl),
          NoAsk := exF_of X G (f 48 _ rfl) (f 49 _ rfl),
          BadNet := exF_of X G (f 50 _ rfl) (f 51 _ rfl),
          BadText := ⟨He.glo_ok X G (f 52 _ rfl)⟩,
          MOST_NUMBERS := He.int_ok X G (f 53 _ rfl),
          MOST_PAUSE := He.int_ok X G (f 54 _ rfl),
          MOST_LATE := He.int_ok X G (f 55 _ rfl),
          no_enumerate := He.free_ok X G (f 56 _ rfl),
          no_range := He.free_ok X G (f 57 _ rfl),
          no_len := He.free_ok X G (f 58 _ rfl),
          no_int := He.free_ok X G (f 59 _ rfl),
          no_max := He.free_ok X G (f 60 _ rfl),
          no_tuple := He.free_ok X G (f 61 _ rfl),
          no_list := He.free_ok X G (f 62 _ rfl),
          no_isinstance := He.free_ok X G (f 63 _ rfl),
          no_str := He.free_ok X G (f 64 _ rfl),
          no_bool := He.free_ok X G (f 65 _ rfl),
          no_all := He.free_ok X G (f 66 _ rfl),
          no_reversed := He.free_ok X G (f 67 _ rfl),
          no_ValueError := He.free_ok X G (f 68 _ rfl),
          exm_BadModel_PostError := He.exm_ok (f 69 _ rfl),
          hX_BadModel := excCB_ok e0,
          k_BadModel_BadSign := of_decide_eq_true e1,
          k_BadModel_BadCell := of_decide_eq_true e2,
          k_BadModel_BadMeasure := of_decide_eq_true e3,
          k_BadModel_BadFate := of_decide_eq_true e4,
          k_BadModel_BadModel := of_decide_eq_true e5,
          k_BadModel_NoLink := of_decide_eq_true e6,
          k_BadModel_BadPiece := of_decide_eq_true e7,
          k_BadModel_BadLetter := of_decide_eq_true e8,
          k_BadModel_BadNews := of_decide_eq_true e9,
          k_BadModel_BadHouse := of_decide_eq_true e10,
          k_BadModel_BadName := of_decide_eq_true e11,
          k_BadModel_NoStream := of_decide_eq_true e12,
          k_BadModel_NoAsk := of_decide_eq_true e13,
          k_BadModel_BadNet := of_decide_eq_true e14,
          k_BadModel_BadText := of_decide_eq_true e15,
          k_BadModel_ValueError := of_decide_eq_true e16 }
theorem facts {P : Program} {w : World} {K : PySem.W.Frag} {h : Heap} {mg : Str → Option Value} {f : Addr} (X : K.In h) (G : h.Ns mainGlobals mg) (hfa : mg ("law" : Str) = some (.ref f)) (c : SaysE fa fn ex K) :
    ∃ fd : FuncData, (∀ (s : Shared) (v : Value), BindsTo s fd ⟨[v], []⟩ [("script", v)]) ∧ ∀ base : Heap, K.In base → base.Ns mainGlobals mg → FnOk P w K mg base (L2N.CX P w) 6 f fd ["script"] (spOf K K24.S_law) := by
  have T := tx_of X G c
  obtain ⟨d0, D0⟩ : ∃ fd, FunX K "look_model" (top 21) fd := c.d.def_ 0 (d := dd "look_model" (top 21)) rfl
  obtain ⟨d1, D1⟩ : ∃ fd, FunX K "first_stand" (top 22) fd := c.d.def_ 1 (d := dd "first_stand" (top 22)) rfl
  obtain ⟨d2, D2⟩ : ∃ fd, FunX K "takes_from" (top 23) fd := c.d.def_ 2 (d := dd "takes_from" (top 23)) rfl
  obtain ⟨d3, D3⟩ : ∃ fd, FunX K "hears_from" (top 24) fd := c.d.def_ 3 (d := dd "hears_from" (top 24)) rfl
  obtain ⟨d4, D4⟩ : ∃ fd, FunX K "steps_from" (top 25) fd := c.d.def_ 4 (d := dd "steps_from" (top 25)) rfl
  obtain ⟨d5, D5⟩ : ∃ fd, FunX K "is_wrong" (top 26) fd := c.d.def_ 5 (d := dd "is_wrong" (top 26)) rfl
  obtain ⟨d6, D6⟩ : ∃ fd, FunX K "moved" (top 27) fd := c.d.def_ 6 (d := dd "moved" (top 27)) rfl
  obtain ⟨d7, D7⟩ : ∃ fd, FunX K "next_stand" (top 28) fd := c.d.def_ 7 (d := dd "next_stand" (top 28)) rfl
  obtain ⟨d8, D8⟩ : ∃ fd, FunX K "steps_to" (top 30) fd := c.d.def_ 8 (d := dd "steps_to" (top 30)) rfl
  obtain ⟨d9, D9⟩ : ∃ fd, FunX K "shown" (top 31) fd := c.d.def_ 9 (d := dd "shown" (top 31)) rfl
  obtain ⟨d10, D10⟩ : ∃ fd, FunX K "fence_stands" (top 32) fd := c.d.def_ 10 (d := dd "fence_stands" (top 32)) rfl
  obtain ⟨d11, D11⟩ : ∃ fd, FunX K "walk_of" (top 33) fd := c.d.def_ 11 (d := dd "walk_of" (top 33)) rfl
  obtain ⟨d12, D12⟩ : ∃ fd, FunX K "_law_left" (top 36) fd := c.d.def_ 12 (d := dd "_law_left" (top 36)) rfl
  obtain ⟨d13, D13⟩ : ∃ fd, FunX K "_law_next" (top 37) fd := c.d.def_ 13 (d := dd "_law_next" (top 37)) rfl
  obtain ⟨d14, D14⟩ : ∃ fd, FunX K "_law_first" (top 39) fd := c.d.def_ 14 (d := dd "_law_first" (top 39)) rfl
  obtain ⟨d15, D15⟩ : ∃ fd, FunX K "_law_kinds" (top 38) fd := c.d.def_ 15 (d := dd "_law_kinds" (top 38)) rfl
  obtain ⟨d16, D16⟩ : ∃ fd, FunX K "_law_asked" (top 40) fd := c.d.def_ 16 (d := dd "_law_asked" (top 40)) rfl
  obtain ⟨d17, D17⟩ : ∃ fd, FunX K "_law_refused" (top 41) fd := c.d.def_ 17 (d := dd "_law_refused" (top 41)) rfl
  obtain ⟨d18, D18⟩ : ∃ fd, FunX K "_law_off" (top 42) fd := c.d.def_ 18 (d := dd "_law_off" (top 42)) rfl
  obtain ⟨d19, D19⟩ : ∃ fd, FunX K "_law_edge" (top 43) fd := c.d.def_ 19 (d := dd "_law_edge" (top 43)) rfl
  obtain ⟨d20, D20⟩ : ∃ fd, FunX K "_law_edge_good" (top 44) fd := c.d.def_ 20 (d := dd "_law_edge_good" (top 44)) rfl
  obtain ⟨d21, D21⟩ : ∃ fd, FunX K "law" (top 45) fd := c.d.def_ 21 (d := dd "law" (top 45)) rfl
  have g := fun (i : Nat) (x : Str) (hq : fa[i]? = some (.glo x)) => He.glo_ok X G (c.d.fact i hq)
  have e := hfa.symm.trans (g 21 _ rfl)
  cases e
  have b := FunD.bindsA (ps := ["script"]) D21 fun _ _ _ _ _ _ us hl => match us, hl with | [_], _ => rfl
  refine ⟨d21, fun s v => b s [v] rfl, fun base _ _ => ?_⟩
  have C_model0 : Cal P w K mg base 1 "look_model" (["model"] : List Str) S_look_model := cal_of (N := (["model", "many", "pause", "late"] : List Str)) (Nc := ([] : List Str)) D0 (g 0 _ rfl) ⟨rfl, rfl, rfl, by decide +kernel, rfl, by decide +kernel, by decide +kernel⟩ (by decide +kernel)
    (D0.bindsN fun _ _ _ _ _ _ us hl => match us, hl with | [_], _ => rfl) (fun ds L q e h => by first | (obtain ⟨rfl, _⟩ := h; rfl) | (obtain ⟨_, rfl, _⟩ := h; rfl) | (obtain ⟨_, _, rfl, _⟩ := h; rfl) | (obtain ⟨_, _, _, rfl, _⟩ := h; rfl) | (obtain ⟨_, _, _, _, rfl, _⟩ := h; rfl) | (obtain ⟨_, _, _, _, _, rfl, _⟩ := h; rfl) | (obtain ⟨_, _, _, _, _, _, rfl, _⟩ := h; rfl) | (obtain ⟨_, _, _, _, _, _, _, rfl, _⟩ := h; rfl) | (obtain ⟨_, _, _, _, _, _, _, _, rfl, _⟩ := h; rfl) | (obtain ⟨_, _, _, _, _, _, _, _, _, rfl, _⟩ := h; rfl) | (obtain ⟨_, _, _, _, _, _, _, _, _, _, rfl, _⟩ := h; rfl) | (obtain ⟨_, _, _, _, _, _, _, _, _, _, _, rfl, _⟩ := h; rfl) | (obtain ⟨_, _, _, _, _, _, _, _, _, _, _, _, rfl, _⟩ := h; rfl) | (obtain ⟨_, _, _, _, _, _, _, _, _, _, _, _, _, rfl, _⟩ := h; rfl) | (obtain ⟨_, _, _, _, _, _, _, _, _, _, _, _, _, _, rfl, _⟩ := h; rfl) | (obtain ⟨_, _, _, _, _, _, _, _, _, _, _, _, _, _, _, rfl, _⟩ := h; rfl) | (obtain ⟨_, _, _, _, _, _, _, _, _, _, _, _, _, _, _, _, rfl, _⟩ := h; rfl) | (obtain ⟨_, _, _, _, _, _, _, _, _, _, _, _, _, _, _, _, _, rfl, _⟩ := h; rfl) | (obtain ⟨_, _, _, _, _, _, _, _, _, _, _, _, _, _, _, _, _, _, rfl, _⟩ := h; rfl) | (obtain ⟨_, _, _, _, _, _, _, _, _, _, _, _, _, _, _, _, _, _, _, rfl, _⟩ := h; rfl) | (obtain ⟨_, _, _, _, _, _, _, _, _, _, _, _, _, _, _, _, _, _, _, _, rfl, _⟩ := h; rfl) | (obtain ⟨_, _, _, _, _, _, _, _, _, _, _, _, _, _, _, _, _, _, _, _, _, rfl, _⟩ := h; rfl) | (obtain ⟨_, _, _, _, _, _, _, _, _, _, _, _, _, _, _, _, _, _, _, _, _, _, rfl, _⟩ := h; rfl) | (obtain ⟨_, _, _, _, _, _, _, _, _, _, _, _, _, _, _, _, _, _, _, _, _, _, _, rfl, _⟩ := h; rfl) | (obtain ⟨_, _, _, _, _, _, _, _, _, _, _, _, _, _, _, _, _, _, _, _, _, _, _, _, rfl, _⟩ := h; rfl) | (obtain ⟨_, _, _, _, _, _, _, _, _, _, _, _, _, _, _, _, _, _, _, _, _, _, _, _, _, rfl, _⟩ := h; rfl)) (fun X F0 ds L q e h1 h2 h3 h4 h5 cf hr hS => by subst h1 h2 h3 h4 h5; exact b_look_model cf T hS)
  have C_first : Cal P w K mg base 2 "first_stand" (["model"] : List Str) S_first_stand := cal_of (N := (["model", "none"] : List Str)) (Nc := ([] : List Str)) D1 (g 1 _ rfl) ⟨rfl, rfl, rfl, by decide +kernel, rfl, by decide +kernel, by decide +kernel⟩ (by decide +kernel)
    (D1.bindsN fun _ _ _ _ _ _ us hl => match us, hl with | [_], _ => rfl) (fun ds L q e h => by first | (obtain ⟨rfl, _⟩ := h; rfl) | (obtain ⟨_, rfl, _⟩ := h; rfl) | (obtain ⟨_, _, rfl, _⟩ := h; rfl) | (obtain ⟨_, _, _, rfl, _⟩ := h; rfl) | (obtain ⟨_, _, _, _, rfl, _⟩ := h; rfl) | (obtain ⟨_, _, _, _, _, rfl, _⟩ := h; rfl) | (obtain ⟨_, _, _, _, _, _, rfl, _⟩ := h; rfl) | (obtain ⟨_, _, _, _, _, _, _, rfl, _⟩ := h; rfl) | (obtain ⟨_, _, _, _, _, _, _, _, rfl, _⟩ := h; rfl) | (obtain ⟨_, _, _, _, _, _, _, _, _, rfl, _⟩ := h; rfl) | (obtain ⟨_, _, _, _, _, _, _, _, _, _, rfl, _⟩ := h; rfl) | (obtain ⟨_, _, _, _, _, _, _, _, _, _, _, rfl, _⟩ := h; rfl) | (obtain ⟨_, _, _, _, _, _, _, _, _, _, _, _, rfl, _⟩ := h; rfl) | (obtain ⟨_, _, _, _, _, _, _, _, _, _, _, _, _, rfl, _⟩ := h; rfl) | (obtain ⟨_, _, _, _, _, _, _, _, _, _, _, _, _, _, rfl, _⟩ := h; rfl) | (obtain ⟨_, _, _, _, _, _, _, _, _, _, _, _, _, _, _, rfl, _⟩ := h; rfl) | (obtain ⟨_, _, _, _, _, _, _, _, _, _, _, _, _, _, _, _, rfl, _⟩ := h; rfl) | (obtain ⟨_, _, _, _, _, _, _, _, _, _, _, _, _, _, _, _, _, rfl, _⟩ := h; rfl) | (obtain ⟨_, _, _, _, _, _, _, _, _, _, _, _, _, _, _, _, _, _, rfl, _⟩ := h; rfl) | (obtain ⟨_, _, _, _, _, _, _, _, _, _, _, _, _, _, _, _, _, _, _, rfl, _⟩ := h; rfl) | (obtain ⟨_, _, _, _, _, _, _, _, _, _, _, _, _, _, _, _, _, _, _, _, rfl, _⟩ := h; rfl) | (obtain ⟨_, _, _, _, _, _, _, _, _, _, _, _, _, _, _, _, _, _, _, _, _, rfl, _⟩ := h; rfl) | (obtain ⟨_, _, _, _, _, _, _, _, _, _, _, _, _, _, _, _, _, _, _, _, _, _, rfl, _⟩ := h; rfl) | (obtain ⟨_, _, _, _, _, _, _, _, _, _, _, _, _, _, _, _, _, _, _, _, _, _, _, rfl, _⟩ := h; rfl) | (obtain ⟨_, _, _, _, _, _, _, _, _, _, _, _, _, _, _, _, _, _, _, _, _, _, _, _, rfl, _⟩ := h; rfl) | (obtain ⟨_, _, _, _, _, _, _, _, _, _, _, _, _, _, _, _, _, _, _, _, _, _, _, _, _, rfl, _⟩ := h; rfl)) (fun X F0 ds L q e h1 h2 h3 h4 h5 cf hr hS => by subst h1 h2 h3 h4 h5; exact b_first_stand cf T hr C_model0 hS)
  have C_takes : Cal P w K mg base 1 "takes_from" (["model", "stand"] : List Str) S_takes_from := cal_of (N := (["model", "stand", "ticks", "ago", "entry"] : List Str)) (Nc := ([] : List Str)) D2 (g 2 _ rfl) ⟨rfl, rfl, rfl, by decide +kernel, rfl, by decide +kernel, by decide +kernel⟩ (by decide +kernel)
    (D2.bindsN fun _ _ _ _ _ _ us hl => match us, hl with | [_, _], _ => rfl) (fun ds L q e h => by first | (obtain ⟨rfl, _⟩ := h; rfl) | (obtain ⟨_, rfl, _⟩ := h; rfl) | (obtain ⟨_, _, rfl, _⟩ := h; rfl) | (obtain ⟨_, _, _, rfl, _⟩ := h; rfl) | (obtain ⟨_, _, _, _, rfl, _⟩ := h; rfl) | (obtain ⟨_, _, _, _, _, rfl, _⟩ := h; rfl) | (obtain ⟨_, _, _, _, _, _, rfl, _⟩ := h; rfl) | (obtain ⟨_, _, _, _, _, _, _, rfl, _⟩ := h; rfl) | (obtain ⟨_, _, _, _, _, _, _, _, rfl, _⟩ := h; rfl) | (obtain ⟨_, _, _, _, _, _, _, _, _, rfl, _⟩ := h; rfl) | (obtain ⟨_, _, _, _, _, _, _, _, _, _, rfl, _⟩ := h; rfl) | (obtain ⟨_, _, _, _, _, _, _, _, _, _, _, rfl, _⟩ := h; rfl) | (obtain ⟨_, _, _, _, _, _, _, _, _, _, _, _, rfl, _⟩ := h; rfl) | (obtain ⟨_, _, _, _, _, _, _, _, _, _, _, _, _, rfl, _⟩ := h; rfl) | (obtain ⟨_, _, _, _, _, _, _, _, _, _, _, _, _, _, rfl, _⟩ := h; rfl) | (obtain ⟨_, _, _, _, _, _, _, _, _, _, _, _, _, _, _, rfl, _⟩ := h; rfl) | (obtain ⟨_, _, _, _, _, _, _, _, _, _, _, _, _, _, _, _, rfl, _⟩ := h; rfl) | (obtain ⟨_, _, _, _, _, _, _, _, _, _, _, _, _, _, _, _, _, rfl, _⟩ := h; rfl) | (obtain ⟨_, _, _, _, _, _, _, _, _, _, _, _, _, _, _, _, _, _, rfl, _⟩ := h; rfl) | (obtain ⟨_, _, _, _, _, _, _, _, _, _, _, _, _, _, _, _, _, _, _, rfl, _⟩ := h; rfl) | (obtain ⟨_, _, _, _, _, _, _, _, _, _, _, _, _, _, _, _, _, _, _, _, rfl, _⟩ := h; rfl) | (obtain ⟨_, _, _, _, _, _, _, _, _, _, _, _, _, _, _, _, _, _, _, _, _, rfl, _⟩ := h; rfl) | (obtain ⟨_, _, _, _, _, _, _, _, _, _, _, _, _, _, _, _, _, _, _, _, _, _, rfl, _⟩ := h; rfl) | (obtain ⟨_, _, _, _, _, _, _, _, _, _, _, _, _, _, _, _, _, _, _, _, _, _, _, rfl, _⟩ := h; rfl) | (obtain ⟨_, _, _, _, _, _, _, _, _, _, _, _, _, _, _, _, _, _, _, _, _, _, _, _, rfl, _⟩ := h; rfl) | (obtain ⟨_, _, _, _, _, _, _, _, _, _, _, _, _, _, _, _, _, _, _, _, _, _, _, _, _, rfl, _⟩ := h; rfl)) (fun X F0 ds L q e h1 h2 h3 h4 h5 cf hr hS => by subst h1 h2 h3 h4 h5; exact b_takes_from cf T hS)
  have C_hears : Cal P w K mg base 1 "hears_from" (["model", "stand"] : List Str) S_hears_from := cal_of (N := (["model", "stand", "ticks", "ago", "entry"] : List Str)) (Nc := ([] : List Str)) D3 (g 3 _ rfl) ⟨rfl, rfl, rfl, by decide +kernel, rfl, by decide +kernel, by decide +kernel⟩ (by decide +kernel)
    (D3.bindsN fun _ _ _ _ _ _ us hl => match us, hl with | [_, _], _ => rfl) (fun ds L q e h => by first | (obtain ⟨rfl, _⟩ := h; rfl) | (obtain ⟨_, rfl, _⟩ := h; rfl) | (obtain ⟨_, _, rfl, _⟩ := h; rfl) | (obtain ⟨_, _, _, rfl, _⟩ := h; rfl) | (obtain ⟨_, _, _, _, rfl, _⟩ := h; rfl) | (obtain ⟨_, _, _, _, _, rfl, _⟩ := h; rfl) | (obtain ⟨_, _, _, _, _, _, rfl, _⟩ := h; rfl) | (obtain ⟨_, _, _, _, _, _, _, rfl, _⟩ := h; rfl) | (obtain ⟨_, _, _, _, _, _, _, _, rfl, _⟩ := h; rfl) | (obtain ⟨_, _, _, _, _, _, _, _, _, rfl, _⟩ := h; rfl) | (obtain ⟨_, _, _, _, _, _, _, _, _, _, rfl, _⟩ := h; rfl) | (obtain ⟨_, _, _, _, _, _, _, _, _, _, _, rfl, _⟩ := h; rfl) | (obtain ⟨_, _, _, _, _, _, _, _, _, _, _, _, rfl, _⟩ := h; rfl) | (obtain ⟨_, _, _, _, _, _, _, _, _, _, _, _, _, rfl, _⟩ := h; rfl) | (obtain ⟨_, _, _, _, _, _, _, _, _, _, _, _, _, _, rfl, _⟩ := h; rfl) | (obtain ⟨_, _, _, _, _, _, _, _, _, _, _, _, _, _, _, rfl, _⟩ := h; rfl) | (obtain ⟨_, _, _, _, _, _, _, _, _, _, _, _, _, _, _, _, rfl, _⟩ := h; rfl) | (obtain ⟨_, _, _, _, _, _, _, _, _, _, _, _, _, _, _, _, _, rfl, _⟩ := h; rfl) | (obtain ⟨_, _, _, _, _, _, _, _, _, _, _, _, _, _, _, _, _, _, rfl, _⟩ := h; rfl) | (obtain ⟨_, _, _, _, _, _, _, _, _, _, _, _, _, _, _, _, _, _, _, rfl, _⟩ := h; rfl) | (obtain ⟨_, _, _, _, _, _, _, _, _, _, _, _, _, _, _, _, _, _, _, _, rfl, _⟩ := h; rfl) | (obtain ⟨_, _, _, _, _, _, _, _, _, _, _, _, _, _, _, _, _, _, _, _, _, rfl, _⟩ := h; rfl) | (obtain ⟨_, _, _, _, _, _, _, _, _, _, _, _, _, _, _, _, _, _, _, _, _, _, rfl, _⟩ := h; rfl) | (obtain ⟨_, _, _, _, _, _, _, _, _, _, _, _, _, _, _, _, _, _, _, _, _, _, _, rfl, _⟩ := h; rfl) | (obtain ⟨_, _, _, _, _, _, _, _, _, _, _, _, _, _, _, _, _, _, _, _, _, _, _, _, rfl, _⟩ := h; rfl) | (obtain ⟨_, _, _, _, _, _, _, _, _, _, _, _, _, _, _, _, _, _, _, _, _, _, _, _, _, rfl, _⟩ := h; rfl)) (fun X F0 ds L q e h1 h2 h3 h4 h5 cf hr hS => by subst h1 h2 h3 h4 h5; exact b_hears_from cf T hS)
  have C_steps : Cal P w K mg base 2 "steps_from" (["model", "stand"] : List Str) S_steps_from := cal_of (N := (["model", "stand", "hears", "steps", "take"] : List Str)) (Nc := (["hear"] : List Str)) D4 (g 4 _ rfl) ⟨rfl, rfl, rfl, by decide +kernel, rfl, by decide +kernel, by decide +kernel⟩ (by decide +kernel)
    (D4.bindsN fun _ _ _ _ _ _ us hl => match us, hl with | [_, _], _ => rfl) (fun ds L q e h => by first | (obtain ⟨rfl, _⟩ := h; rfl) | (obtain ⟨_, rfl, _⟩ := h; rfl) | (obtain ⟨_, _, rfl, _⟩ := h; rfl) | (obtain ⟨_, _, _, rfl, _⟩ := h; rfl) | (obtain ⟨_, _, _, _, rfl, _⟩ := h; rfl) | (obtain ⟨_, _, _, _, _, rfl, _⟩ := h; rfl) | (obtain ⟨_, _, _, _, _, _, rfl, _⟩ := h; rfl) | (obtain ⟨_, _, _, _, _, _, _, rfl, _⟩ := h; rfl) | (obtain ⟨_, _, _, _, _, _, _, _, rfl, _⟩ := h; rfl) | (obtain ⟨_, _, _, _, _, _, _, _, _, rfl, _⟩ := h; rfl) | (obtain ⟨_, _, _, _, _, _, _, _, _, _, rfl, _⟩ := h; rfl) | (obtain ⟨_, _, _, _, _, _, _, _, _, _, _, rfl, _⟩ := h; rfl) | (obtain ⟨_, _, _, _, _, _, _, _, _, _, _, _, rfl, _⟩ := h; rfl) | (obtain ⟨_, _, _, _, _, _, _, _, _, _, _, _, _, rfl, _⟩ := h; rfl) | (obtain ⟨_, _, _, _, _, _, _, _, _, _, _, _, _, _, rfl, _⟩ := h; rfl) | (obtain ⟨_, _, _, _, _, _, _, _, _, _, _, _, _, _, _, rfl, _⟩ := h; rfl) | (obtain ⟨_, _, _, _, _, _, _, _, _, _, _, _, _, _, _, _, rfl, _⟩ := h; rfl) | (obtain ⟨_, _, _, _, _, _, _, _, _, _, _, _, _, _, _, _, _, rfl, _⟩ := h; rfl) | (obtain ⟨_, _, _, _, _, _, _, _, _, _, _, _, _, _, _, _, _, _, rfl, _⟩ := h; rfl) | (obtain ⟨_, _, _, _, _, _, _, _, _, _, _, _, _, _, _, _, _, _, _, rfl, _⟩ := h; rfl) | (obtain ⟨_, _, _, _, _, _, _, _, _, _, _, _, _, _, _, _, _, _, _, _, rfl, _⟩ := h; rfl) | (obtain ⟨_, _, _, _, _, _, _, _, _, _, _, _, _, _, _, _, _, _, _, _, _, rfl, _⟩ := h; rfl) | (obtain ⟨_, _, _, _, _, _, _, _, _, _, _, _, _, _, _, _, _, _, _, _, _, _, rfl, _⟩ := h; rfl) | (obtain ⟨_, _, _, _, _, _, _, _, _, _, _, _, _, _, _, _, _, _, _, _, _, _, _, rfl, _⟩ := h; rfl) | (obtain ⟨_, _, _, _, _, _, _, _, _, _, _, _, _, _, _, _, _, _, _, _, _, _, _, _, rfl, _⟩ := h; rfl) | (obtain ⟨_, _, _, _, _, _, _, _, _, _, _, _, _, _, _, _, _, _, _, _, _, _, _, _, _, rfl, _⟩ := h; rfl)) (fun X F0 ds L q e h1 h2 h3 h4 h5 cf hr hS => by subst h1 h2 h3 h4 h5; exact b_steps_from cf T hr C_model0 C_takes C_hears hS)
  have C_wrong : Cal P w K mg base 2 "is_wrong" (["model", "stand", "step"] : List Str) S_is_wrong := cal_of (N := (["model", "stand", "step", "take", "hear"] : List Str)) (Nc := ([] : List Str)) D5 (g 5 _ rfl) ⟨rfl, rfl, rfl, by decide +kernel, rfl, by decide +kernel, by decide +kernel⟩ (by decide +kernel)
    (D5.bindsN fun _ _ _ _ _ _ us hl => match us, hl with | [_, _, _], _ => rfl) (fun ds L q e h => by first | (obtain ⟨rfl, _⟩ := h; rfl) | (obtain ⟨_, rfl, _⟩ := h; rfl) | (obtain ⟨_, _, rfl, _⟩ := h; rfl) | (obtain ⟨_, _, _, rfl, _⟩ := h; rfl) | (obtain ⟨_, _, _, _, rfl, _⟩ := h; rfl) | (obtain ⟨_, _, _, _, _, rfl, _⟩ := h; rfl) | (obtain ⟨_, _, _, _, _, _, rfl, _⟩ := h; rfl) | (obtain ⟨_, _, _, _, _, _, _, rfl, _⟩ := h; rfl) | (obtain ⟨_, _, _, _, _, _, _, _, rfl, _⟩ := h; rfl) | (obtain ⟨_, _, _, _, _, _, _, _, _, rfl, _⟩ := h; rfl) | (obtain ⟨_, _, _, _, _, _, _, _, _, _, rfl, _⟩ := h; rfl) | (obtain ⟨_, _, _, _, _, _, _, _, _, _, _, rfl, _⟩ := h; rfl) | (obtain ⟨_, _, _, _, _, _, _, _, _, _, _, _, rfl, _⟩ := h; rfl) | (obtain ⟨_, _, _, _, _, _, _, _, _, _, _, _, _, rfl, _⟩ := h; rfl) | (obtain ⟨_, _, _, _, _, _, _, _, _, _, _, _, _, _, rfl, _⟩ := h; rfl) | (obtain ⟨_, _, _, _, _, _, _, _, _, _, _, _, _, _, _, rfl, _⟩ := h; rfl) | (obtain ⟨_, _, _, _, _, _, _, _, _, _, _, _, _, _, _, _, rfl, _⟩ := h; rfl) | (obtain ⟨_, _, _, _, _, _, _, _, _, _, _, _, _, _, _, _, _, rfl, _⟩ := h; rfl) | (obtain ⟨_, _, _, _, _, _, _, _, _, _, _, _, _, _, _, _, _, _, rfl, _⟩ := h; rfl) | (obtain ⟨_, _, _, _, _, _, _, _, _, _, _, _, _, _, _, _, _, _, _, rfl, _⟩ := h; rfl) | (obtain ⟨_, _, _, _, _, _, _, _, _, _, _, _, _, _, _, _, _, _, _, _, rfl, _⟩ := h; rfl) | (obtain ⟨_, _, _, _, _, _, _, _, _, _, _, _, _, _, _, _, _, _, _, _, _, rfl, _⟩ := h; rfl) | (obtain ⟨_, _, _, _, _, _, _, _, _, _, _, _, _, _, _, _, _, _, _, _, _, _, rfl, _⟩ := h; rfl) | (obtain ⟨_, _, _, _, _, _, _, _, _, _, _, _, _, _, _, _, _, _, _, _, _, _, _, rfl, _⟩ := h; rfl) | (obtain ⟨_, _, _, _, _, _, _, _, _, _, _, _, _, _, _, _, _, _, _, _, _, _, _, _, rfl, _⟩ := h; rfl) | (obtain ⟨_, _, _, _, _, _, _, _, _, _, _, _, _, _, _, _, _, _, _, _, _, _, _, _, _, rfl, _⟩ := h; rfl)) (fun X F0 ds L q e h1 h2 h3 h4 h5 cf hr hS => by subst h1 h2 h3 h4 h5; exact b_is_wrong cf T hr C_model0 hS)
  have C_moved : Cal P w K mg base 1 "moved" (["entries", "fresh", "taken"] : List Str) S_moved := cal_of (N := (["entries", "fresh", "taken", "found", "entry"] : List Str)) (Nc := ([] : List Str)) D6 (g 6 _ rfl) ⟨rfl, rfl, rfl, by decide +kernel, rfl, by decide +kernel, by decide +kernel⟩ (by decide +kernel)
    (D6.bindsN fun _ _ _ _ _ _ us hl => match us, hl with | [_, _, _], _ => rfl) (fun ds L q e h => by first | (obtain ⟨rfl, _⟩ := h; rfl) | (obtain ⟨_, rfl, _⟩ := h; rfl) | (obtain ⟨_, _, rfl, _⟩ := h; rfl) | (obtain ⟨_, _, _, rfl, _⟩ := h; rfl) | (obtain ⟨_, _, _, _, rfl, _⟩ := h; rfl) | (obtain ⟨_, _, _, _, _, rfl, _⟩ := h; rfl) | (obtain ⟨_, _, _, _, _, _, rfl, _⟩ := h; rfl) | (obtain ⟨_, _, _, _, _, _, _, rfl, _⟩ := h; rfl) | (obtain ⟨_, _, _, _, _, _, _, _, rfl, _⟩ := h; rfl) | (obtain ⟨_, _, _, _, _, _, _, _, _, rfl, _⟩ := h; rfl) | (obtain ⟨_, _, _, _, _, _, _, _, _, _, rfl, _⟩ := h; rfl) | (obtain ⟨_, _, _, _, _, _, _, _, _, _, _, rfl, _⟩ := h; rfl) | (obtain ⟨_, _, _, _, _, _, _, _, _, _, _, _, rfl, _⟩ := h; rfl) | (obtain ⟨_, _, _, _, _, _, _, _, _, _, _, _, _, rfl, _⟩ := h; rfl) | (obtain ⟨_, _, _, _, _, _, _, _, _, _, _, _, _, _, rfl, _⟩ := h; rfl) | (obtain ⟨_, _, _, _, _, _, _, _, _, _, _, _, _, _, _, rfl, _⟩ := h; rfl) | (obtain ⟨_, _, _, _, _, _, _, _, _, _, _, _, _, _, _, _, rfl, _⟩ := h; rfl) | (obtain ⟨_, _, _, _, _, _, _, _, _, _, _, _, _, _, _, _, _, rfl, _⟩ := h; rfl) | (obtain ⟨_, _, _, _, _, _, _, _, _, _, _, _, _, _, _, _, _, _, rfl, _⟩ := h; rfl) | (obtain ⟨_, _, _, _, _, _, _, _, _, _, _, _, _, _, _, _, _, _, _, rfl, _⟩ := h; rfl) | (obtain ⟨_, _, _, _, _, _, _, _, _, _, _, _, _, _, _, _, _, _, _, _, rfl, _⟩ := h; rfl) | (obtain ⟨_, _, _, _, _, _, _, _, _, _, _, _, _, _, _, _, _, _, _, _, _, rfl, _⟩ := h; rfl) | (obtain ⟨_, _, _, _, _, _, _, _, _, _, _, _, _, _, _, _, _, _, _, _, _, _, rfl, _⟩ := h; rfl) | (obtain ⟨_, _, _, _, _, _, _, _, _, _, _, _, _, _, _, _, _, _, _, _, _, _, _, rfl, _⟩ := h; rfl) | (obtain ⟨_, _, _, _, _, _, _, _, _, _, _, _, _, _, _, _, _, _, _, _, _, _, _, _, rfl, _⟩ := h; rfl) | (obtain ⟨_, _, _, _, _, _, _, _, _, _, _, _, _, _, _, _, _, _, _, _, _, _, _, _, _, rfl, _⟩ := h; rfl)) (fun X F0 ds L q e h1 h2 h3 h4 h5 cf hr hS => by subst h1 h2 h3 h4 h5; exact b_moved cf T hS)
  have C_next_stand : Cal P w K mg base 2 "next_stand" (["model", "stand", "step"] : List Str) S_next_stand := cal_of (N := (["model", "stand", "step", "ahead", "rest", "sent", "counts", "taken", "given"] : List Str)) (Nc := ([] : List Str)) D7 (g 7 _ rfl) ⟨rfl, rfl, rfl, by decide +kernel, rfl, by decide +kernel, by decide +kernel⟩ (by decide +kernel)
    (D7.bindsN fun _ _ _ _ _ _ us hl => match us, hl with | [_, _, _], _ => rfl) (fun ds L q e h => by first | (obtain ⟨rfl, _⟩ := h; rfl) | (obtain ⟨_, rfl, _⟩ := h; rfl) | (obtain ⟨_, _, rfl, _⟩ := h; rfl) | (obtain ⟨_, _, _, rfl, _⟩ := h; rfl) | (obtain ⟨_, _, _, _, rfl, _⟩ := h; rfl) | (obtain ⟨_, _, _, _, _, rfl, _⟩ := h; rfl) | (obtain ⟨_, _, _, _, _, _, rfl, _⟩ := h; rfl) | (obtain ⟨_, _, _, _, _, _, _, rfl, _⟩ := h; rfl) | (obtain ⟨_, _, _, _, _, _, _, _, rfl, _⟩ := h; rfl) | (obtain ⟨_, _, _, _, _, _, _, _, _, rfl, _⟩ := h; rfl) | (obtain ⟨_, _, _, _, _, _, _, _, _, _, rfl, _⟩ := h; rfl) | (obtain ⟨_, _, _, _, _, _, _, _, _, _, _, rfl, _⟩ := h; rfl) | (obtain ⟨_, _, _, _, _, _, _, _, _, _, _, _, rfl, _⟩ := h; rfl) | (obtain ⟨_, _, _, _, _, _, _, _, _, _, _, _, _, rfl, _⟩ := h; rfl) | (obtain ⟨_, _, _, _, _, _, _, _, _, _, _, _, _, _, rfl, _⟩ := h; rfl) | (obtain ⟨_, _, _, _, _, _, _, _, _, _, _, _, _, _, _, rfl, _⟩ := h; rfl) | (obtain ⟨_, _, _, _, _, _, _, _, _, _, _, _, _, _, _, _, rfl, _⟩ := h; rfl) | (obtain ⟨_, _, _, _, _, _, _, _, _, _, _, _, _, _, _, _, _, rfl, _⟩ := h; rfl) | (obtain ⟨_, _, _, _, _, _, _, _, _, _, _, _, _, _, _, _, _, _, rfl, _⟩ := h; rfl) | (obtain ⟨_, _, _, _, _, _, _, _, _, _, _, _, _, _, _, _, _, _, _, rfl, _⟩ := h; rfl) | (obtain ⟨_, _, _, _, _, _, _, _, _, _, _, _, _, _, _, _, _, _, _, _, rfl, _⟩ := h; rfl) | (obtain ⟨_, _, _, _, _, _, _, _, _, _, _, _, _, _, _, _, _, _, _, _, _, rfl, _⟩ := h; rfl) | (obtain ⟨_, _, _, _, _, _, _, _, _, _, _, _, _, _, _, _, _, _, _, _, _, _, rfl, _⟩ := h; rfl) | (obtain ⟨_, _, _, _, _, _, _, _, _, _, _, _, _, _, _, _, _, _, _, _, _, _, _, rfl, _⟩ := h; rfl) | (obtain ⟨_, _, _, _, _, _, _, _, _, _, _, _, _, _, _, _, _, _, _, _, _, _, _, _, rfl, _⟩ := h; rfl) | (obtain ⟨_, _, _, _, _, _, _, _, _, _, _, _, _, _, _, _, _, _, _, _, _, _, _, _, _, rfl, _⟩ := h; rfl)) (fun X F0 ds L q e h1 h2 h3 h4 h5 cf hr hS => by subst h1 h2 h3 h4 h5; exact b_next_stand cf T hr C_model0 C_moved hS)
  have C_stepsto : Cal P w K mg base 1 "steps_to" (["came", "stand"] : List Str) (S_steps_to w) := cal_of (N := (["came", "stand", "steps", "step"] : List Str)) (Nc := ([] : List Str)) D8 (g 8 _ rfl) ⟨rfl, rfl, rfl, by decide +kernel, rfl, by decide +kernel, by decide +kernel⟩ (by decide +kernel)
    (D8.bindsN fun _ _ _ _ _ _ us hl => match us, hl with | [_, _], _ => rfl) (fun ds L q e h => by first | (obtain ⟨rfl, _⟩ := h; rfl) | (obtain ⟨_, rfl, _⟩ := h; rfl) | (obtain ⟨_, _, rfl, _⟩ := h; rfl) | (obtain ⟨_, _, _, rfl, _⟩ := h; rfl) | (obtain ⟨_, _, _, _, rfl, _⟩ := h; rfl) | (obtain ⟨_, _, _, _, _, rfl, _⟩ := h; rfl) | (obtain ⟨_, _, _, _, _, _, rfl, _⟩ := h; rfl) | (obtain ⟨_, _, _, _, _, _, _, rfl, _⟩ := h; rfl) | (obtain ⟨_, _, _, _, _, _, _, _, rfl, _⟩ := h; rfl) | (obtain ⟨_, _, _, _, _, _, _, _, _, rfl, _⟩ := h; rfl) | (obtain ⟨_, _, _, _, _, _, _, _, _, _, rfl, _⟩ := h; rfl) | (obtain ⟨_, _, _, _, _, _, _, _, _, _, _, rfl, _⟩ := h; rfl) | (obtain ⟨_, _, _, _, _, _, _, _, _, _, _, _, rfl, _⟩ := h; rfl) | (obtain ⟨_, _, _, _, _, _, _, _, _, _, _, _, _, rfl, _⟩ := h; rfl) | (obtain ⟨_, _, _, _, _, _, _, _, _, _, _, _, _, _, rfl, _⟩ := h; rfl) | (obtain ⟨_, _, _, _, _, _, _, _, _, _, _, _, _, _, _, rfl, _⟩ := h; rfl) | (obtain ⟨_, _, _, _, _, _, _, _, _, _, _, _, _, _, _, _, rfl, _⟩ := h; rfl) | (obtain ⟨_, _, _, _, _, _, _, _, _, _, _, _, _, _, _, _, _, rfl, _⟩ := h; rfl) | (obtain ⟨_, _, _, _, _, _, _, _, _, _, _, _, _, _, _, _, _, _, rfl, _⟩ := h; rfl) | (obtain ⟨_, _, _, _, _, _, _, _, _, _, _, _, _, _, _, _, _, _, _, rfl, _⟩ := h; rfl) | (obtain ⟨_, _, _, _, _, _, _, _, _, _, _, _, _, _, _, _, _, _, _, _, rfl, _⟩ := h; rfl) | (obtain ⟨_, _, _, _, _, _, _, _, _, _, _, _, _, _, _, _, _, _, _, _, _, rfl, _⟩ := h; rfl) | (obtain ⟨_, _, _, _, _, _, _, _, _, _, _, _, _, _, _, _, _, _, _, _, _, _, rfl, _⟩ := h; rfl) | (obtain ⟨_, _, _, _, _, _, _, _, _, _, _, _, _, _, _, _, _, _, _, _, _, _, _, rfl, _⟩ := h; rfl) | (obtain ⟨_, _, _, _, _, _, _, _, _, _, _, _, _, _, _, _, _, _, _, _, _, _, _, _, rfl, _⟩ := h; rfl) | (obtain ⟨_, _, _, _, _, _, _, _, _, _, _, _, _, _, _, _, _, _, _, _, _, _, _, _, _, rfl, _⟩ := h; rfl)) (fun X F0 ds L q e h1 h2 h3 h4 h5 cf hr hS => by subst h1 h2 h3 h4 h5; exact b_steps_to cf T hr hS)
  have C_shown : Cal P w K mg base 3 "shown" (["model"] : List Str) S_shown := cal_of (N := (["model", "first", "came", "line", "at", "stand", "step", "other"] : List Str)) (Nc := ([] : List Str)) D9 (g 9 _ rfl) ⟨rfl, rfl, rfl, by decide +kernel, rfl, by decide +kernel, by decide +kernel⟩ (by decide +kernel)
    (D9.bindsN fun _ _ _ _ _ _ us hl => match us, hl with | [_], _ => rfl) (fun ds L q e h => by first | (obtain ⟨rfl, _⟩ := h; rfl) | (obtain ⟨_, rfl, _⟩ := h; rfl) | (obtain ⟨_, _, rfl, _⟩ := h; rfl) | (obtain ⟨_, _, _, rfl, _⟩ := h; rfl) | (obtain ⟨_, _, _, _, rfl, _⟩ := h; rfl) | (obtain ⟨_, _, _, _, _, rfl, _⟩ := h; rfl) | (obtain ⟨_, _, _, _, _, _, rfl, _⟩ := h; rfl) | (obtain ⟨_, _, _, _, _, _, _, rfl, _⟩ := h; rfl) | (obtain ⟨_, _, _, _, _, _, _, _, rfl, _⟩ := h; rfl) | (obtain ⟨_, _, _, _, _, _, _, _, _, rfl, _⟩ := h; rfl) | (obtain ⟨_, _, _, _, _, _, _, _, _, _, rfl, _⟩ := h; rfl) | (obtain ⟨_, _, _, _, _, _, _, _, _, _, _, rfl, _⟩ := h; rfl) | (obtain ⟨_, _, _, _, _, _, _, _, _, _, _, _, rfl, _⟩ := h; rfl) | (obtain ⟨_, _, _, _, _, _, _, _, _, _, _, _, _, rfl, _⟩ := h; rfl) | (obtain ⟨_, _, _, _, _, _, _, _, _, _, _, _, _, _, rfl, _⟩ := h; rfl) | (obtain ⟨_, _, _, _, _, _, _, _, _, _, _, _, _, _, _, rfl, _⟩ := h; rfl) | (obtain ⟨_, _, _, _, _, _, _, _, _, _, _, _, _, _, _, _, rfl, _⟩ := h; rfl) | (obtain ⟨_, _, _, _, _, _, _, _, _, _, _, _, _, _, _, _, _, rfl, _⟩ := h; rfl) | (obtain ⟨_, _, _, _, _, _, _, _, _, _, _, _, _, _, _, _, _, _, rfl, _⟩ := h; rfl) | (obtain ⟨_, _, _, _, _, _, _, _, _, _, _, _, _, _, _, _, _, _, _, rfl, _⟩ := h; rfl) | (obtain ⟨_, _, _, _, _, _, _, _, _, _, _, _, _, _, _, _, _, _, _, _, rfl, _⟩ := h; rfl) | (obtain ⟨_, _, _, _, _, _, _, _, _, _, _, _, _, _, _, _, _, _, _, _, _, rfl, _⟩ := h; rfl) | (obtain ⟨_, _, _, _, _, _, _, _, _, _, _, _, _, _, _, _, _, _, _, _, _, _, rfl, _⟩ := h; rfl) | (obtain ⟨_, _, _, _, _, _, _, _, _, _, _, _, _, _, _, _, _, _, _, _, _, _, _, rfl, _⟩ := h; rfl) | (obtain ⟨_, _, _, _, _, _, _, _, _, _, _, _, _, _, _, _, _, _, _, _, _, _, _, _, rfl, _⟩ := h; rfl) | (obtain ⟨_, _, _, _, _, _, _, _, _, _, _, _, _, _, _, _, _, _, _, _, _, _, _, _, _, rfl, _⟩ := h; rfl)) (fun X F0 ds L q e h1 h2 h3 h4 h5 cf hr hS => by subst h1 h2 h3 h4 h5; exact b_shown cf T hr C_first C_steps C_wrong C_next_stand C_stepsto hS)
  have C_fence : Cal P w K mg base 3 "fence_stands" (["model", "stands"] : List Str) S_fence := cal_of (N := (["model", "stands", "inside", "stand", "step"] : List Str)) (Nc := ([] : List Str)) D10 (g 10 _ rfl) ⟨rfl, rfl, rfl, by decide +kernel, rfl, by decide +kernel, by decide +kernel⟩ (by decide +kernel)
    (D10.bindsN fun _ _ _ _ _ _ us hl => match us, hl with | [_, _], _ => rfl) (fun ds L q e h => by first | (obtain ⟨rfl, _⟩ := h; rfl) | (obtain ⟨_, rfl, _⟩ := h; rfl) | (obtain ⟨_, _, rfl, _⟩ := h; rfl) | (obtain ⟨_, _, _, rfl, _⟩ := h; rfl) | (obtain ⟨_, _, _, _, rfl, _⟩ := h; rfl) | (obtain ⟨_, _, _, _, _, rfl, _⟩ := h; rfl) | (obtain ⟨_, _, _, _, _, _, rfl, _⟩ := h; rfl) | (obtain ⟨_, _, _, _, _, _, _, rfl, _⟩ := h; rfl) | (obtain ⟨_, _, _, _, _, _, _, _, rfl, _⟩ := h; rfl) | (obtain ⟨_, _, _, _, _, _, _, _, _, rfl, _⟩ := h; rfl) | (obtain ⟨_, _, _, _, _, _, _, _, _, _, rfl, _⟩ := h; rfl) | (obtain ⟨_, _, _, _, _, _, _, _, _, _, _, rfl, _⟩ := h; rfl) | (obtain ⟨_, _, _, _, _, _, _, _, _, _, _, _, rfl, _⟩ := h; rfl) | (obtain ⟨_, _, _, _, _, _, _, _, _, _, _, _, _, rfl, _⟩ := h; rfl) | (obtain ⟨_, _, _, _, _, _, _, _, _, _, _, _, _, _, rfl, _⟩ := h; rfl) | (obtain ⟨_, _, _, _, _, _, _, _, _, _, _, _, _, _, _, rfl, _⟩ := h; rfl) | (obtain ⟨_, _, _, _, _, _, _, _, _, _, _, _, _, _, _, _, rfl, _⟩ := h; rfl) | (obtain ⟨_, _, _, _, _, _, _, _, _, _, _, _, _, _, _, _, _, rfl, _⟩ := h; rfl) | (obtain ⟨_, _, _, _, _, _, _, _, _, _, _, _, _, _, _, _, _, _, rfl, _⟩ := h; rfl) | (obtain ⟨_, _, _, _, _, _, _, _, _, _, _, _, _, _, _, _, _, _, _, rfl, _⟩ := h; rfl) | (obtain ⟨_, _, _, _, _, _, _, _, _, _, _, _, _, _, _, _, _, _, _, _, rfl, _⟩ := h; rfl) | (obtain ⟨_, _, _, _, _, _, _, _, _, _, _, _, _, _, _, _, _, _, _, _, _, rfl, _⟩ := h; rfl) | (obtain ⟨_, _, _, _, _, _, _, _, _, _, _, _, _, _, _, _, _, _, _, _, _, _, rfl, _⟩ := h; rfl) | (obtain ⟨_, _, _, _, _, _, _, _, _, _, _, _, _, _, _, _, _, _, _, _, _, _, _, rfl, _⟩ := h; rfl) | (obtain ⟨_, _, _, _, _, _, _, _, _, _, _, _, _, _, _, _, _, _, _, _, _, _, _, _, rfl, _⟩ := h; rfl) | (obtain ⟨_, _, _, _, _, _, _, _, _, _, _, _, _, _, _, _, _, _, _, _, _, _, _, _, _, rfl, _⟩ := h; rfl)) (fun X F0 ds L q e h1 h2 h3 h4 h5 cf hr hS => by subst h1 h2 h3 h4 h5; exact b_fence cf T hr C_first C_steps C_wrong C_next_stand hS)
  have C_walk : Cal P w K mg base 3 "walk_of" (["model", "steps"] : List Str) S_walk_of := cal_of (N := (["model", "steps", "stand", "found", "place", "step"] : List Str)) (Nc := ([] : List Str)) D11 (g 11 _ rfl) ⟨rfl, rfl, rfl, by decide +kernel, rfl, by decide +kernel, by decide +kernel⟩ (by decide +kernel)
    (D11.bindsN fun _ _ _ _ _ _ us hl => match us, hl with | [_, _], _ => rfl) (fun ds L q e h => by first | (obtain ⟨rfl, _⟩ := h; rfl) | (obtain ⟨_, rfl, _⟩ := h; rfl) | (obtain ⟨_, _, rfl, _⟩ := h; rfl) | (obtain ⟨_, _, _, rfl, _⟩ := h; rfl) | (obtain ⟨_, _, _, _, rfl, _⟩ := h; rfl) | (obtain ⟨_, _, _, _, _, rfl, _⟩ := h; rfl) | (obtain ⟨_, _, _, _, _, _, rfl, _⟩ := h; rfl) | (obtain ⟨_, _, _, _, _, _, _, rfl, _⟩ := h; rfl) | (obtain ⟨_, _, _, _, _, _, _, _, rfl, _⟩ := h; rfl) | (obtain ⟨_, _, _, _, _, _, _, _, _, rfl, _⟩ := h; rfl) | (obtain ⟨_, _, _, _, _, _, _, _, _, _, rfl, _⟩ := h; rfl) | (obtain ⟨_, _, _, _, _, _, _, _, _, _, _, rfl, _⟩ := h; rfl) | (obtain ⟨_, _, _, _, _, _, _, _, _, _, _, _, rfl, _⟩ := h; rfl) | (obtain ⟨_, _, _, _, _, _, _, _, _, _, _, _, _, rfl, _⟩ := h; rfl) | (obtain ⟨_, _, _, _, _, _, _, _, _, _, _, _, _, _, rfl, _⟩ := h; rfl) | (obtain ⟨_, _, _, _, _, _, _, _, _, _, _, _, _, _, _, rfl, _⟩ := h; rfl) | (obtain ⟨_, _, _, _, _, _, _, _, _, _, _, _, _, _, _, _, rfl, _⟩ := h; rfl) | (obtain ⟨_, _, _, _, _, _, _, _, _, _, _, _, _, _, _, _, _, rfl, _⟩ := h; rfl) | (obtain ⟨_, _, _, _, _, _, _, _, _, _, _, _, _, _, _, _, _, _, rfl, _⟩ := h; rfl) | (obtain ⟨_, _, _, _, _, _, _, _, _, _, _, _, _, _, _, _, _, _, _, rfl, _⟩ := h; rfl) | (obtain ⟨_, _, _, _, _, _, _, _, _, _, _, _, _, _, _, _, _, _, _, _, rfl, _⟩ := h; rfl) | (obtain ⟨_, _, _, _, _, _, _, _, _, _, _, _, _, _, _, _, _, _, _, _, _, rfl, _⟩ := h; rfl) | (obtain ⟨_, _, _, _, _, _, _, _, _, _, _, _, _, _, _, _, _, _, _, _, _, _, rfl, _⟩ := h; rfl) | (obtain ⟨_, _, _, _, _, _, _, _, _, _, _, _, _, _, _, _, _, _, _, _, _, _, _, rfl, _⟩ := h; rfl) | (obtain ⟨_, _, _, _, _, _, _, _, _, _, _, _, _, _, _, _, _, _, _, _, _, _, _, _, rfl, _⟩ := h; rfl) | (obtain ⟨_, _, _, _, _, _, _, _, _, _, _, _, _, _, _, _, _, _, _, _, _, _, _, _, _, rfl, _⟩ := h; rfl)) (fun X F0 ds L q e h1 h2 h3 h4 h5 cf hr hS => by subst h1 h2 h3 h4 h5; exact b_walk_of cf T hr C_first C_steps C_wrong C_next_stand hS)
  have B_model : Cal P w K mg base 1 "look_model" (["model"] : List Str) (S_look_bad K) := cal_of (N := (["model", "many", "pause", "late"] : List Str)) (Nc := ([] : List Str)) D0 (g 0 _ rfl) ⟨rfl, rfl, rfl, by decide +kernel, rfl, by decide +kernel, by decide +kernel⟩ (by decide +kernel)
    (D0.bindsN fun _ _ _ _ _ _ us hl => match us, hl with | [_], _ => rfl) (fun ds L q e h => by first | (obtain ⟨rfl, _⟩ := h; rfl) | (obtain ⟨_, rfl, _⟩ := h; rfl) | (obtain ⟨_, _, rfl, _⟩ := h; rfl) | (obtain ⟨_, _, _, rfl, _⟩ := h; rfl) | (obtain ⟨_, _, _, _, rfl, _⟩ := h; rfl) | (obtain ⟨_, _, _, _, _, rfl, _⟩ := h; rfl) | (obtain ⟨_, _, _, _, _, _, rfl, _⟩ := h; rfl) | (obtain ⟨_, _, _, _, _, _, _, rfl, _⟩ := h; rfl) | (obtain ⟨_, _, _, _, _, _, _, _, rfl, _⟩ := h; rfl) | (obtain ⟨_, _, _, _, _, _, _, _, _, rfl, _⟩ := h; rfl) | (obtain ⟨_, _, _, _, _, _, _, _, _, _, rfl, _⟩ := h; rfl) | (obtain ⟨_, _, _, _, _, _, _, _, _, _, _, rfl, _⟩ := h; rfl) | (obtain ⟨_, _, _, _, _, _, _, _, _, _, _, _, rfl, _⟩ := h; rfl) | (obtain ⟨_, _, _, _, _, _, _, _, _, _, _, _, _, rfl, _⟩ := h; rfl) | (obtain ⟨_, _, _, _, _, _, _, _, _, _, _, _, _, _, rfl, _⟩ := h; rfl) | (obtain ⟨_, _, _, _, _, _, _, _, _, _, _, _, _, _, _, rfl, _⟩ := h; rfl) | (obtain ⟨_, _, _, _, _, _, _, _, _, _, _, _, _, _, _, _, rfl, _⟩ := h; rfl) | (obtain ⟨_, _, _, _, _, _, _, _, _, _, _, _, _, _, _, _, _, rfl, _⟩ := h; rfl) | (obtain ⟨_, _, _, _, _, _, _, _, _, _, _, _, _, _, _, _, _, _, rfl, _⟩ := h; rfl) | (obtain ⟨_, _, _, _, _, _, _, _, _, _, _, _, _, _, _, _, _, _, _, rfl, _⟩ := h; rfl) | (obtain ⟨_, _, _, _, _, _, _, _, _, _, _, _, _, _, _, _, _, _, _, _, rfl, _⟩ := h; rfl) | (obtain ⟨_, _, _, _, _, _, _, _, _, _, _, _, _, _, _, _, _, _, _, _, _, rfl, _⟩ := h; rfl) | (obtain ⟨_, _, _, _, _, _, _, _, _, _, _, _, _, _, _, _, _, _, _, _, _, _, rfl, _⟩ := h; rfl) | (obtain ⟨_, _, _, _, _, _, _, _, _, _, _, _, _, _, _, _, _, _, _, _, _, _, _, rfl, _⟩ := h; rfl) | (obtain ⟨_, _, _, _, _, _, _, _, _, _, _, _, _, _, _, _, _, _, _, _, _, _, _, _, rfl, _⟩ := h; rfl) | (obtain ⟨_, _, _, _, _, _, _, _, _, _, _, _, _, _, _, _, _, _, _, _, _, _, _, _, _, rfl, _⟩ := h; rfl)) (fun X F0 ds L q e h1 h2 h3 h4 h5 cf hr hS => by subst h1 h2 h3 h4 h5; exact b_look_bad cf T hS)
  have B_first : Cal P w K mg base 2 "first_stand" (["model"] : List Str) (S_first_stand_bad K) := cal_of (N := (["model", "none"] : List Str)) (Nc := ([] : List Str)) D1 (g 1 _ rfl) ⟨rfl, rfl, rfl, by decide +kernel, rfl, by decide +kernel, by decide +kernel⟩ (by decide +kernel)
    (D1.bindsN fun _ _ _ _ _ _ us hl => match us, hl with | [_], _ => rfl) (fun ds L q e h => by first | (obtain ⟨rfl, _⟩ := h; rfl) | (obtain ⟨_, rfl, _⟩ := h; rfl) | (obtain ⟨_, _, rfl, _⟩ := h; rfl) | (obtain ⟨_, _, _, rfl, _⟩ := h; rfl) | (obtain ⟨_, _, _, _, rfl, _⟩ := h; rfl) | (obtain ⟨_, _, _, _, _, rfl, _⟩ := h; rfl) | (obtain ⟨_, _, _, _, _, _, rfl, _⟩ := h; rfl) | (obtain ⟨_, _, _, _, _, _, _, rfl, _⟩ := h; rfl) | (obtain ⟨_, _, _, _, _, _, _, _, rfl, _⟩ := h; rfl) | (obtain ⟨_, _, _, _, _, _, _, _, _, rfl, _⟩ := h; rfl) | (obtain ⟨_, _, _, _, _, _, _, _, _, _, rfl, _⟩ := h; rfl) | (obtain ⟨_, _, _, _, _, _, _, _, _, _, _, rfl, _⟩ := h; rfl) | (obtain ⟨_, _, _, _, _, _, _, _, _, _, _, _, rfl, _⟩ := h; rfl) | (obtain ⟨_, _, _, _, _, _, _, _, _, _, _, _, _, rfl, _⟩ := h; rfl) | (obtain ⟨_, _, _, _, _, _, _, _, _, _, _, _, _, _, rfl, _⟩ := h; rfl) | (obtain ⟨_, _, _, _, _, _, _, _, _, _, _, _, _, _, _, rfl, _⟩ := h; rfl) | (obtain ⟨_, _, _, _, _, _, _, _, _, _, _, _, _, _, _, _, rfl, _⟩ := h; rfl) | (obtain ⟨_, _, _, _, _, _, _, _, _, _, _, _, _, _, _, _, _, rfl, _⟩ := h; rfl) | (obtain ⟨_, _, _, _, _, _, _, _, _, _, _, _, _, _, _, _, _, _, rfl, _⟩ := h; rfl) | (obtain ⟨_, _, _, _, _, _, _, _, _, _, _, _, _, _, _, _, _, _, _, rfl, _⟩ := h; rfl) | (obtain ⟨_, _, _, _, _, _, _, _, _, _, _, _, _, _, _, _, _, _, _, _, rfl, _⟩ := h; rfl) | (obtain ⟨_, _, _, _, _, _, _, _, _, _, _, _, _, _, _, _, _, _, _, _, _, rfl, _⟩ := h; rfl) | (obtain ⟨_, _, _, _, _, _, _, _, _, _, _, _, _, _, _, _, _, _, _, _, _, _, rfl, _⟩ := h; rfl) | (obtain ⟨_, _, _, _, _, _, _, _, _, _, _, _, _, _, _, _, _, _, _, _, _, _, _, rfl, _⟩ := h; rfl) | (obtain ⟨_, _, _, _, _, _, _, _, _, _, _, _, _, _, _, _, _, _, _, _, _, _, _, _, rfl, _⟩ := h; rfl) | (obtain ⟨_, _, _, _, _, _, _, _, _, _, _, _, _, _, _, _, _, _, _, _, _, _, _, _, _, rfl, _⟩ := h; rfl)) (fun X F0 ds L q e h1 h2 h3 h4 h5 cf hr hS => by subst h1 h2 h3 h4 h5; exact b_first_stand_bad cf T hr B_model hS)
  have B_steps : Cal P w K mg base 2 "steps_from" (["model", "stand"] : List Str) (S_steps_from_bad K) := cal_of (N := (["model", "stand", "hears", "steps", "take"] : List Str)) (Nc := (["hear"] : List Str)) D4 (g 4 _ rfl) ⟨rfl, rfl, rfl, by decide +kernel, rfl, by decide +kernel, by decide +kernel⟩ (by decide +kernel)
    (D4.bindsN fun _ _ _ _ _ _ us hl => match us, hl with | [_, _], _ => rfl) (fun ds L q e h => by first | (obtain ⟨rfl, _⟩ := h; rfl) | (obtain ⟨_, rfl, _⟩ := h; rfl) | (obtain ⟨_, _, rfl, _⟩ := h; rfl) | (obtain ⟨_, _, _, rfl, _⟩ := h; rfl) | (obtain ⟨_, _, _, _, rfl, _⟩ := h; rfl) | (obtain ⟨_, _, _, _, _, rfl, _⟩ := h; rfl) | (obtain ⟨_, _, _, _, _, _, rfl, _⟩ := h; rfl) | (obtain ⟨_, _, _, _, _, _, _, rfl, _⟩ := h; rfl) | (obtain ⟨_, _, _, _, _, _, _, _, rfl, _⟩ := h; rfl) | (obtain ⟨_, _, _, _, _, _, _, _, _, rfl, _⟩ := h; rfl) | (obtain ⟨_, _, _, _, _, _, _, _, _, _, rfl, _⟩ := h; rfl) | (obtain ⟨_, _, _, _, _, _, _, _, _, _, _, rfl, _⟩ := h; rfl) | (obtain ⟨_, _, _, _, _, _, _, _, _, _, _, _, rfl, _⟩ := h; rfl) | (obtain ⟨_, _, _, _, _, _, _, _, _, _, _, _, _, rfl, _⟩ := h; rfl) | (obtain ⟨_, _, _, _, _, _, _, _, _, _, _, _, _, _, rfl, _⟩ := h; rfl) | (obtain ⟨_, _, _, _, _, _, _, _, _, _, _, _, _, _, _, rfl, _⟩ := h; rfl) | (obtain ⟨_, _, _, _, _, _, _, _, _, _, _, _, _, _, _, _, rfl, _⟩ := h; rfl) | (obtain ⟨_, _, _, _, _, _, _, _, _, _, _, _, _, _, _, _, _, rfl, _⟩ := h; rfl) | (obtain ⟨_, _, _, _, _, _, _, _, _, _, _, _, _, _, _, _, _, _, rfl, _⟩ := h; rfl) | (obtain ⟨_, _, _, _, _, _, _, _, _, _, _, _, _, _, _, _, _, _, _, rfl, _⟩ := h; rfl) | (obtain ⟨_, _, _, _, _, _, _, _, _, _, _, _, _, _, _, _, _, _, _, _, rfl, _⟩ := h; rfl) | (obtain ⟨_, _, _, _, _, _, _, _, _, _, _, _, _, _, _, _, _, _, _, _, _, rfl, _⟩ := h; rfl) | (obtain ⟨_, _, _, _, _, _, _, _, _, _, _, _, _, _, _, _, _, _, _, _, _, _, rfl, _⟩ := h; rfl) | (obtain ⟨_, _, _, _, _, _, _, _, _, _, _, _, _, _, _, _, _, _, _, _, _, _, _, rfl, _⟩ := h; rfl) | (obtain ⟨_, _, _, _, _, _, _, _, _, _, _, _, _, _, _, _, _, _, _, _, _, _, _, _, rfl, _⟩ := h; rfl) | (obtain ⟨_, _, _, _, _, _, _, _, _, _, _, _, _, _, _, _, _, _, _, _, _, _, _, _, _, rfl, _⟩ := h; rfl)) (fun X F0 ds L q e h1 h2 h3 h4 h5 cf hr hS => by subst h1 h2 h3 h4 h5; exact b_steps_from_bad cf T hr B_model hS)
  have B_wrong : Cal P w K mg base 2 "is_wrong" (["model", "stand", "step"] : List Str) (S_is_wrong_bad K) := cal_of (N := (["model", "stand", "step", "take", "hear"] : List Str)) (Nc := ([] : List Str)) D5 (g 5 _ rfl) ⟨rfl, rfl, rfl, by decide +kernel, rfl, by decide +kernel, by decide +kernel⟩ (by decide +kernel)
    (D5.bindsN fun _ _ _ _ _ _ us hl => match us, hl with | [_, _, _], _ => rfl) (fun ds L q e h => by first | (obtain ⟨rfl, _⟩ := h; rfl) | (obtain ⟨_, rfl, _⟩ := h; rfl) | (obtain ⟨_, _, rfl, _⟩ := h; rfl) | (obtain ⟨_, _, _, rfl, _⟩ := h; rfl) | (obtain ⟨_, _, _, _, rfl, _⟩ := h; rfl) | (obtain ⟨_, _, _, _, _, rfl, _⟩ := h; rfl) | (obtain ⟨_, _, _, _, _, _, rfl, _⟩ := h; rfl) | (obtain ⟨_, _, _, _, _, _, _, rfl, _⟩ := h; rfl) | (obtain ⟨_, _, _, _, _, _, _, _, rfl, _⟩ := h; rfl) | (obtain ⟨_, _, _, _, _, _, _, _, _, rfl, _⟩ := h; rfl) | (obtain ⟨_, _, _, _, _, _, _, _, _, _, rfl, _⟩ := h; rfl) | (obtain ⟨_, _, _, _, _, _, _, _, _, _, _, rfl, _⟩ := h; rfl) | (obtain ⟨_, _, _, _, _, _, _, _, _, _, _, _, rfl, _⟩ := h; rfl) | (obtain ⟨_, _, _, _, _, _, _, _, _, _, _, _, _, rfl, _⟩ := h; rfl) | (obtain ⟨_, _, _, _, _, _, _, _, _, _, _, _, _, _, rfl, _⟩ := h; rfl) | (obtain ⟨_, _, _, _, _, _, _, _, _, _, _, _, _, _, _, rfl, _⟩ := h; rfl) | (obtain ⟨_, _, _, _, _, _, _, _, _, _, _, _, _, _, _, _, rfl, _⟩ := h; rfl) | (obtain ⟨_, _, _, _, _, _, _, _, _, _, _, _, _, _, _, _, _, rfl, _⟩ := h; rfl) | (obtain ⟨_, _, _, _, _, _, _, _, _, _, _, _, _, _, _, _, _, _, rfl, _⟩ := h; rfl) | (obtain ⟨_, _, _, _, _, _, _, _, _, _, _, _, _, _, _, _, _, _, _, rfl, _⟩ := h; rfl) | (obtain ⟨_, _, _, _, _, _, _, _, _, _, _, _, _, _, _, _, _, _, _, _, rfl, _⟩ := h; rfl) | (obtain ⟨_, _, _, _, _, _, _, _, _, _, _, _, _, _, _, _, _, _, _, _, _, rfl, _⟩ := h; rfl) | (obtain ⟨_, _, _, _, _, _, _, _, _, _, _, _, _, _, _, _, _, _, _, _, _, _, rfl, _⟩ := h; rfl) | (obtain ⟨_, _, _, _, _, _, _, _, _, _, _, _, _, _, _, _, _, _, _, _, _, _, _, rfl, _⟩ := h; rfl) | (obtain ⟨_, _, _, _, _, _, _, _, _, _, _, _, _, _, _, _, _, _, _, _, _, _, _, _, rfl, _⟩ := h; rfl) | (obtain ⟨_, _, _, _, _, _, _, _, _, _, _, _, _, _, _, _, _, _, _, _, _, _, _, _, _, rfl, _⟩ := h; rfl)) (fun X F0 ds L q e h1 h2 h3 h4 h5 cf hr hS => by subst h1 h2 h3 h4 h5; exact b_is_wrong_bad cf T hr B_model hS)
  have B_next : Cal P w K mg base 2 "next_stand" (["model", "stand", "step"] : List Str) (S_next_stand_bad K) := cal_of (N := (["model", "stand", "step", "ahead", "rest", "sent", "counts", "taken", "given"] : List Str)) (Nc := ([] : List Str)) D7 (g 7 _ rfl) ⟨rfl, rfl, rfl, by decide +kernel, rfl, by decide +kernel, by decide +kernel⟩ (by decide +kernel)
    (D7.bindsN fun _ _ _ _ _ _ us hl => match us, hl with | [_, _, _], _ => rfl) (fun ds L q e h => by first | (obtain ⟨rfl, _⟩ := h; rfl) | (obtain ⟨_, rfl, _⟩ := h; rfl) | (obtain ⟨_, _, rfl, _⟩ := h; rfl) | (obtain ⟨_, _, _, rfl, _⟩ := h; rfl) | (obtain ⟨_, _, _, _, rfl, _⟩ := h; rfl) | (obtain ⟨_, _, _, _, _, rfl, _⟩ := h; rfl) | (obtain ⟨_, _, _, _, _, _, rfl, _⟩ := h; rfl) | (obtain ⟨_, _, _, _, _, _, _, rfl, _⟩ := h; rfl) | (obtain ⟨_, _, _, _, _, _, _, _, rfl, _⟩ := h; rfl) | (obtain ⟨_, _, _, _, _, _, _, _, _, rfl, _⟩ := h; rfl) | (obtain ⟨_, _, _, _, _, _, _, _, _, _, rfl, _⟩ := h; rfl) | (obtain ⟨_, _, _, _, _, _, _, _, _, _, _, rfl, _⟩ := h; rfl) | (obtain ⟨_, _, _, _, _, _, _, _, _, _, _, _, rfl, _⟩ := h; rfl) | (obtain ⟨_, _, _, _, _, _, _, _, _, _, _, _, _, rfl, _⟩ := h; rfl) | (obtain ⟨_, _, _, _, _, _, _, _, _, _, _, _, _, _, rfl, _⟩ := h; rfl) | (obtain ⟨_, _, _, _, _, _, _, _, _, _, _, _, _, _, _, rfl, _⟩ := h; rfl) | (obtain ⟨_, _, _, _, _, _, _, _, _, _, _, _, _, _, _, _, rfl, _⟩ := h; rfl) | (obtain ⟨_, _, _, _, _, _, _, _, _, _, _, _, _, _, _, _, _, rfl, _⟩ := h; rfl) | (obtain ⟨_, _, _, _, _, _, _, _, _, _, _, _, _, _, _, _, _, _, rfl, _⟩ := h; rfl) | (obtain ⟨_, _, _, _, _, _, _, _, _, _, _, _, _, _, _, _, _, _, _, rfl, _⟩ := h; rfl) | (obtain ⟨_, _, _, _, _, _, _, _, _, _, _, _, _, _, _, _, _, _, _, _, rfl, _⟩ := h; rfl) | (obtain ⟨_, _, _, _, _, _, _, _, _, _, _, _, _, _, _, _, _, _, _, _, _, rfl, _⟩ := h; rfl) | (obtain ⟨_, _, _, _, _, _, _, _, _, _, _, _, _, _, _, _, _, _, _, _, _, _, rfl, _⟩ := h; rfl) | (obtain ⟨_, _, _, _, _, _, _, _, _, _, _, _, _, _, _, _, _, _, _, _, _, _, _, rfl, _⟩ := h; rfl) | (obtain ⟨_, _, _, _, _, _, _, _, _, _, _, _, _, _, _, _, _, _, _, _, _, _, _, _, rfl, _⟩ := h; rfl) | (obtain ⟨_, _, _, _, _, _, _, _, _, _, _, _, _, _, _, _, _, _, _, _, _, _, _, _, _, rfl, _⟩ := h; rfl)) (fun X F0 ds L q e h1 h2 h3 h4 h5 cf hr hS => by subst h1 h2 h3 h4 h5; exact b_next_stand_bad cf T hr B_model hS)
  have B_fence : Cal P w K mg base 3 "fence_stands" (["model", "stands"] : List Str) (S_fence_bad K) := cal_of (N := (["model", "stands", "inside", "stand", "step"] : List Str)) (Nc := ([] : List Str)) D10 (g 10 _ rfl) ⟨rfl, rfl, rfl, by decide +kernel, rfl, by decide +kernel, by decide +kernel⟩ (by decide +kernel)
    (D10.bindsN fun _ _ _ _ _ _ us hl => match us, hl with | [_, _], _ => rfl) (fun ds L q e h => by first | (obtain ⟨rfl, _⟩ := h; rfl) | (obtain ⟨_, rfl, _⟩ := h; rfl) | (obtain ⟨_, _, rfl, _⟩ := h; rfl) | (obtain ⟨_, _, _, rfl, _⟩ := h; rfl) | (obtain ⟨_, _, _, _, rfl, _⟩ := h; rfl) | (obtain ⟨_, _, _, _, _, rfl, _⟩ := h; rfl) | (obtain ⟨_, _, _, _, _, _, rfl, _⟩ := h; rfl) | (obtain ⟨_, _, _, _, _, _, _, rfl, _⟩ := h; rfl) | (obtain ⟨_, _, _, _, _, _, _, _, rfl, _⟩ := h; rfl) | (obtain ⟨_, _, _, _, _, _, _, _, _, rfl, _⟩ := h; rfl) | (obtain ⟨_, _, _, _, _, _, _, _, _, _, rfl, _⟩ := h; rfl) | (obtain ⟨_, _, _, _, _, _, _, _, _, _, _, rfl, _⟩ := h; rfl) | (obtain ⟨_, _, _, _, _, _, _, _, _, _, _, _, rfl, _⟩ := h; rfl) | (obtain ⟨_, _, _, _, _, _, _, _, _, _, _, _, _, rfl, _⟩ := h; rfl) | (obtain ⟨_, _, _, _, _, _, _, _, _, _, _, _, _, _, rfl, _⟩ := h; rfl) | (obtain ⟨_, _, _, _, _, _, _, _, _, _, _, _, _, _, _, rfl, _⟩ := h; rfl) | (obtain ⟨_, _, _, _, _, _, _, _, _, _, _, _, _, _, _, _, rfl, _⟩ := h; rfl) | (obtain ⟨_, _, _, _, _, _, _, _, _, _, _, _, _, _, _, _, _, rfl, _⟩ := h; rfl) | (obtain ⟨_, _, _, _, _, _, _, _, _, _, _, _, _, _, _, _, _, _, rfl, _⟩ := h; rfl) | (obtain ⟨_, _, _, _, _, _, _, _, _, _, _, _, _, _, _, _, _, _, _, rfl, _⟩ := h; rfl) | (obtain ⟨_, _, _, _, _, _, _, _, _, _, _, _, _, _, _, _, _, _, _, _, rfl, _⟩ := h; rfl) | (obtain ⟨_, _, _, _, _, _, _, _, _, _, _, _, _, _, _, _, _, _, _, _, _, rfl, _⟩ := h; rfl) | (obtain ⟨_, _, _, _, _, _, _, _, _, _, _, _, _, _, _, _, _, _, _, _, _, _, rfl, _⟩ := h; rfl) | (obtain ⟨_, _, _, _, _, _, _, _, _, _, _, _, _, _, _, _, _, _, _, _, _, _, _, rfl, _⟩ := h; rfl) | (obtain ⟨_, _, _, _, _, _, _, _, _, _, _, _, _, _, _, _, _, _, _, _, _, _, _, _, rfl, _⟩ := h; rfl) | (obtain ⟨_, _, _, _, _, _, _, _, _, _, _, _, _, _, _, _, _, _, _, _, _, _, _, _, _, rfl, _⟩ := h; rfl)) (fun X F0 ds L q e h1 h2 h3 h4 h5 cf hr hS => by subst h1 h2 h3 h4 h5; exact b_fence_bad cf T hr B_first hS)
  have B_walk : Cal P w K mg base 3 "walk_of" (["model", "steps"] : List Str) (S_walk_of_bad K) := cal_of (N := (["model", "steps", "stand", "found", "place", "step"] : List Str)) (Nc := ([] : List Str)) D11 (g 11 _ rfl) ⟨rfl, rfl, rfl, by decide +kernel, rfl, by decide +kernel, by decide +kernel⟩ (by decide +kernel)
    (D11.bindsN fun _ _ _ _ _ _ us hl => match us, hl with | [_, _], _ => rfl) (fun ds L q e h => by first | (obtain ⟨rfl, _⟩ := h; rfl) | (obtain ⟨_, rfl, _⟩ := h; rfl) | (obtain ⟨_, _, rfl, _⟩ := h; rfl) | (obtain ⟨_, _, _, rfl, _⟩ := h; rfl) | (obtain ⟨_, _, _, _, rfl, _⟩ := h; rfl) | (obtain ⟨_, _, _, _, _, rfl, _⟩ := h; rfl) | (obtain ⟨_, _, _, _, _, _, rfl, _⟩ := h; rfl) | (obtain ⟨_, _, _, _, _, _, _, rfl, _⟩ := h; rfl) | (obtain ⟨_, _, _, _, _, _, _, _, rfl, _⟩ := h; rfl) | (obtain ⟨_, _, _, _, _, _, _, _, _, rfl, _⟩ := h; rfl) | (obtain ⟨_, _, _, _, _, _, _, _, _, _, rfl, _⟩ := h; rfl) | (obtain ⟨_, _, _, _, _, _, _, _, _, _, _, rfl, _⟩ := h; rfl) | (obtain ⟨_, _, _, _, _, _, _, _, _, _, _, _, rfl, _⟩ := h; rfl) | (obtain ⟨_, _, _, _, _, _, _, _, _, _, _, _, _, rfl, _⟩ := h; rfl) | (obtain ⟨_, _, _, _, _, _, _, _, _, _, _, _, _, _, rfl, _⟩ := h; rfl) | (obtain ⟨_, _, _, _, _, _, _, _, _, _, _, _, _, _, _, rfl, _⟩ := h; rfl) | (obtain ⟨_, _, _, _, _, _, _, _, _, _, _, _, _, _, _, _, rfl, _⟩ := h; rfl) | (obtain ⟨_, _, _, _, _, _, _, _, _, _, _, _, _, _, _, _, _, rfl, _⟩ := h; rfl) | (obtain ⟨_, _, _, _, _, _, _, _, _, _, _, _, _, _, _, _, _, _, rfl, _⟩ := h; rfl) | (obtain ⟨_, _, _, _, _, _, _, _, _, _, _, _, _, _, _, _, _, _, _, rfl, _⟩ := h; rfl) | (obtain ⟨_, _, _, _, _, _, _, _, _, _, _, _, _, _, _, _, _, _, _, _, rfl, _⟩ := h; rfl) | (obtain ⟨_, _, _, _, _, _, _, _, _, _, _, _, _, _, _, _, _, _, _, _, _, rfl, _⟩ := h; rfl) | (obtain ⟨_, _, _, _, _, _, _, _, _, _, _, _, _, _, _, _, _, _, _, _, _, _, rfl, _⟩ := h; rfl) | (obtain ⟨_, _, _, _, _, _, _, _, _, _, _, _, _, _, _, _, _, _, _, _, _, _, _, rfl, _⟩ := h; rfl) | (obtain ⟨_, _, _, _, _, _, _, _, _, _, _, _, _, _, _, _, _, _, _, _, _, _, _, _, rfl, _⟩ := h; rfl) | (obtain ⟨_, _, _, _, _, _, _, _, _, _, _, _, _, _, _, _, _, _, _, _, _, _, _, _, _, rfl, _⟩ := h; rfl)) (fun X F0 ds L q e h1 h2 h3 h4 h5 cf hr hS => by subst h1 h2 h3 h4 h5; exact b_walk_of_bad cf T hr B_first hS)
  have B_shown : Cal P w K mg base 3 "shown" (["model"] : List Str) (S_shown_bad K) := cal_of (N := (["model", "first", "came", "line", "at", "stand", "step", "other"] : List Str)) (Nc := ([] : List Str)) D9 (g 9 _ rfl) ⟨rfl, rfl, rfl, by decide +kernel, rfl, by decide +kernel, by decide +kernel⟩ (by decide +kernel)
    (D9.bindsN fun _ _ _ _ _ _ us hl => match us, hl with | [_], _ => rfl) (fun ds L q e h => by first | (obtain ⟨rfl, _⟩ := h; rfl) | (obtain ⟨_, rfl, _⟩ := h; rfl) | (obtain ⟨_, _, rfl, _⟩ := h; rfl) | (obtain ⟨_, _, _, rfl, _⟩ := h; rfl) | (obtain ⟨_, _, _, _, rfl, _⟩ := h; rfl) | (obtain ⟨_, _, _, _, _, rfl, _⟩ := h; rfl) | (obtain ⟨_, _, _, _, _, _, rfl, _⟩ := h; rfl) | (obtain ⟨_, _, _, _, _, _, _, rfl, _⟩ := h; rfl) | (obtain ⟨_, _, _, _, _, _, _, _, rfl, _⟩ := h; rfl) | (obtain ⟨_, _, _, _, _, _, _, _, _, rfl, _⟩ := h; rfl) | (obtain ⟨_, _, _, _, _, _, _, _, _, _, rfl, _⟩ := h; rfl) | (obtain ⟨_, _, _, _, _, _, _, _, _, _, _, rfl, _⟩ := h; rfl) | (obtain ⟨_, _, _, _, _, _, _, _, _, _, _, _, rfl, _⟩ := h; rfl) | (obtain ⟨_, _, _, _, _, _, _, _, _, _, _, _, _, rfl, _⟩ := h; rfl) | (obtain ⟨_, _, _, _, _, _, _, _, _, _, _, _, _, _, rfl, _⟩ := h; rfl) | (obtain ⟨_, _, _, _, _, _, _, _, _, _, _, _, _, _, _, rfl, _⟩ := h; rfl) | (obtain ⟨_, _, _, _, _, _, _, _, _, _, _, _, _, _, _, _, rfl, _⟩ := h; rfl) | (obtain ⟨_, _, _, _, _, _, _, _, _, _, _, _, _, _, _, _, _, rfl, _⟩ := h; rfl) | (obtain ⟨_, _, _, _, _, _, _, _, _, _, _, _, _, _, _, _, _, _, rfl, _⟩ := h; rfl) | (obtain ⟨_, _, _, _, _, _, _, _, _, _, _, _, _, _, _, _, _, _, _, rfl, _⟩ := h; rfl) | (obtain ⟨_, _, _, _, _, _, _, _, _, _, _, _, _, _, _, _, _, _, _, _, rfl, _⟩ := h; rfl) | (obtain ⟨_, _, _, _, _, _, _, _, _, _, _, _, _, _, _, _, _, _, _, _, _, rfl, _⟩ := h; rfl) | (obtain ⟨_, _, _, _, _, _, _, _, _, _, _, _, _, _, _, _, _, _, _, _, _, _, rfl, _⟩ := h; rfl) | (obtain ⟨_, _, _, _, _, _, _, _, _, _, _, _, _, _, _, _, _, _, _, _, _, _, _, rfl, _⟩ := h; rfl) | (obtain ⟨_, _, _, _, _, _, _, _, _, _, _, _, _, _, _, _, _, _, _, _, _, _, _, _, rfl, _⟩ := h; rfl) | (obtain ⟨_, _, _, _, _, _, _, _, _, _, _, _, _, _, _, _, _, _, _, _, _, _, _, _, _, rfl, _⟩ := h; rfl)) (fun X F0 ds L q e h1 h2 h3 h4 h5 cf hr hS => by subst h1 h2 h3 h4 h5; exact b_shown_bad cf T hr B_first hS)
  have C_left : Cal P w K mg base 1 "_law_left" (["cell"] : List Str) S_law_left := cal_of (N := (["cell"] : List Str)) (Nc := ([] : List Str)) D12 (g 12 _ rfl) ⟨rfl, rfl, rfl, by decide +kernel, rfl, by decide +kernel, by decide +kernel⟩ (by decide +kernel)
    (D12.bindsN fun _ _ _ _ _ _ us hl => match us, hl with | [_], _ => rfl) (fun ds L q e h => by first | (obtain ⟨rfl, _⟩ := h; rfl) | (obtain ⟨_, rfl, _⟩ := h; rfl) | (obtain ⟨_, _, rfl, _⟩ := h; rfl) | (obtain ⟨_, _, _, rfl, _⟩ := h; rfl) | (obtain ⟨_, _, _, _, rfl, _⟩ := h; rfl) | (obtain ⟨_, _, _, _, _, rfl, _⟩ := h; rfl) | (obtain ⟨_, _, _, _, _, _, rfl, _⟩ := h; rfl) | (obtain ⟨_, _, _, _, _, _, _, rfl, _⟩ := h; rfl) | (obtain ⟨_, _, _, _, _, _, _, _, rfl, _⟩ := h; rfl) | (obtain ⟨_, _, _, _, _, _, _, _, _, rfl, _⟩ := h; rfl) | (obtain ⟨_, _, _, _, _, _, _, _, _, _, rfl, _⟩ := h; rfl) | (obtain ⟨_, _, _, _, _, _, _, _, _, _, _, rfl, _⟩ := h; rfl) | (obtain ⟨_, _, _, _, _, _, _, _, _, _, _, _, rfl, _⟩ := h; rfl) | (obtain ⟨_, _, _, _, _, _, _, _, _, _, _, _, _, rfl, _⟩ := h; rfl) | (obtain ⟨_, _, _, _, _, _, _, _, _, _, _, _, _, _, rfl, _⟩ := h; rfl) | (obtain ⟨_, _, _, _, _, _, _, _, _, _, _, _, _, _, _, rfl, _⟩ := h; rfl) | (obtain ⟨_, _, _, _, _, _, _, _, _, _, _, _, _, _, _, _, rfl, _⟩ := h; rfl) | (obtain ⟨_, _, _, _, _, _, _, _, _, _, _, _, _, _, _, _, _, rfl, _⟩ := h; rfl) | (obtain ⟨_, _, _, _, _, _, _, _, _, _, _, _, _, _, _, _, _, _, rfl, _⟩ := h; rfl) | (obtain ⟨_, _, _, _, _, _, _, _, _, _, _, _, _, _, _, _, _, _, _, rfl, _⟩ := h; rfl) | (obtain ⟨_, _, _, _, _, _, _, _, _, _, _, _, _, _, _, _, _, _, _, _, rfl, _⟩ := h; rfl) | (obtain ⟨_, _, _, _, _, _, _, _, _, _, _, _, _, _, _, _, _, _, _, _, _, rfl, _⟩ := h; rfl) | (obtain ⟨_, _, _, _, _, _, _, _, _, _, _, _, _, _, _, _, _, _, _, _, _, _, rfl, _⟩ := h; rfl) | (obtain ⟨_, _, _, _, _, _, _, _, _, _, _, _, _, _, _, _, _, _, _, _, _, _, _, rfl, _⟩ := h; rfl) | (obtain ⟨_, _, _, _, _, _, _, _, _, _, _, _, _, _, _, _, _, _, _, _, _, _, _, _, rfl, _⟩ := h; rfl) | (obtain ⟨_, _, _, _, _, _, _, _, _, _, _, _, _, _, _, _, _, _, _, _, _, _, _, _, _, rfl, _⟩ := h; rfl)) (fun X F0 ds L q e h1 h2 h3 h4 h5 cf hr hS => by subst h1 h2 h3 h4 h5; exact b_law_left cf T hS)
  have C_next : Cal P w K mg base 1 "_law_next" (["left", "base"] : List Str) S_law_next := cal_of (N := (["left", "base", "digit", "near", "stir"] : List Str)) (Nc := ([] : List Str)) D13 (g 13 _ rfl) ⟨rfl, rfl, rfl, by decide +kernel, rfl, by decide +kernel, by decide +kernel⟩ (by decide +kernel)
    (D13.bindsN fun _ _ _ _ _ _ us hl => match us, hl with | [_, _], _ => rfl) (fun ds L q e h => by first | (obtain ⟨rfl, _⟩ := h; rfl) | (obtain ⟨_, rfl, _⟩ := h; rfl) | (obtain ⟨_, _, rfl, _⟩ := h; rfl) | (obtain ⟨_, _, _, rfl, _⟩ := h; rfl) | (obtain ⟨_, _, _, _, rfl, _⟩ := h; rfl) | (obtain ⟨_, _, _, _, _, rfl, _⟩ := h; rfl) | (obtain ⟨_, _, _, _, _, _, rfl, _⟩ := h; rfl) | (obtain ⟨_, _, _, _, _, _, _, rfl, _⟩ := h; rfl) | (obtain ⟨_, _, _, _, _, _, _, _, rfl, _⟩ := h; rfl) | (obtain ⟨_, _, _, _, _, _, _, _, _, rfl, _⟩ := h; rfl) | (obtain ⟨_, _, _, _, _, _, _, _, _, _, rfl, _⟩ := h; rfl) | (obtain ⟨_, _, _, _, _, _, _, _, _, _, _, rfl, _⟩ := h; rfl) | (obtain ⟨_, _, _, _, _, _, _, _, _, _, _, _, rfl, _⟩ := h; rfl) | (obtain ⟨_, _, _, _, _, _, _, _, _, _, _, _, _, rfl, _⟩ := h; rfl) | (obtain ⟨_, _, _, _, _, _, _, _, _, _, _, _, _, _, rfl, _⟩ := h; rfl) | (obtain ⟨_, _, _, _, _, _, _, _, _, _, _, _, _, _, _, rfl, _⟩ := h; rfl) | (obtain ⟨_, _, _, _, _, _, _, _, _, _, _, _, _, _, _, _, rfl, _⟩ := h; rfl) | (obtain ⟨_, _, _, _, _, _, _, _, _, _, _, _, _, _, _, _, _, rfl, _⟩ := h; rfl) | (obtain ⟨_, _, _, _, _, _, _, _, _, _, _, _, _, _, _, _, _, _, rfl, _⟩ := h; rfl) | (obtain ⟨_, _, _, _, _, _, _, _, _, _, _, _, _, _, _, _, _, _, _, rfl, _⟩ := h; rfl) | (obtain ⟨_, _, _, _, _, _, _, _, _, _, _, _, _, _, _, _, _, _, _, _, rfl, _⟩ := h; rfl) | (obtain ⟨_, _, _, _, _, _, _, _, _, _, _, _, _, _, _, _, _, _, _, _, _, rfl, _⟩ := h; rfl) | (obtain ⟨_, _, _, _, _, _, _, _, _, _, _, _, _, _, _, _, _, _, _, _, _, _, rfl, _⟩ := h; rfl) | (obtain ⟨_, _, _, _, _, _, _, _, _, _, _, _, _, _, _, _, _, _, _, _, _, _, _, rfl, _⟩ := h; rfl) | (obtain ⟨_, _, _, _, _, _, _, _, _, _, _, _, _, _, _, _, _, _, _, _, _, _, _, _, rfl, _⟩ := h; rfl) | (obtain ⟨_, _, _, _, _, _, _, _, _, _, _, _, _, _, _, _, _, _, _, _, _, _, _, _, _, rfl, _⟩ := h; rfl)) (fun X F0 ds L q e h1 h2 h3 h4 h5 cf hr hS => by subst h1 h2 h3 h4 h5; exact b_law_next cf T hS)
  have C_lfirst : Cal P w K mg base 1 "_law_first" (["model"] : List Str) S_law_first := cal_of (N := (["model"] : List Str)) (Nc := ([] : List Str)) D14 (g 14 _ rfl) ⟨rfl, rfl, rfl, by decide +kernel, rfl, by decide +kernel, by decide +kernel⟩ (by decide +kernel)
    (D14.bindsN fun _ _ _ _ _ _ us hl => match us, hl with | [_], _ => rfl) (fun ds L q e h => by first | (obtain ⟨rfl, _⟩ := h; rfl) | (obtain ⟨_, rfl, _⟩ := h; rfl) | (obtain ⟨_, _, rfl, _⟩ := h; rfl) | (obtain ⟨_, _, _, rfl, _⟩ := h; rfl) | (obtain ⟨_, _, _, _, rfl, _⟩ := h; rfl) | (obtain ⟨_, _, _, _, _, rfl, _⟩ := h; rfl) | (obtain ⟨_, _, _, _, _, _, rfl, _⟩ := h; rfl) | (obtain ⟨_, _, _, _, _, _, _, rfl, _⟩ := h; rfl) | (obtain ⟨_, _, _, _, _, _, _, _, rfl, _⟩ := h; rfl) | (obtain ⟨_, _, _, _, _, _, _, _, _, rfl, _⟩ := h; rfl) | (obtain ⟨_, _, _, _, _, _, _, _, _, _, rfl, _⟩ := h; rfl) | (obtain ⟨_, _, _, _, _, _, _, _, _, _, _, rfl, _⟩ := h; rfl) | (obtain ⟨_, _, _, _, _, _, _, _, _, _, _, _, rfl, _⟩ := h; rfl) | (obtain ⟨_, _, _, _, _, _, _, _, _, _, _, _, _, rfl, _⟩ := h; rfl) | (obtain ⟨_, _, _, _, _, _, _, _, _, _, _, _, _, _, rfl, _⟩ := h; rfl) | (obtain ⟨_, _, _, _, _, _, _, _, _, _, _, _, _, _, _, rfl, _⟩ := h; rfl) | (obtain ⟨_, _, _, _, _, _, _, _, _, _, _, _, _, _, _, _, rfl, _⟩ := h; rfl) | (obtain ⟨_, _, _, _, _, _, _, _, _, _, _, _, _, _, _, _, _, rfl, _⟩ := h; rfl) | (obtain ⟨_, _, _, _, _, _, _, _, _, _, _, _, _, _, _, _, _, _, rfl, _⟩ := h; rfl) | (obtain ⟨_, _, _, _, _, _, _, _, _, _, _, _, _, _, _, _, _, _, _, rfl, _⟩ := h; rfl) | (obtain ⟨_, _, _, _, _, _, _, _, _, _, _, _, _, _, _, _, _, _, _, _, rfl, _⟩ := h; rfl) | (obtain ⟨_, _, _, _, _, _, _, _, _, _, _, _, _, _, _, _, _, _, _, _, _, rfl, _⟩ := h; rfl) | (obtain ⟨_, _, _, _, _, _, _, _, _, _, _, _, _, _, _, _, _, _, _, _, _, _, rfl, _⟩ := h; rfl) | (obtain ⟨_, _, _, _, _, _, _, _, _, _, _, _, _, _, _, _, _, _, _, _, _, _, _, rfl, _⟩ := h; rfl) | (obtain ⟨_, _, _, _, _, _, _, _, _, _, _, _, _, _, _, _, _, _, _, _, _, _, _, _, rfl, _⟩ := h; rfl) | (obtain ⟨_, _, _, _, _, _, _, _, _, _, _, _, _, _, _, _, _, _, _, _, _, _, _, _, _, rfl, _⟩ := h; rfl)) (fun X F0 ds L q e h1 h2 h3 h4 h5 cf hr hS => by subst h1 h2 h3 h4 h5; exact b_law_first cf T hS)
  have C_kinds : CalZ P w K mg base 1 "_law_kinds" (["e"] : List Str) (Own (He.ga K "BadModel")) S_kinds := cal_ofZ (N := (["e", "found"] : List Str)) (Nc := (["k"] : List Str)) D15 (g 15 _ rfl) ⟨rfl, rfl, rfl, by decide +kernel, rfl, by decide +kernel, by decide +kernel⟩ (by decide +kernel)
    (D15.bindsN fun _ _ _ _ _ _ us hl => match us, hl with | [_], _ => rfl) (fun a ds L q e h => by first | (obtain ⟨rfl, _⟩ := h; rfl) | (obtain ⟨_, rfl, _⟩ := h; rfl)) (fun X F0 ad oe ds L q e h1 h2 h3 h4 h5 cn hot1 hp ho hrH hS => by subst h1 h2 h3 h4 h5; exact b_law_kinds cn hot1 hp ho T hS)
  have B_asked : Cal P w K mg base 4 "_law_asked" (["which", "model", "stand"] : List Str) (S_asked_bad K) := cal_of (N := (["which", "model", "stand"] : List Str)) (Nc := ([] : List Str)) D16 (g 16 _ rfl) ⟨rfl, rfl, rfl, by decide +kernel, rfl, by decide +kernel, by decide +kernel⟩ (by decide +kernel)
    (D16.bindsN fun _ _ _ _ _ _ us hl => match us, hl with | [_, _, _], _ => rfl) (fun ds L q e h => by first | (obtain ⟨rfl, _⟩ := h; rfl) | (obtain ⟨_, rfl, _⟩ := h; rfl) | (obtain ⟨_, _, rfl, _⟩ := h; rfl) | (obtain ⟨_, _, _, rfl, _⟩ := h; rfl) | (obtain ⟨_, _, _, _, rfl, _⟩ := h; rfl) | (obtain ⟨_, _, _, _, _, rfl, _⟩ := h; rfl) | (obtain ⟨_, _, _, _, _, _, rfl, _⟩ := h; rfl) | (obtain ⟨_, _, _, _, _, _, _, rfl, _⟩ := h; rfl) | (obtain ⟨_, _, _, _, _, _, _, _, rfl, _⟩ := h; rfl) | (obtain ⟨_, _, _, _, _, _, _, _, _, rfl, _⟩ := h; rfl) | (obtain ⟨_, _, _, _, _, _, _, _, _, _, rfl, _⟩ := h; rfl) | (obtain ⟨_, _, _, _, _, _, _, _, _, _, _, rfl, _⟩ := h; rfl) | (obtain ⟨_, _, _, _, _, _, _, _, _, _, _, _, rfl, _⟩ := h; rfl) | (obtain ⟨_, _, _, _, _, _, _, _, _, _, _, _, _, rfl, _⟩ := h; rfl) | (obtain ⟨_, _, _, _, _, _, _, _, _, _, _, _, _, _, rfl, _⟩ := h; rfl) | (obtain ⟨_, _, _, _, _, _, _, _, _, _, _, _, _, _, _, rfl, _⟩ := h; rfl) | (obtain ⟨_, _, _, _, _, _, _, _, _, _, _, _, _, _, _, _, rfl, _⟩ := h; rfl) | (obtain ⟨_, _, _, _, _, _, _, _, _, _, _, _, _, _, _, _, _, rfl, _⟩ := h; rfl) | (obtain ⟨_, _, _, _, _, _, _, _, _, _, _, _, _, _, _, _, _, _, rfl, _⟩ := h; rfl) | (obtain ⟨_, _, _, _, _, _, _, _, _, _, _, _, _, _, _, _, _, _, _, rfl, _⟩ := h; rfl) | (obtain ⟨_, _, _, _, _, _, _, _, _, _, _, _, _, _, _, _, _, _, _, _, rfl, _⟩ := h; rfl) | (obtain ⟨_, _, _, _, _, _, _, _, _, _, _, _, _, _, _, _, _, _, _, _, _, rfl, _⟩ := h; rfl) | (obtain ⟨_, _, _, _, _, _, _, _, _, _, _, _, _, _, _, _, _, _, _, _, _, _, rfl, _⟩ := h; rfl) | (obtain ⟨_, _, _, _, _, _, _, _, _, _, _, _, _, _, _, _, _, _, _, _, _, _, _, rfl, _⟩ := h; rfl) | (obtain ⟨_, _, _, _, _, _, _, _, _, _, _, _, _, _, _, _, _, _, _, _, _, _, _, _, rfl, _⟩ := h; rfl) | (obtain ⟨_, _, _, _, _, _, _, _, _, _, _, _, _, _, _, _, _, _, _, _, _, _, _, _, _, rfl, _⟩ := h; rfl)) (fun X F0 ds L q e h1 h2 h3 h4 h5 cf hr hS => by subst h1 h2 h3 h4 h5; exact b_asked_bad cf T hr B_first B_steps B_wrong B_next B_fence B_walk B_shown hS)
  have C_asked : Cal P w K mg base 4 "_law_asked" (["which", "model", "stand"] : List Str) S_asked_ok := cal_of (N := (["which", "model", "stand"] : List Str)) (Nc := ([] : List Str)) D16 (g 16 _ rfl) ⟨rfl, rfl, rfl, by decide +kernel, rfl, by decide +kernel, by decide +kernel⟩ (by decide +kernel)
    (D16.bindsN fun _ _ _ _ _ _ us hl => match us, hl with | [_, _, _], _ => rfl) (fun ds L q e h => by first | (obtain ⟨rfl, _⟩ := h; rfl) | (obtain ⟨_, rfl, _⟩ := h; rfl) | (obtain ⟨_, _, rfl, _⟩ := h; rfl) | (obtain ⟨_, _, _, rfl, _⟩ := h; rfl) | (obtain ⟨_, _, _, _, rfl, _⟩ := h; rfl) | (obtain ⟨_, _, _, _, _, rfl, _⟩ := h; rfl) | (obtain ⟨_, _, _, _, _, _, rfl, _⟩ := h; rfl) | (obtain ⟨_, _, _, _, _, _, _, rfl, _⟩ := h; rfl) | (obtain ⟨_, _, _, _, _, _, _, _, rfl, _⟩ := h; rfl) | (obtain ⟨_, _, _, _, _, _, _, _, _, rfl, _⟩ := h; rfl) | (obtain ⟨_, _, _, _, _, _, _, _, _, _, rfl, _⟩ := h; rfl) | (obtain ⟨_, _, _, _, _, _, _, _, _, _, _, rfl, _⟩ := h; rfl) | (obtain ⟨_, _, _, _, _, _, _, _, _, _, _, _, rfl, _⟩ := h; rfl) | (obtain ⟨_, _, _, _, _, _, _, _, _, _, _, _, _, rfl, _⟩ := h; rfl) | (obtain ⟨_, _, _, _, _, _, _, _, _, _, _, _, _, _, rfl, _⟩ := h; rfl) | (obtain ⟨_, _, _, _, _, _, _, _, _, _, _, _, _, _, _, rfl, _⟩ := h; rfl) | (obtain ⟨_, _, _, _, _, _, _, _, _, _, _, _, _, _, _, _, rfl, _⟩ := h; rfl) | (obtain ⟨_, _, _, _, _, _, _, _, _, _, _, _, _, _, _, _, _, rfl, _⟩ := h; rfl) | (obtain ⟨_, _, _, _, _, _, _, _, _, _, _, _, _, _, _, _, _, _, rfl, _⟩ := h; rfl) | (obtain ⟨_, _, _, _, _, _, _, _, _, _, _, _, _, _, _, _, _, _, _, rfl, _⟩ := h; rfl) | (obtain ⟨_, _, _, _, _, _, _, _, _, _, _, _, _, _, _, _, _, _, _, _, rfl, _⟩ := h; rfl) | (obtain ⟨_, _, _, _, _, _, _, _, _, _, _, _, _, _, _, _, _, _, _, _, _, rfl, _⟩ := h; rfl) | (obtain ⟨_, _, _, _, _, _, _, _, _, _, _, _, _, _, _, _, _, _, _, _, _, _, rfl, _⟩ := h; rfl) | (obtain ⟨_, _, _, _, _, _, _, _, _, _, _, _, _, _, _, _, _, _, _, _, _, _, _, rfl, _⟩ := h; rfl) | (obtain ⟨_, _, _, _, _, _, _, _, _, _, _, _, _, _, _, _, _, _, _, _, _, _, _, _, rfl, _⟩ := h; rfl) | (obtain ⟨_, _, _, _, _, _, _, _, _, _, _, _, _, _, _, _, _, _, _, _, _, _, _, _, _, rfl, _⟩ := h; rfl)) (fun X F0 ds L q e h1 h2 h3 h4 h5 cf hr hS => by subst h1 h2 h3 h4 h5; exact b_asked_ok cf T hr C_first C_steps C_wrong C_next_stand C_fence C_walk hS)
  have C_refused : Cal P w K mg base 5 "_law_refused" (["which", "model", "stand"] : List Str) S_refused := cal_of (N := (["which", "model", "stand", "found", "e"] : List Str)) (Nc := ([] : List Str)) D17 (g 17 _ rfl) ⟨rfl, rfl, rfl, by decide +kernel, rfl, by decide +kernel, by decide +kernel⟩ (by decide +kernel)
    (D17.bindsN fun _ _ _ _ _ _ us hl => match us, hl with | [_, _, _], _ => rfl) (fun ds L q e h => by first | (obtain ⟨rfl, _⟩ := h; rfl) | (obtain ⟨_, rfl, _⟩ := h; rfl) | (obtain ⟨_, _, rfl, _⟩ := h; rfl) | (obtain ⟨_, _, _, rfl, _⟩ := h; rfl) | (obtain ⟨_, _, _, _, rfl, _⟩ := h; rfl) | (obtain ⟨_, _, _, _, _, rfl, _⟩ := h; rfl) | (obtain ⟨_, _, _, _, _, _, rfl, _⟩ := h; rfl) | (obtain ⟨_, _, _, _, _, _, _, rfl, _⟩ := h; rfl) | (obtain ⟨_, _, _, _, _, _, _, _, rfl, _⟩ := h; rfl) | (obtain ⟨_, _, _, _, _, _, _, _, _, rfl, _⟩ := h; rfl) | (obtain ⟨_, _, _, _, _, _, _, _, _, _, rfl, _⟩ := h; rfl) | (obtain ⟨_, _, _, _, _, _, _, _, _, _, _, rfl, _⟩ := h; rfl) | (obtain ⟨_, _, _, _, _, _, _, _, _, _, _, _, rfl, _⟩ := h; rfl) | (obtain ⟨_, _, _, _, _, _, _, _, _, _, _, _, _, rfl, _⟩ := h; rfl) | (obtain ⟨_, _, _, _, _, _, _, _, _, _, _, _, _, _, rfl, _⟩ := h; rfl) | (obtain ⟨_, _, _, _, _, _, _, _, _, _, _, _, _, _, _, rfl, _⟩ := h; rfl) | (obtain ⟨_, _, _, _, _, _, _, _, _, _, _, _, _, _, _, _, rfl, _⟩ := h; rfl) | (obtain ⟨_, _, _, _, _, _, _, _, _, _, _, _, _, _, _, _, _, rfl, _⟩ := h; rfl) | (obtain ⟨_, _, _, _, _, _, _, _, _, _, _, _, _, _, _, _, _, _, rfl, _⟩ := h; rfl) | (obtain ⟨_, _, _, _, _, _, _, _, _, _, _, _, _, _, _, _, _, _, _, rfl, _⟩ := h; rfl) | (obtain ⟨_, _, _, _, _, _, _, _, _, _, _, _, _, _, _, _, _, _, _, _, rfl, _⟩ := h; rfl) | (obtain ⟨_, _, _, _, _, _, _, _, _, _, _, _, _, _, _, _, _, _, _, _, _, rfl, _⟩ := h; rfl) | (obtain ⟨_, _, _, _, _, _, _, _, _, _, _, _, _, _, _, _, _, _, _, _, _, _, rfl, _⟩ := h; rfl) | (obtain ⟨_, _, _, _, _, _, _, _, _, _, _, _, _, _, _, _, _, _, _, _, _, _, _, rfl, _⟩ := h; rfl) | (obtain ⟨_, _, _, _, _, _, _, _, _, _, _, _, _, _, _, _, _, _, _, _, _, _, _, _, rfl, _⟩ := h; rfl) | (obtain ⟨_, _, _, _, _, _, _, _, _, _, _, _, _, _, _, _, _, _, _, _, _, _, _, _, _, rfl, _⟩ := h; rfl)) (fun X F0 ds L q e h1 h2 h3 h4 h5 cf hr hS => by subst h1 h2 h3 h4 h5; exact b_refused cf T hr B_asked C_kinds hS)
  have C_off : Cal P w K mg base 2 "_law_off" (["left"] : List Str) S_off := cal_of (N := (["left", "model", "at", "low", "high", "far"] : List Str)) (Nc := ([] : List Str)) D18 (g 18 _ rfl) ⟨rfl, rfl, rfl, by decide +kernel, rfl, by decide +kernel, by decide +kernel⟩ (by decide +kernel)
    (D18.bindsN fun _ _ _ _ _ _ us hl => match us, hl with | [_], _ => rfl) (fun ds L q e h => by first | (obtain ⟨rfl, _⟩ := h; rfl) | (obtain ⟨_, rfl, _⟩ := h; rfl) | (obtain ⟨_, _, rfl, _⟩ := h; rfl) | (obtain ⟨_, _, _, rfl, _⟩ := h; rfl) | (obtain ⟨_, _, _, _, rfl, _⟩ := h; rfl) | (obtain ⟨_, _, _, _, _, rfl, _⟩ := h; rfl) | (obtain ⟨_, _, _, _, _, _, rfl, _⟩ := h; rfl) | (obtain ⟨_, _, _, _, _, _, _, rfl, _⟩ := h; rfl) | (obtain ⟨_, _, _, _, _, _, _, _, rfl, _⟩ := h; rfl) | (obtain ⟨_, _, _, _, _, _, _, _, _, rfl, _⟩ := h; rfl) | (obtain ⟨_, _, _, _, _, _, _, _, _, _, rfl, _⟩ := h; rfl) | (obtain ⟨_, _, _, _, _, _, _, _, _, _, _, rfl, _⟩ := h; rfl) | (obtain ⟨_, _, _, _, _, _, _, _, _, _, _, _, rfl, _⟩ := h; rfl) | (obtain ⟨_, _, _, _, _, _, _, _, _, _, _, _, _, rfl, _⟩ := h; rfl) | (obtain ⟨_, _, _, _, _, _, _, _, _, _, _, _, _, _, rfl, _⟩ := h; rfl) | (obtain ⟨_, _, _, _, _, _, _, _, _, _, _, _, _, _, _, rfl, _⟩ := h; rfl) | (obtain ⟨_, _, _, _, _, _, _, _, _, _, _, _, _, _, _, _, rfl, _⟩ := h; rfl) | (obtain ⟨_, _, _, _, _, _, _, _, _, _, _, _, _, _, _, _, _, rfl, _⟩ := h; rfl) | (obtain ⟨_, _, _, _, _, _, _, _, _, _, _, _, _, _, _, _, _, _, rfl, _⟩ := h; rfl) | (obtain ⟨_, _, _, _, _, _, _, _, _, _, _, _, _, _, _, _, _, _, _, rfl, _⟩ := h; rfl) | (obtain ⟨_, _, _, _, _, _, _, _, _, _, _, _, _, _, _, _, _, _, _, _, rfl, _⟩ := h; rfl) | (obtain ⟨_, _, _, _, _, _, _, _, _, _, _, _, _, _, _, _, _, _, _, _, _, rfl, _⟩ := h; rfl) | (obtain ⟨_, _, _, _, _, _, _, _, _, _, _, _, _, _, _, _, _, _, _, _, _, _, rfl, _⟩ := h; rfl) | (obtain ⟨_, _, _, _, _, _, _, _, _, _, _, _, _, _, _, _, _, _, _, _, _, _, _, rfl, _⟩ := h; rfl) | (obtain ⟨_, _, _, _, _, _, _, _, _, _, _, _, _, _, _, _, _, _, _, _, _, _, _, _, rfl, _⟩ := h; rfl) | (obtain ⟨_, _, _, _, _, _, _, _, _, _, _, _, _, _, _, _, _, _, _, _, _, _, _, _, _, rfl, _⟩ := h; rfl)) (fun X F0 ds L q e h1 h2 h3 h4 h5 cf hr hS => by subst h1 h2 h3 h4 h5; exact b_off cf T hr C_next hS)
  have C_edge : Cal P w K mg base 2 "_law_edge" (["left"] : List Str) S_edge := cal_of (N := (["left"] : List Str)) (Nc := ([] : List Str)) D19 (g 19 _ rfl) ⟨rfl, rfl, rfl, by decide +kernel, rfl, by decide +kernel, by decide +kernel⟩ (by decide +kernel)
    (D19.bindsN fun _ _ _ _ _ _ us hl => match us, hl with | [_], _ => rfl) (fun ds L q e h => by first | (obtain ⟨rfl, _⟩ := h; rfl) | (obtain ⟨_, rfl, _⟩ := h; rfl) | (obtain ⟨_, _, rfl, _⟩ := h; rfl) | (obtain ⟨_, _, _, rfl, _⟩ := h; rfl) | (obtain ⟨_, _, _, _, rfl, _⟩ := h; rfl) | (obtain ⟨_, _, _, _, _, rfl, _⟩ := h; rfl) | (obtain ⟨_, _, _, _, _, _, rfl, _⟩ := h; rfl) | (obtain ⟨_, _, _, _, _, _, _, rfl, _⟩ := h; rfl) | (obtain ⟨_, _, _, _, _, _, _, _, rfl, _⟩ := h; rfl) | (obtain ⟨_, _, _, _, _, _, _, _, _, rfl, _⟩ := h; rfl) | (obtain ⟨_, _, _, _, _, _, _, _, _, _, rfl, _⟩ := h; rfl) | (obtain ⟨_, _, _, _, _, _, _, _, _, _, _, rfl, _⟩ := h; rfl) | (obtain ⟨_, _, _, _, _, _, _, _, _, _, _, _, rfl, _⟩ := h; rfl) | (obtain ⟨_, _, _, _, _, _, _, _, _, _, _, _, _, rfl, _⟩ := h; rfl) | (obtain ⟨_, _, _, _, _, _, _, _, _, _, _, _, _, _, rfl, _⟩ := h; rfl) | (obtain ⟨_, _, _, _, _, _, _, _, _, _, _, _, _, _, _, rfl, _⟩ := h; rfl) | (obtain ⟨_, _, _, _, _, _, _, _, _, _, _, _, _, _, _, _, rfl, _⟩ := h; rfl) | (obtain ⟨_, _, _, _, _, _, _, _, _, _, _, _, _, _, _, _, _, rfl, _⟩ := h; rfl) | (obtain ⟨_, _, _, _, _, _, _, _, _, _, _, _, _, _, _, _, _, _, rfl, _⟩ := h; rfl) | (obtain ⟨_, _, _, _, _, _, _, _, _, _, _, _, _, _, _, _, _, _, _, rfl, _⟩ := h; rfl) | (obtain ⟨_, _, _, _, _, _, _, _, _, _, _, _, _, _, _, _, _, _, _, _, rfl, _⟩ := h; rfl) | (obtain ⟨_, _, _, _, _, _, _, _, _, _, _, _, _, _, _, _, _, _, _, _, _, rfl, _⟩ := h; rfl) | (obtain ⟨_, _, _, _, _, _, _, _, _, _, _, _, _, _, _, _, _, _, _, _, _, _, rfl, _⟩ := h; rfl) | (obtain ⟨_, _, _, _, _, _, _, _, _, _, _, _, _, _, _, _, _, _, _, _, _, _, _, rfl, _⟩ := h; rfl) | (obtain ⟨_, _, _, _, _, _, _, _, _, _, _, _, _, _, _, _, _, _, _, _, _, _, _, _, rfl, _⟩ := h; rfl) | (obtain ⟨_, _, _, _, _, _, _, _, _, _, _, _, _, _, _, _, _, _, _, _, _, _, _, _, _, rfl, _⟩ := h; rfl)) (fun X F0 ds L q e h1 h2 h3 h4 h5 cf hr hS => by subst h1 h2 h3 h4 h5; exact b_edge cf T hr C_next hS)
  have C_edgeg : Cal P w K mg base 5 "_law_edge_good" (["model"] : List Str) S_edge_good := cal_of (N := (["model", "first", "found"] : List Str)) (Nc := (["which"] : List Str)) D20 (g 20 _ rfl) ⟨rfl, rfl, rfl, by decide +kernel, rfl, by decide +kernel, by decide +kernel⟩ (by decide +kernel)
    (D20.bindsN fun _ _ _ _ _ _ us hl => match us, hl with | [_], _ => rfl) (fun ds L q e h => by first | (obtain ⟨rfl, _⟩ := h; rfl) | (obtain ⟨_, rfl, _⟩ := h; rfl) | (obtain ⟨_, _, rfl, _⟩ := h; rfl) | (obtain ⟨_, _, _, rfl, _⟩ := h; rfl) | (obtain ⟨_, _, _, _, rfl, _⟩ := h; rfl) | (obtain ⟨_, _, _, _, _, rfl, _⟩ := h; rfl) | (obtain ⟨_, _, _, _, _, _, rfl, _⟩ := h; rfl) | (obtain ⟨_, _, _, _, _, _, _, rfl, _⟩ := h; rfl) | (obtain ⟨_, _, _, _, _, _, _, _, rfl, _⟩ := h; rfl) | (obtain ⟨_, _, _, _, _, _, _, _, _, rfl, _⟩ := h; rfl) | (obtain ⟨_, _, _, _, _, _, _, _, _, _, rfl, _⟩ := h; rfl) | (obtain ⟨_, _, _, _, _, _, _, _, _, _, _, rfl, _⟩ := h; rfl) | (obtain ⟨_, _, _, _, _, _, _, _, _, _, _, _, rfl, _⟩ := h; rfl) | (obtain ⟨_, _, _, _, _, _, _, _, _, _, _, _, _, rfl, _⟩ := h; rfl) | (obtain ⟨_, _, _, _, _, _, _, _, _, _, _, _, _, _, rfl, _⟩ := h; rfl) | (obtain ⟨_, _, _, _, _, _, _, _, _, _, _, _, _, _, _, rfl, _⟩ := h; rfl) | (obtain ⟨_, _, _, _, _, _, _, _, _, _, _, _, _, _, _, _, rfl, _⟩ := h; rfl) | (obtain ⟨_, _, _, _, _, _, _, _, _, _, _, _, _, _, _, _, _, rfl, _⟩ := h; rfl) | (obtain ⟨_, _, _, _, _, _, _, _, _, _, _, _, _, _, _, _, _, _, rfl, _⟩ := h; rfl) | (obtain ⟨_, _, _, _, _, _, _, _, _, _, _, _, _, _, _, _, _, _, _, rfl, _⟩ := h; rfl) | (obtain ⟨_, _, _, _, _, _, _, _, _, _, _, _, _, _, _, _, _, _, _, _, rfl, _⟩ := h; rfl) | (obtain ⟨_, _, _, _, _, _, _, _, _, _, _, _, _, _, _, _, _, _, _, _, _, rfl, _⟩ := h; rfl) | (obtain ⟨_, _, _, _, _, _, _, _, _, _, _, _, _, _, _, _, _, _, _, _, _, _, rfl, _⟩ := h; rfl) | (obtain ⟨_, _, _, _, _, _, _, _, _, _, _, _, _, _, _, _, _, _, _, _, _, _, _, rfl, _⟩ := h; rfl) | (obtain ⟨_, _, _, _, _, _, _, _, _, _, _, _, _, _, _, _, _, _, _, _, _, _, _, _, rfl, _⟩ := h; rfl) | (obtain ⟨_, _, _, _, _, _, _, _, _, _, _, _, _, _, _, _, _, _, _, _, _, _, _, _, _, rfl, _⟩ := h; rfl)) (fun X F0 ds L q e h1 h2 h3 h4 h5 cf hr hS => by subst h1 h2 h3 h4 h5; exact b_edge_good cf T hr C_lfirst C_asked hS)
  exact fn_ok (N := (["script", "cell", "left", "model", "stand", "which"] : List Str)) (Nc := ([] : List Str)) D21 ⟨rfl, rfl, rfl, by decide +kernel, rfl, by decide +kernel, by decide +kernel⟩ (by decide +kernel) (fun ds L q e h => by obtain ⟨_, rfl, _⟩ := h; rfl) (fun X F0 ds L q e h1 h2 h3 h4 h5 cf hr hS => by subst h1 h2 h3 h4 h5; exact b_law cf T hr C_left C_next C_off C_lfirst C_refused C_edge C_edgeg C_shown hS)
end K24
open PySem PySem.W PySem.Calls PyProof.Rows
theorem PySem.Challenge.cw_stormpost_k24_models_refused_holds : PySem.Challenge.rw_stormpost_k24_models_refused.Holds := by
  w_on; o_law
  refine HandSHeadRun.head_any (r := OpenLaw.row PySem.Challenge.rw_stormpost_k24_models_refused) (q := view (OpenLaw.row PySem.Challenge.rw_stormpost_k24_models_refused).prog [45]) (H := K24.hk) (ob := K24.ob) (M := 9000) (loose := K24.loose) (d := HandSHeadRun.topDef (OpenLaw.row PySem.Challenge.rw_stormpost_k24_models_refused).prog 45) (kwd := []) K24.ob_eq
    (by kernel_rfl) (fun s => by kernel_rfl) K24.run (by kernel_rfl) (by kernel_rfl) (by kernel_rfl) (by rfl) (by first | assumption | decide +kernel) (by decide +kernel) ⟨rfl, rfl, rfl, rfl, rfl, by decide +kernel⟩ ?hw ?hc
  case hw => w_witness2
  case hc =>
    refine Vs.walk_ofV (l := PySem.Challenge.rw_stormpost_k24_models_refused) (n := 63) (k := 6) (x := "script") (CX := fun w => L2N.CX PySem.Challenge.rw_stormpost_k24_models_refused.prog w) rfl (by decide) (by kernel_rfl) ⟨rfl, by decide, by decide⟩ ?F (fun w H s e s' h => Vs.noCX H s e s' h)
    intro w mg fa h Y G hmg0
    obtain ⟨K, KX, c⟩ := Y
    have hmg : mg ("law" : PySem.Str) = some (.ref fa) := by
      have e : (HandSHeadRun.topDef (OpenLaw.row PySem.Challenge.rw_stormpost_k24_models_refused).prog 45).name = ("law" : PySem.Str) := by kernel_rfl
      rw [← e]
      exact hmg0
    obtain ⟨fd, hb, hF⟩ := K24.facts (P := PySem.Challenge.rw_stormpost_k24_models_refused.prog) (w := w) KX G hmg c
    exact ⟨K, fd, Vs.spOf K K24.S_law, KX, hb, fun H a ns hl hO hS => Vs.law_sp (S := K24.S_law) (fun ns hn q e hq => ⟨ns, rfl, hn, hq⟩) H a ns hl hO hS, hF⟩


