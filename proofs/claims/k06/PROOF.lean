import PyProof.Rows.All
import Wide.All
import OpenK.AllK
import Wide.FinOn
import HandS.ForMost
import HandS.Zip
import HandS.IsInst
import HandS.Wide
import HandS.Defaults
import HandS.Exc
import HandS.WordsExc
import KE.KDictKeyed
import KE.KeyNested
import KE.SortData
import KE.LtData
import HandS.TupAny
import HandS.Style
import HandS.Deep
import KE.DataEq
import KE.DataCmp
import KE.DataMinMax
import HandS.ExcOwn
import HandS.Comp
import HandS.Walk
import HandS.Head0
import HandS.Head1
import HandS.Head2
import HandS.HeadEnd
import HandS.HeadHook1
import HandS.HeadHook2
import HandS.HeadHook3
import HandS.HeadHook4
import PySem.Challenge.RW_morethan_k06_whole_translated_sentences
set_option Elab.async false
set_option linter.all false
set_option maxRecDepth 100000
set_option maxHeartbeats 0
/-! Q1: data as trees, an abstract heap of lists and dicts, and how both lie in the layer's heap. -/
namespace Q
open PySem PySem.Spec PyProof.Rows L2

/-- a value as a tree: fro is a list that nothing changes any more, scr one from outside, ref n the n-th changing object -/
inductive D where
  | non | bl (b : Bool) | int (i : Int) | str (s : Str) | tup (ds : List D) | fro (ds : List D) | scr (ds : List D) | ref (n : Nat)
instance : Inhabited D := ⟨.non⟩
/-- an object that changes: a list; a dict with int and text keys; a dict with tuple keys -/
inductive O where
  | lst (ds : List D) | dk (kvs : List (Key × D)) | dt (kvs : List (D × D))
abbrev AH := List O
abbrev AS := List (Option D)
structure Ex where
  cls : Str
  fs : List (Str × D)
inductive Res (α : Type) where
  | stuck | ok (a : α) (h : AH) | ex (e : Ex) (h : AH)

/-- the addresses of the changing objects, in their order; those of lists that are just being made, which nobody sees -/
structure Mu where
  l : List Addr
  f : List Addr
instance : Membership Addr Mu := ⟨fun μ a => a ∈ μ.l ∨ a ∈ μ.f⟩
def Mu.push (μ : Mu) (p : Addr) : Mu := ⟨μ.l ++ [p], μ.f⟩
theorem mem_push {μ : Mu} {p a : Addr} : a ∈ μ.push p ↔ a ∈ μ ∨ a = p := by
  show (a ∈ μ.l ++ [p] ∨ a ∈ μ.f) ↔ (a ∈ μ.l ∨ a ∈ μ.f) ∨ a = p
  rw [List.mem_append, List.mem_singleton]
  exact ⟨fun h => h.elim (fun h => h.elim (fun h => .inl (.inl h)) .inr) fun h => .inl (.inr h), fun h => h.elim (fun h => h.elim (fun h => .inl (.inl h)) .inr) fun h => .inl (.inr h)⟩
theorem mem_at {μ : Mu} {n : Nat} {a : Addr} (h : μ.l[n]? = some a) : a ∈ μ := .inl (List.mem_of_getElem? h)
/-- how one state of the layer's heap comes out of another one: the changing objects stay in their places, all else stays -/
structure Stp0 (μ μ' : Mu) (H H' : Hp) : Prop where
  pre : ∀ (n : Nat) (a : Addr), μ.l[n]? = some a → μ'.l[n]? = some a
  new : ∀ a ∈ μ', a ∉ μ → H a = none
  keep : ∀ (a : Addr) (o : HO), H a = some o → a ∉ μ → H' a = some o
structure Stp (μ μ' : Mu) (H H' : Hp) : Prop extends Stp0 μ μ' H H' where
  fz : μ'.f = μ.f
  hid : ∀ (a : Addr) (o : HO), a ∈ μ.f → H a = some o → H' a = some o
theorem Stp.refl {μ : Mu} {H : Hp} : Stp μ μ H H := ⟨⟨fun _ _ h => h, fun a h n => absurd h n, fun _ _ h _ => h⟩, rfl, fun _ _ _ e => e⟩
theorem Stp0.stay {μ μ' : Mu} {H H' : Hp} {a : Addr} {o : HO} (s : Stp0 μ μ' H H') (e : H a = some o) (n : a ∉ μ) : a ∉ μ' := fun h => by
  have z := s.new a h n
  rw [e] at z; cases z
theorem Stp0.trans {μ μ1 μ2 : Mu} {H H1 H2 : Hp} (s : Stp0 μ μ1 H H1) (t : Stp0 μ1 μ2 H1 H2) : Stp0 μ μ2 H H2 where
  pre := fun n a h => t.pre n a (s.pre n a h)
  new := fun a h n => by
    by_cases h1 : a ∈ μ1
    · exact s.new a h1 n
    · have z := t.new a h h1
      cases e : H a with
      | none => rfl
      | some o => rw [s.keep a o e n] at z; cases z
  keep := fun a o e n => t.keep a o (s.keep a o e n) (s.stay e n)
theorem Stp.trans {μ μ1 μ2 : Mu} {H H1 H2 : Hp} (s : Stp μ μ1 H H1) (t : Stp μ1 μ2 H1 H2) : Stp μ μ2 H H2 where
  toStp0 := s.toStp0.trans t.toStp0
  fz := t.fz.trans s.fz
  hid := fun a o m e => t.hid a o (by rw [s.fz]; exact m) (s.hid a o m e)

/-- a tuple, a list that stands still -/
def TupAt (K : PySem.W.Frag) (H : Hp) (μ : Mu) (a : Addr) (xs : List V) : Prop :=
  (Rd H a (.tup xs) ∧ a ∉ μ) ∨ ∃ (o : Obj) (its : Array Value) (n : Nat), K.lookup a = some o ∧ o.cls = .type "tuple" ∧ o.data = .seq its n ∧ its.size ≤ sizeLine ∧ Vals xs its.toList
def LstAt (K : PySem.W.Frag) (H : Hp) (μ : Mu) (a : Addr) (xs : List V) : Prop :=
  (Rd H a (.lst xs) ∧ a ∉ μ) ∨ ∃ (o : Obj) (its : Array Value) (n : Nat), K.lookup a = some o ∧ o.cls = .type "list" ∧ o.dict = none ∧ o.data = .seq its n ∧ its.size ≤ sizeLine ∧ Vals xs its.toList
section
variable {K : PySem.W.Frag} {H H' : Hp} {μ μ' : Mu} {a : Addr} {xs : List V}
theorem TupAt.sq (t : TupAt K H μ a xs) : SqT K H a xs := t.imp (·.1) id
theorem LstAt.sq (t : LstAt K H μ a xs) : SqL K H a xs := t.imp (·.1) id
theorem Rd.stp {u : HO} (s : Stp0 μ μ' H H') (r : Rd H a u) (n : a ∉ μ) : Rd H' a u ∧ a ∉ μ' := by
  rcases r with e | ⟨o, e⟩
  · exact ⟨.inl (s.keep a _ e n), s.stay e n⟩
  · exact ⟨.inr ⟨o, s.keep a _ e n⟩, s.stay e n⟩
theorem TupAt.stp0 (s : Stp0 μ μ' H H') (t : TupAt K H μ a xs) : TupAt K H' μ' a xs := t.imp (fun z => Rd.stp s z.1 z.2) id
theorem LstAt.stp0 (s : Stp0 μ μ' H H') (t : LstAt K H μ a xs) : LstAt K H' μ' a xs := t.imp (fun z => Rd.stp s z.1 z.2) id
theorem TupAt.stp (s : Stp μ μ' H H') (t : TupAt K H μ a xs) : TupAt K H' μ' a xs := t.stp0 s.toStp0
theorem LstAt.stp (s : Stp μ μ' H H') (t : LstAt K H μ a xs) : LstAt K H' μ' a xs := t.stp0 s.toStp0
end

mutual
/-- a tree lies at a value -/
inductive RD (K : PySem.W.Frag) (H : Hp) (μ : Mu) : D → V → Prop
  | non : RD K H μ .non .non
  | bl (b : Bool) : RD K H μ (.bl b) (.bl b)
  | int (i : Int) : RD K H μ (.int i) (.int i)
  | str (s : Str) : RD K H μ (.str s) (.str s)
  | tup {ds : List D} {a : Addr} {xs : List V} : TupAt K H μ a xs → RDs K H μ ds xs → RD K H μ (.tup ds) (.ref a)
  | fro {ds : List D} {a : Addr} {xs : List V} : H a = some (.lst xs) → a ∉ μ → RDs K H μ ds xs → RD K H μ (.fro ds) (.ref a)
  | scr {ds : List D} {a : Addr} {xs : List V} : LstAt K H μ a xs → RDs K H μ ds xs → RD K H μ (.scr ds) (.ref a)
  | ref {n : Nat} {a : Addr} : μ.l[n]? = some a → RD K H μ (.ref n) (.ref a)
inductive RDs (K : PySem.W.Frag) (H : Hp) (μ : Mu) : List D → List V → Prop
  | nil : RDs K H μ [] []
  | cons {d : D} {v : V} {ds : List D} {vs : List V} : RD K H μ d v → RDs K H μ ds vs → RDs K H μ (d :: ds) (v :: vs)
end
section
variable {K : PySem.W.Frag} {H H' : Hp} {μ μ' : Mu}
mutual
theorem RD.stp0 (s : Stp0 μ μ' H H') : ∀ {d : D} {v : V}, RD K H μ d v → RD K H' μ' d v
  | .non, _, h => by cases h; exact .non
  | .bl b, _, h => by cases h; exact .bl b
  | .int i, _, h => by cases h; exact .int i
  | .str x, _, h => by cases h; exact .str x
  | .tup ds, _, h => by cases h with | tup t r => exact .tup (t.stp0 s) (RDs.stp0 s r)
  | .fro ds, _, h => by cases h with | fro e n r => exact .fro (s.keep _ _ e n) (s.stay e n) (RDs.stp0 s r)
  | .scr ds, _, h => by cases h with | scr t r => exact .scr (t.stp0 s) (RDs.stp0 s r)
  | .ref n, _, h => by cases h with | ref e => exact .ref (s.pre _ _ e)
theorem RDs.stp0 (s : Stp0 μ μ' H H') : ∀ {ds : List D} {vs : List V}, RDs K H μ ds vs → RDs K H' μ' ds vs
  | [], _, h => by cases h; exact .nil
  | d :: ds, _, h => by cases h with | cons h1 h2 => exact .cons (RD.stp0 s h1) (RDs.stp0 s h2)
end
theorem RD.stp (s : Stp μ μ' H H') {d : D} {v : V} (r : RD K H μ d v) : RD K H' μ' d v := r.stp0 s.toStp0
theorem RDs.stp (s : Stp μ μ' H H') {ds : List D} {vs : List V} (r : RDs K H μ ds vs) : RDs K H' μ' ds vs := r.stp0 s.toStp0
theorem RDs.length : ∀ {ds : List D} {vs : List V}, RDs K H μ ds vs → vs.length = ds.length
  | [], _, h => by cases h; rfl
  | _ :: ds, _, h => by cases h with | cons _ h2 => simp [RDs.length h2]
theorem RDs.get : ∀ {ds : List D} {vs : List V} {i : Nat} {d : D}, RDs K H μ ds vs → ds[i]? = some d → ∃ v, vs[i]? = some v ∧ RD K H μ d v
  | [], _, _, _, _, e => by simp at e
  | _ :: _, _, 0, _, h, e => by
    cases h with
    | cons h1 _ => simp at e; subst e; exact ⟨_, rfl, h1⟩
  | _ :: ds, _, i + 1, _, h, e => by
    cases h with
    | cons _ h2 =>
      obtain ⟨v, e1, r⟩ := RDs.get (i := i) h2 (by simpa using e)
      exact ⟨v, by simpa using e1, r⟩
theorem RDs.get' : ∀ {ds : List D} {vs : List V} {i : Nat} {v : V}, RDs K H μ ds vs → vs[i]? = some v → ∃ d, ds[i]? = some d ∧ RD K H μ d v
  | [], _, _, _, h, e => by cases h; simp at e
  | d :: _, _, 0, _, h, e => by
    cases h with
    | cons h1 _ => simp at e; subst e; exact ⟨d, rfl, h1⟩
  | _ :: ds, _, i + 1, _, h, e => by
    cases h with
    | cons _ h2 =>
      obtain ⟨v, e1, r⟩ := RDs.get' (i := i) h2 (by simpa using e)
      exact ⟨v, by simpa using e1, r⟩
theorem RDs.append : ∀ {ds es : List D} {vs ws : List V}, RDs K H μ ds vs → RDs K H μ es ws → RDs K H μ (ds ++ es) (vs ++ ws)
  | [], _, _, _, h, r => by cases h; exact r
  | _ :: _, _, _, _, h, r => by cases h with | cons h1 h2 => exact .cons h1 (RDs.append h2 r)
theorem RDs.take : ∀ {ds : List D} {vs : List V} (n : Nat), RDs K H μ ds vs → RDs K H μ (ds.take n) (vs.take n)
  | _, _, 0, _ => .nil
  | [], _, _ + 1, h => by cases h; exact .nil
  | _ :: _, _, n + 1, h => by cases h with | cons h1 h2 => exact .cons h1 (RDs.take n h2)
theorem RDs.drop : ∀ {ds : List D} {vs : List V} (n : Nat), RDs K H μ ds vs → RDs K H μ (ds.drop n) (vs.drop n)
  | _, _, 0, h => h
  | [], _, _ + 1, h => by cases h; exact .nil
  | _ :: _, _, n + 1, h => by cases h with | cons h1 h2 => exact RDs.drop n h2
theorem RDs.set {d : D} {v : V} (r : RD K H μ d v) : ∀ {ds : List D} {vs : List V} (n : Nat), RDs K H μ ds vs → RDs K H μ (ds.set n d) (vs.set n v)
  | [], _, _, h => by cases h; exact .nil
  | _ :: _, _, 0, h => by cases h with | cons h1 h2 => exact .cons r h2
  | _ :: _, _, n + 1, h => by cases h with | cons h1 h2 => exact .cons h1 (RDs.set r n h2)
theorem RDs.reverse : ∀ {ds : List D} {vs : List V}, RDs K H μ ds vs → RDs K H μ ds.reverse vs.reverse
  | [], _, h => by cases h; exact .nil
  | _ :: _, _, h => by
    cases h with
    | cons h1 h2 =>
      rw [List.reverse_cons, List.reverse_cons]
      exact (RDs.reverse h2).append (.cons h1 .nil)
theorem RDs.dropLast {ds : List D} {vs : List V} (h : RDs K H μ ds vs) : RDs K H μ ds.dropLast vs.dropLast := by
  rw [List.dropLast_eq_take, List.dropLast_eq_take, h.length]
  exact h.take _
theorem RDs.eraseIdx : ∀ {ds : List D} {vs : List V} (n : Nat), RDs K H μ ds vs → RDs K H μ (ds.eraseIdx n) (vs.eraseIdx n)
  | [], _, _, h => by cases h; exact .nil
  | _ :: _, _, 0, h => by cases h with | cons h1 h2 => exact h2
  | _ :: _, _, n + 1, h => by cases h with | cons h1 h2 => exact .cons h1 (RDs.eraseIdx n h2)
theorem RDs.one {d : D} {vs : List V} (h : RDs K H μ [d] vs) : ∃ v, vs = [v] ∧ RD K H μ d v := by
  cases h with | cons h1 h2 => cases h2; exact ⟨_, rfl, h1⟩
theorem RDs.two {d e : D} {vs : List V} (h : RDs K H μ [d, e] vs) : ∃ v w, vs = [v, w] ∧ RD K H μ d v ∧ RD K H μ e w := by
  cases h with | cons h1 h2 => obtain ⟨w, rfl, h3⟩ := h2.one; exact ⟨_, w, rfl, h1, h3⟩
theorem RDs.ints : ∀ {ns : List Int} {vs : List V}, RDs K H μ (ns.map D.int) vs → vs = ns.map V.int
  | [], _, h => by cases h; rfl
  | n :: ns, _, h => by
    cases h with
    | cons h1 h2 => cases h1; rw [RDs.ints h2]; rfl
theorem RDs.of_ints : ∀ (ns : List Int), RDs K H μ (ns.map D.int) (ns.map V.int)
  | [] => .nil
  | n :: ns => .cons (.int n) (RDs.of_ints ns)
theorem RDs.bls : ∀ {ns : List Bool} {vs : List V}, RDs K H μ (ns.map D.bl) vs → vs = ns.map V.bl
  | [], _, h => by cases h; rfl
  | n :: ns, _, h => by
    cases h with
    | cons h1 h2 => cases h1; rw [RDs.bls h2]; rfl
theorem RDs.strs : ∀ {ns : List Str} {vs : List V}, RDs K H μ (ns.map D.str) vs → vs = ns.map V.str
  | [], _, h => by cases h; rfl
  | n :: ns, _, h => by
    cases h with
    | cons h1 h2 => cases h1; rw [RDs.strs h2]; rfl
theorem RDs.of_strs : ∀ (ns : List Str), RDs K H μ (ns.map D.str) (ns.map V.str)
  | [] => .nil
  | n :: ns => .cons (.str n) (RDs.of_strs ns)
end

/-! ### keys -/
mutual
/-- a tree as a key of a dict -/
def nk : D → Option NestedKey
  | .non => some .none
  | .bl b => some (.num (if b = true then 1 else 0))
  | .int i => some (.num i)
  | .str s => some (.text s)
  | .tup ds => (nks ds).map .tup
  | .fro _ => none
  | .scr _ => none
  | .ref _ => none
def nks : List D → Option (List NestedKey)
  | [] => some []
  | d :: ds => match nk d, nks ds with
    | some k, some ks => some (k :: ks)
    | _, _ => none
end
section
variable {X : Cx} {pins : List (Addr × Obj)} {σ : L2.St} {H : Hp} {s : Shared} {μ : Mu}
mutual
theorem RD.nested (I : Inv X pins σ H s) : ∀ (d : D) (v : V) (u : Value) (k : NestedKey), RD X.K H μ d v → RelV v u → nk d = some k → NestedIs s.heap k u
  | .non, _, _, _, h, r, e => by cases h; cases r; cases e; exact .none
  | .bl b, _, _, _, h, r, e => by cases h; cases r; cases e; exact .bool rfl
  | .int i, _, _, _, h, r, e => by cases h; obtain ⟨t, rfl⟩ := r; cases e; exact .int i t
  | .str x, _, _, _, h, r, e => by cases h; obtain ⟨t, rfl⟩ := r; cases e; exact .text x t
  | .tup ds, _, _, _, h, r, e => by
    cases h with
    | tup t rr =>
      cases r
      obtain ⟨its, rv, ⟨o, ho, hc, n, hd⟩, _⟩ := I.tuple t.sq
      rw [nk] at e
      obtain ⟨ks, hks, rfl⟩ := Option.map_eq_some_iff.mp e
      exact .tup ho hc hd (by simpa using RDs.nested I ds _ _ ks rr rv hks)
  | .fro _, _, _, _, _, _, e => by cases e
  | .scr _, _, _, _, _, _, e => by cases e
  | .ref _, _, _, _, _, _, e => by cases e
theorem RDs.nested (I : Inv X pins σ H s) : ∀ (ds : List D) (vs : List V) (us : List Value) (ks : List NestedKey), RDs X.K H μ ds vs → Vals vs us → nks ds = some ks → NestedAll s.heap ks us
  | [], _, _, _, h, r, e => by cases h; cases r; cases e; exact .nil
  | d :: ds, _, _, _, h, r, e => by
    cases h with
    | cons h1 h2 =>
      cases r with
      | cons r1 r2 =>
        rw [nks] at e
        split at e
        · rename_i k ks e1 e2
          cases e
          exact .cons (RD.nested I d _ _ k h1 r1 e1) (RDs.nested I ds _ _ ks h2 r2 e2)
        · cases e
end
end
end Q

/-! Q2: the abstract heap in the layer's heap; readings of evaluators. -/
namespace Q
open PySem PySem.Spec PyProof.Rows L2

/-- the dict at a, by its entries -/
def dxO (a : Addr) (es : List DictEntry) : HO := .ext fun h => ∃ o ep, h.get? a = some o ∧ o.ExactDict ∧ o.data = .dict es.toArray ep
def RKV (K : PySem.W.Frag) (H : Hp) (μ : Mu) : List (Key × D) → List (Key × V) → Prop := Paired fun p q => p.1 = q.1 ∧ RD K H μ p.2 q.2
structure RT (K : PySem.W.Frag) (H : Hp) (μ : Mu) (p : D × D) (x : NestedKey × Addr × Value) : Prop where
  key : nk p.1 = some x.1
  dep : x.1.depth ≤ 8
  rk : RD K H μ p.1 (.ref x.2.1)
  val : ∃ v, RelV v x.2.2 ∧ RD K H μ p.2 v
inductive RelO (P : Program) (w : World) (K : PySem.W.Frag) (H : Hp) (μ : Mu) : O → Addr → Prop
  | lst {ds : List D} {a : Addr} {xs : List V} : H a = some (.lst xs) → RDs K H μ ds xs → RelO P w K H μ (.lst ds) a
  | dk {kvs : List (Key × D)} {a : Addr} {qs : List (Key × V)} : H a = some (.dK qs) → RKV K H μ kvs qs → RelO P w K H μ (.dk kvs) a
  | dt {kvs : List (D × D)} {a : Addr} {xs : List (NestedKey × Addr × Value)} : H a = some (dxO a (xs.map (entryOfKey (nestedKind P w)))) → (a == sysModules) = false → kvs.length ≤ sizeLine → Paired (RT K H μ) kvs xs → (xs.map (·.1)).Nodup → RelO P w K H μ (.dt kvs) a
structure RelH (P : Program) (w : World) (K : PySem.W.Frag) (H : Hp) (μ : Mu) (h : AH) : Prop where
  len : μ.l.length = h.length
  nd : μ.l.Nodup
  dj : ∀ a ∈ μ.l, a ∉ μ.f
  fo : ∀ a ∈ μ.f, ∃ u, H a = some u
  obj : ∀ (n : Nat) (o : O) (a : Addr), h[n]? = some o → μ.l[n]? = some a → RelO P w K H μ o a

section
variable {P : Program} {w : World} {K : PySem.W.Frag} {H H' : Hp} {μ μ' : Mu} {h h' : AH} {a p : Addr} {o : O} {n : Nat}
theorem RelO.there (r : RelO P w K H μ o a) : ∃ u, H a = some u := by
  cases r with
  | lst e _ => exact ⟨_, e⟩
  | dk e _ => exact ⟨_, e⟩
  | dt e _ _ _ _ => exact ⟨_, e⟩
theorem RelO.mut (r : RelO P w K H μ o a) : Mut (H a) := by
  cases r with
  | lst e _ => rw [e]; trivial
  | dk e _ => rw [e]; trivial
  | dt e _ _ _ _ => rw [e]; trivial
theorem paired_mono {α β : Type} {F G : α → β → Prop} (f : ∀ a b, F a b → G a b) : ∀ {l₁ : List α} {l₂ : List β}, Paired F l₁ l₂ → Paired G l₁ l₂
  | _, _, .nil => .nil
  | _, _, .cons r t => .cons (f _ _ r) (paired_mono f t)
theorem RT.stp0 {p : D × D} {x : NestedKey × Addr × Value} (s : Stp0 μ μ' H H') (r : RT K H μ p x) : RT K H' μ' p x :=
  ⟨r.key, r.dep, r.rk.stp0 s, let ⟨v, a, b⟩ := r.val; ⟨v, a, b.stp0 s⟩⟩
theorem RT.stp {p : D × D} {x : NestedKey × Addr × Value} (s : Stp μ μ' H H') (r : RT K H μ p x) : RT K H' μ' p x := r.stp0 s.toStp0
theorem RKV.stp0 {kvs : List (Key × D)} {qs : List (Key × V)} (s : Stp0 μ μ' H H') (r : RKV K H μ kvs qs) : RKV K H' μ' kvs qs := paired_mono (fun _ _ z => ⟨z.1, z.2.stp0 s⟩) r
theorem RKV.stp {kvs : List (Key × D)} {qs : List (Key × V)} (s : Stp μ μ' H H') (r : RKV K H μ kvs qs) : RKV K H' μ' kvs qs := RKV.stp0 s.toStp0 r
theorem RelO.stp0 (s : Stp0 μ μ' H H') (e : H' a = H a) (r : RelO P w K H μ o a) : RelO P w K H' μ' o a := by
  cases r with
  | lst e1 r => exact .lst (e.trans e1) (r.stp0 s)
  | dk e1 r => exact .dk (e.trans e1) (r.stp0 s)
  | dt e1 z l r nd => exact .dt (e.trans e1) z l (paired_mono (fun _ _ q => q.stp0 s) r) nd
theorem RelO.stp (s : Stp μ μ' H H') (e : H' a = H a) (r : RelO P w K H μ o a) : RelO P w K H' μ' o a := r.stp0 s.toStp0 e
theorem RelH.at (r : RelH P w K H μ h) (e : μ.l[n]? = some a) : ∃ o, h[n]? = some o ∧ RelO P w K H μ o a := by
  have hn : n < h.length := by rw [← r.len]; exact (List.getElem?_eq_some_iff.mp e).1
  exact ⟨h[n], List.getElem?_eq_getElem hn, r.obj n _ a (List.getElem?_eq_getElem hn) e⟩
theorem RelH.addr (r : RelH P w K H μ h) (e : h[n]? = some o) : ∃ a, μ.l[n]? = some a ∧ RelO P w K H μ o a := by
  have hn : n < μ.l.length := by rw [r.len]; exact (List.getElem?_eq_some_iff.mp e).1
  exact ⟨μ.l[n], List.getElem?_eq_getElem hn, r.obj n o _ e (List.getElem?_eq_getElem hn)⟩
theorem RelH.mem (r : RelH P w K H μ h) (m : a ∈ μ) : ∃ u, H a = some u := by
  rcases m with m | m
  · obtain ⟨n, e⟩ := List.mem_iff_getElem?.mp m
    obtain ⟨o, _, q⟩ := r.at e
    exact q.there
  · exact r.fo a m
theorem RelH.fresh (r : RelH P w K H μ h) (e : H p = none) : p ∉ μ := fun m => by
  obtain ⟨u, q⟩ := r.mem m
  rw [e] at q; cases q
/-- the changing objects stand as they stood -/
theorem RelH.stp (s : Stp μ μ H H') (same : ∀ a ∈ μ.l, H' a = H a) (r : RelH P w K H μ h) : RelH P w K H' μ h :=
  ⟨r.len, r.nd, r.dj, fun a m => let ⟨u, e⟩ := r.fo a m; ⟨u, s.hid a u m e⟩, fun n o a e1 e2 => (r.obj n o a e1 e2).stp s (same a (List.mem_of_getElem? e2))⟩
/-- something new that does not change -/
theorem Stp.laid {u : HO} (e : H p = none) : Stp μ μ H (upd H p u) :=
  ⟨⟨fun _ _ z => z, fun a m n => absurd m n, fun a o q _ => by rw [upd_ne (ne_of_none q e)]; exact q⟩, rfl, fun a o _ q => by rw [upd_ne (ne_of_none q e)]; exact q⟩
theorem RelH.laid {u : HO} (e : H p = none) (r : RelH P w K H μ h) : RelH P w K (upd H p u) μ h :=
  r.stp (Stp.laid e) fun a m => upd_ne fun z => r.fresh e (z ▸ .inl m)
theorem RD.tup_laid {ds : List D} {xs : List V} (r : RelH P w K H μ h) (e : H p = none) (q : RDs K H μ ds xs) : RD K (upd H p (.tup xs)) μ (.tup ds) (.ref p) :=
  .tup (.inl ⟨.inl upd_same, r.fresh e⟩) (q.stp (Stp.laid e))
theorem RD.fro_laid {ds : List D} {xs : List V} (r : RelH P w K H μ h) (e : H p = none) (q : RDs K H μ ds xs) : RD K (upd H p (.lst xs)) μ (.fro ds) (.ref p) :=
  .fro upd_same (r.fresh e) (q.stp (Stp.laid e))
theorem get_append_new {α : Type} {l : List α} {x : α} : (l ++ [x])[l.length]? = some x := by simp
/-- a changing object more -/
theorem Stp.more {u : HO} (e : H p = none) : Stp μ (μ.push p) H (upd H p u) where
  pre := fun n a z => by
    have hn := (List.getElem?_eq_some_iff.mp z).1
    show (μ.l ++ [p])[n]? = some a
    rw [List.getElem?_append_left hn]; exact z
  new := fun a m n => by
    rcases mem_push.mp m with q | q
    · exact absurd q n
    · rw [q]; exact e
  keep := fun a o q _ => by rw [upd_ne (ne_of_none q e)]; exact q
  fz := rfl
  hid := fun a o _ q => by rw [upd_ne (ne_of_none q e)]; exact q
theorem RelH.more {u : HO} (e : H p = none) (r : RelH P w K H μ h) (q : RelO P w K (upd H p u) (μ.push p) o p) : RelH P w K (upd H p u) (μ.push p) (h ++ [o]) where
  len := by simp [Mu.push, r.len]
  nd := by
    show (μ.l ++ [p]).Nodup
    rw [List.nodup_append]
    refine ⟨r.nd, by simp, fun a m b mb => ?_⟩
    rw [List.mem_singleton.mp mb]
    rintro rfl
    exact r.fresh e (.inl m)
  dj := fun a m => by
    rcases List.mem_append.mp (show a ∈ μ.l ++ [p] from m) with m | m
    · exact r.dj a m
    · rw [List.mem_singleton.mp m]
      exact fun z => r.fresh e (.inr z)
  fo := fun a m => let ⟨u, q⟩ := r.fo a m; ⟨u, by rw [upd_ne (ne_of_none q e)]; exact q⟩
  obj := fun n o' a e1 e2 => by
    replace e2 : (μ.l ++ [p])[n]? = some a := e2
    by_cases hn : n < μ.l.length
    · rw [List.getElem?_append_left (by rw [← r.len]; exact hn)] at e1
      rw [List.getElem?_append_left hn] at e2
      refine (r.obj n o' a e1 e2).stp (Stp.more e) (upd_ne ?_)
      rintro rfl
      exact r.fresh e (.inl (List.mem_of_getElem? e2))
    · have hl : n < (h ++ [o]).length := (List.getElem?_eq_some_iff.mp e1).1
      have hl' : n < h.length + 1 := by simpa using hl
      have en : n = μ.l.length := by have := r.len; omega
      subst en
      rw [get_append_new] at e2
      cases e2
      rw [r.len, get_append_new] at e1
      cases e1
      exact q
theorem RD.last {p : Addr} : RD K H (μ.push p) (.ref μ.l.length) (.ref p) := .ref (by simp [Mu.push])
/-- a changing object written -/
theorem Stp.wrote {u : HO} (r : RelH P w K H μ h) (e : μ.l[n]? = some a) : Stp μ μ H (upd H a u) :=
  ⟨⟨fun _ _ z => z, fun a m n => absurd m n, fun b o q nb => by
    have hne : b ≠ a := fun z => nb (by rw [z]; exact mem_at e)
    rw [upd_ne hne]; exact q⟩, rfl, fun b o m q => by
    have hne : b ≠ a := fun z => r.dj a (List.mem_of_getElem? e) (z ▸ m)
    rw [upd_ne hne]; exact q⟩
theorem RelH.wrote {u : HO} (e : μ.l[n]? = some a) (r : RelH P w K H μ h) (q : RelO P w K (upd H a u) μ o a) : RelH P w K (upd H a u) μ (h.set n o) where
  len := by simp [r.len]
  nd := r.nd
  dj := r.dj
  fo := fun b m => let ⟨v, q⟩ := r.fo b m; ⟨v, (Stp.wrote r e).hid b v m q⟩
  obj := fun k o' b e1 e2 => by
    by_cases hk : n = k
    · subst hk
      rw [e] at e2; cases e2
      have hn : n < h.length := by rw [← r.len]; exact (List.getElem?_eq_some_iff.mp e).1
      rw [List.getElem?_set_self hn] at e1
      cases e1
      exact q
    · rw [List.getElem?_set_ne hk] at e1
      refine (r.obj k o' b e1 e2).stp (Stp.wrote r e) (upd_ne ?_)
      rintro rfl
      obtain ⟨h1, g1⟩ := List.getElem?_eq_some_iff.mp e
      obtain ⟨h2, g2⟩ := List.getElem?_eq_some_iff.mp e2
      exact hk ((List.getElem_inj r.nd).mp (g1.trans g2.symm))
/-! ### a list that is being made -/
def Mu.hide (μ : Mu) (p : Addr) : Mu := ⟨μ.l, p :: μ.f⟩
theorem Stp0.hide {u : HO} (e : H p = none) : Stp0 μ (μ.hide p) H (upd H p u) where
  pre := fun _ _ z => z
  new := fun a m n => by
    rcases m with m | m
    · exact absurd (.inl m) n
    · rcases List.mem_cons.mp m with rfl | m
      · exact e
      · exact absurd (.inr m) n
  keep := fun a o q _ => by rw [upd_ne (ne_of_none q e)]; exact q
theorem RelH.hide {u : HO} (e : H p = none) (r : RelH P w K H μ h) : RelH P w K (upd H p u) (μ.hide p) h where
  len := r.len
  nd := r.nd
  dj := fun a m => fun z => by
    rcases List.mem_cons.mp z with rfl | z
    · exact r.fresh e (.inl m)
    · exact r.dj a m z
  fo := fun a m => by
    rcases List.mem_cons.mp m with rfl | m
    · exact ⟨u, upd_same⟩
    · obtain ⟨v, q⟩ := r.fo a m
      exact ⟨v, by rw [upd_ne (ne_of_none q e)]; exact q⟩
  obj := fun n o a e1 e2 => (r.obj n o a e1 e2).stp0 (Stp0.hide e) (upd_ne fun z => r.fresh e (z ▸ mem_at e2))
/-- the hidden list is written -/
theorem Stp0.poke {u : HO} (m : p ∈ μ.f) : Stp0 μ μ H (upd H p u) :=
  ⟨fun _ _ z => z, fun a m n => absurd m n, fun a o q n => by
    have hne : a ≠ p := fun z => n (by rw [z]; exact .inr m)
    rw [upd_ne hne]; exact q⟩
theorem RelH.poke {u : HO} (m : p ∈ μ.f) (r : RelH P w K H μ h) : RelH P w K (upd H p u) μ h where
  len := r.len
  nd := r.nd
  dj := r.dj
  fo := fun a ma => by
    by_cases ha : a = p
    · rw [ha]; exact ⟨u, upd_same⟩
    · rw [upd_ne ha]; exact r.fo a ma
  obj := fun n o a e1 e2 => (r.obj n o a e1 e2).stp0 (Stp0.poke m) (upd_ne fun z => r.dj a (List.mem_of_getElem? e2) (z ▸ m))
/-- seen again -/
theorem Stp0.show {f : List Addr} (hf : ∀ a ∈ f, a ∈ μ.f) : Stp0 μ ⟨μ.l, f⟩ H H :=
  ⟨fun _ _ z => z, fun a m n => (n (m.elim .inl fun z => .inr (hf a z))).elim, fun _ _ q _ => q⟩
theorem RelH.show {f : List Addr} (hf : ∀ a ∈ f, a ∈ μ.f) (r : RelH P w K H μ h) : RelH P w K H ⟨μ.l, f⟩ h where
  len := r.len
  nd := r.nd
  dj := fun a m z => r.dj a m (hf a z)
  fo := fun a m => r.fo a (hf a m)
  obj := fun n o a e1 e2 => (r.obj n o a e1 e2).stp0 (Stp0.show hf) rfl
/-- a step in the midst of the making, as one from its beginning -/
theorem Stp.within {H2 : Hp} {μ2 : Mu} {f : List Addr} (s : Stp μ ⟨μ'.l, μ.f⟩ H H') (hp : H p = none) (hf : μ'.f = p :: μ.f) (t : Stp μ' μ2 H' H2) (dj : ∀ a ∈ μ2.l, a ∉ μ2.f) : Stp μ ⟨μ2.l, μ.f⟩ H H2 where
  pre := fun n a h => t.pre n a (s.pre n a h)
  new := fun a m n => by
    have hl : a ∈ μ2.l := m.elim id fun z => absurd (.inr z) n
    by_cases h1 : a ∈ μ'.l
    · exact s.new a (.inl h1) n
    · have h2 : a ∉ μ' := fun z => z.elim h1 fun z => dj a hl (by rw [t.fz]; exact z)
      have z := t.new a (.inl hl) h2
      cases e : H a with
      | none => rfl
      | some o => rw [s.keep a o e n] at z; cases z
  keep := fun a o e n => by
    have h1 := s.keep a o e n
    have h2 := s.toStp0.stay e n
    refine t.keep a o h1 fun z => ?_
    rcases z with z | z
    · exact h2 (.inl z)
    · rw [hf] at z
      rcases List.mem_cons.mp z with rfl | z
      · rw [hp] at e; cases e
      · exact h2 (.inr z)
  fz := rfl
  hid := fun a o m e => t.hid a o (by rw [hf]; exact List.mem_cons_of_mem _ m) (s.hid a o m e)
end

/-! ### slots -/
def RelS (K : PySem.W.Frag) (H : Hp) (μ : Mu) (σ : AS) (τ : L2.St) : Prop := σ.length = τ.length ∧ ∀ (i : Nat) (d : D), σ[i]? = some (some d) → ∃ v, τ[i]? = some (some v) ∧ RD K H μ d v
section
variable {K : PySem.W.Frag} {H H' : Hp} {μ μ' : Mu} {σ : AS} {τ : L2.St}
theorem RelS.stp (s : Stp μ μ' H H') (r : RelS K H μ σ τ) : RelS K H' μ' σ τ := ⟨r.1, fun i d e => let ⟨v, a, b⟩ := r.2 i d e; ⟨v, a, b.stp s⟩⟩
theorem RelS.set {d : D} {v : V} (r : RelS K H μ σ τ) (q : RD K H μ d v) (i : Nat) : RelS K H μ (σ.set i (some d)) (τ.set i (some v)) := by
  refine ⟨by simp [r.1], fun j e h => ?_⟩
  by_cases hj : i = j
  · subst hj
    have hi : i < σ.length := by
      have := (List.getElem?_eq_some_iff.mp h).1
      simpa using this
    rw [List.getElem?_set_self hi] at h
    cases h
    exact ⟨v, List.getElem?_set_self (by rw [← r.1]; exact hi), q⟩
  · rw [List.getElem?_set_ne hj] at h
    rw [List.getElem?_set_ne hj]
    exact r.2 j e h
/-- slots forgotten -/
def wipeA (σ : AS) : List Nat → AS
  | [] => σ
  | v :: vs => (wipeA σ vs).set v none
theorem RelS.wipe (r : RelS K H μ σ τ) : ∀ vs : List Nat, RelS K H μ (wipeA σ vs) (L2.wipe τ vs)
  | [] => r
  | v :: vs => by
    have ih := RelS.wipe r vs
    refine ⟨by simp [wipeA, L2.wipe, ih.1], fun j e h => ?_⟩
    simp only [wipeA, L2.wipe] at h ⊢
    by_cases hj : v = j
    · subst hj
      have hi : v < (wipeA σ vs).length := by
        have := (List.getElem?_eq_some_iff.mp h).1
        simpa using this
      rw [List.getElem?_set_self hi] at h
      cases h
    · rw [List.getElem?_set_ne hj] at h
      rw [List.getElem?_set_ne hj]
      exact ih.2 j e h
end

/-! ### an exception of the program's own -/
def RX (mg : Str → Option Value) (K : PySem.W.Frag) (H : Hp) (μ : Mu) (e : Ex) (cls : Value) (dd : Option Addr) : Prop :=
  ∃ (C d : Addr) (fs : List (Str × V)), mg e.cls = some (.ref C) ∧ cls = .ref C ∧ dd = some d ∧ d ∉ μ ∧ H d = some (.xd fs) ∧ Paired (fun (p : Str × D) (q : Str × V) => p.1 = q.1 ∧ RD K H μ p.2 q.2) e.fs fs

/-! ### readings -/
abbrev M := AS → AH → Res D
abbrev MB := AS → AH → Res Bool
abbrev ML := AS → AH → Res (List D)
/-- what follows an evaluation: ok, or an exception -/
def Post (X : Cx) (W : WX) (τ : L2.St) (H : Hp) (μ : Mu) {α β : Type} (Rel : Hp → Mu → α → β → Prop) (Q : β → Hp → Prop) : Res α → Prop
  | .stuck => False
  | .ok d h' => ∀ (v : β) (H' : Hp) (μ' : Mu), Stp μ μ' H H' → RelH X.prog X.w X.K H' μ' h' → Rel H' μ' d v → Q v H'
  | .ex e h' => ∀ (cls : Value) (dd : Option Addr) (H' : Hp) (μ' : Mu), Stp μ μ' H H' → RelH X.prog X.w X.K H' μ' h' → RX X.mg X.K H' μ' e cls dd → W cls dd τ H'
def tG (X : Cx) (W : WX) {α β : Type} (Rel : Hp → Mu → α → β → Prop) (m : AS → AH → Res α) : L2.St → Hp → (β → Hp → Prop) → Prop := fun τ H Q =>
  ∃ (σ : AS) (h : AH) (μ : Mu), RelS X.K H μ σ τ ∧ RelH X.prog X.w X.K H μ h ∧ Post X W τ H μ Rel Q (m σ h)
def rB : Hp → Mu → Bool → Bool → Prop := fun _ _ a b => a = b
abbrev tE (X : Cx) (W : WX) (m : M) : TE := tG X W (RD X.K) m
abbrev tT (X : Cx) (W : WX) (m : MB) : TT := tG X W rB m
abbrev tL (X : Cx) (W : WX) (m : ML) : TA := tG X W (RDs X.K) m
def QE (X : Cx) (W : WX) (m : M) (e : Expr) : Prop := PE X e (tE X W m)
def QT (X : Cx) (W : WX) (m : MB) (e : Expr) : Prop := PT X e (tT X W m)
def QW (X : Cx) (W : WX) (m : MB) (e : Expr) : Prop := PW X e (tT X W m)
def QA (X : Cx) (W : WX) (m : ML) (es : List Expr) : Prop := PA X es (tL X W m)
theorem QE.of {X : Cx} {W : WX} {m : M} {e : Expr} {t : TE} (h : PE X e t) (i : ∀ τ H Q, tE X W m τ H Q → t τ H Q) : QE X W m e := ⟨fun pins s σ H Q I q => h.run pins s σ H Q I (i _ _ _ q)⟩
theorem QT.of {X : Cx} {W : WX} {m : MB} {e : Expr} {t : TT} (h : PT X e t) (i : ∀ τ H Q, tT X W m τ H Q → t τ H Q) : QT X W m e := ⟨fun pins s σ H Q I q => h.run pins s σ H Q I (i _ _ _ q)⟩
theorem QW.of {X : Cx} {W : WX} {m : MB} {e : Expr} {t : TT} (h : PW X e t) (i : ∀ τ H Q, tT X W m τ H Q → t τ H Q) : QW X W m e := ⟨fun wh pins s σ H Q I q => h.run wh pins s σ H Q I (i _ _ _ q)⟩
theorem QA.of {X : Cx} {W : WX} {m : ML} {es : List Expr} {t : TA} (h : PA X es t) (i : ∀ τ H Q, tL X W m τ H Q → t τ H Q) : QA X W m es := ⟨fun pos pins s σ H Q I q => h.run pos pins s σ H Q I (i _ _ _ q)⟩

/-- one evaluation behind another -/
def Res.bind {α β : Type} (r : Res α) (f : α → AH → Res β) : Res β := match r with
  | .stuck => .stuck
  | .ok a h => f a h
  | .ex e h => .ex e h
@[simp] theorem Res.bind_ok {α β : Type} (a : α) (h : AH) (f : α → AH → Res β) : (Res.ok a h).bind f = f a h := rfl
@[simp] theorem Res.bind_ex {α β : Type} (e : Ex) (h : AH) (f : α → AH → Res β) : (Res.ex e h : Res α).bind f = .ex e h := rfl
@[simp] theorem Res.bind_stuck {α β : Type} (f : α → AH → Res β) : (Res.stuck : Res α).bind f = .stuck := rfl
section
variable {X : Cx} {W : WX} {τ : L2.St} {H : Hp} {μ : Mu} {α β γ δ : Type} {RA : Hp → Mu → α → β → Prop} {RB : Hp → Mu → γ → δ → Prop} {Q : δ → Hp → Prop}
/-- the reading of m, then that of f: from the reading of both -/
theorem tG.bind {m : AS → AH → Res α} {f : AS → α → AH → Res γ} {t : L2.St → Hp → (β → Hp → Prop) → Prop} (ht : ∀ τ H Q, tG X W RA m τ H Q → t τ H Q) {k : β → Hp → Prop}
    (hk : ∀ (σ : AS) (a : α) (h1 : AH) (b : β) (H1 : Hp) (μ1 : Mu), RelS X.K H1 μ1 σ τ → RelH X.prog X.w X.K H1 μ1 h1 → RA H1 μ1 a b → Post X W τ H1 μ1 RB Q (f σ a h1) → k b H1)
    (q : tG X W RB (fun σ h => (m σ h).bind (f σ)) τ H Q) : t τ H k := by
  obtain ⟨σ, h, μ, rs, rh, q⟩ := q
  refine ht τ H k ⟨σ, h, μ, rs, rh, ?_⟩
  dsimp only at q
  cases e : m σ h with
  | stuck => rw [e] at q; exact q
  | ex x h' => rw [e] at q; exact q
  | ok a h' =>
    rw [e] at q
    intro b H' μ' s rh' ra
    refine hk σ a h' b H' μ' (rs.stp s) rh' ra ?_
    rw [Res.bind_ok] at q
    cases e2 : f σ a h' with
    | stuck => rw [e2] at q; exact q
    | ok c h2 => rw [e2] at q; exact fun v H2 μ2 s2 => q v H2 μ2 (s.trans s2)
    | ex x h2 => rw [e2] at q; exact fun cls dd H2 μ2 s2 => q cls dd H2 μ2 (s.trans s2)
theorem Post.ok {RC : Hp → Mu → γ → δ → Prop} {c : γ} {h' : AH} {v : δ} (q : Post X W τ H μ RC Q (.ok c h')) {H' : Hp} {μ' : Mu} (s : Stp μ μ' H H') (rh : RelH X.prog X.w X.K H' μ' h') (r : RC H' μ' c v) : Q v H' := q v H' μ' s rh r
/-- an answer with nothing changed -/
theorem Post.now {RC : Hp → Mu → γ → δ → Prop} {c : γ} {h : AH} {v : δ} (q : Post X W τ H μ RC Q (.ok c h)) (rh : RelH X.prog X.w X.K H μ h) (r : RC H μ c v) : Q v H := q v H μ Stp.refl rh r
end
end Q

/-! Q3: expressions. -/
namespace Q
open PySem PySem.Spec PyProof.Rows L2
section
variable {X : Cx} {W : WX} {τ : L2.St} {H : Hp} {μ : Mu} {α β γ δ : Type} {RA : Hp → Mu → α → β → Prop} {RB : Hp → Mu → γ → δ → Prop} {Q : δ → Hp → Prop}
/-- go on from the reading of both to that of the first -/
theorem go {σ : AS} {h : AH} {m : AS → AH → Res α} {f : α → AH → Res γ} {k : β → Hp → Prop} (rs : RelS X.K H μ σ τ) (rh : RelH X.prog X.w X.K H μ h) (q : Post X W τ H μ RB Q ((m σ h).bind f))
    (hk : ∀ (a : α) (h1 : AH) (b : β) (H1 : Hp) (μ1 : Mu), Stp μ μ1 H H1 → RelS X.K H1 μ1 σ τ → RelH X.prog X.w X.K H1 μ1 h1 → RA H1 μ1 a b → Post X W τ H1 μ1 RB Q (f a h1) → k b H1) : tG X W RA m τ H k := by
  refine ⟨σ, h, μ, rs, rh, ?_⟩
  cases e : m σ h with
  | stuck => rw [e] at q; exact q
  | ex x h' => rw [e] at q; exact q
  | ok a h' =>
    rw [e] at q
    intro b H' μ' s rh' ra
    refine hk a h' b H' μ' s (rs.stp s) rh' ra ?_
    rw [Res.bind_ok] at q
    cases e2 : f a h' with
    | stuck => rw [e2] at q; exact q
    | ok c h2 => rw [e2] at q; exact fun v H2 μ2 s2 => q v H2 μ2 (s.trans s2)
    | ex x h2 => rw [e2] at q; exact fun cls dd H2 μ2 s2 => q cls dd H2 μ2 (s.trans s2)
end

section
variable {X : Cx} {W : WX} {pos : Pos}
/-! ### names and constants -/
def eVar (i : Nat) : M := fun σ h => match σ[i]? with
  | some (some d) => .ok d h
  | _ => .stuck
theorem q_var {i : Nat} {x : Str} (hN : X.N[i]? = some x) (hv : Vis X.env.scope x) (hd : (x == ("__debug__" : Str)) = false := by decide) (hcd : (x == ("__classdict__" : Str)) = false := by decide) : QE X W (eVar i) (.Name x pos) :=
  QE.of (pe_var hN hv hd hcd) fun τ H Q ⟨σ, h, μ, rs, rh, q⟩ => by
    unfold eVar at q
    split at q
    · rename_i d e
      obtain ⟨v, e1, r⟩ := rs.2 i d e
      exact ⟨v, e1, q.now rh r⟩
    · exact q.elim
def eC (d : D) : M := fun _ h => .ok d h
theorem q_c {d : D} {v : V} {e : Expr} (hp : PE X e (tC v)) (hr : ∀ H μ, RD X.K H μ d v) : QE X W (eC d) e := QE.of hp fun τ H Q ⟨σ, h, μ, rs, rh, q⟩ => q.now rh (hr _ _)
theorem q_int {i j} : QE X W (eC (.int i)) (.Constant (.int i) j pos) := q_c pe_int fun _ _ => .int i
theorem q_bl {b j} : QE X W (eC (.bl b)) (.Constant (.bool b) j pos) := q_c pe_bl fun _ _ => .bl b
theorem q_non {j} : QE X W (eC .non) (.Constant .none j pos) := q_c pe_non fun _ _ => .non
theorem q_str {x j} : QE X W (eC (.str x)) (.Constant (.str x) j pos) := q_c pe_str fun _ _ => .str x
/-- a constant of the module -/
def GC (X : Cx) (x : Str) (d : D) : Prop := ∃ (v : V) (u : Value), X.mg x = some u ∧ RelV v u ∧ ∀ H μ, RD X.K H μ d v
theorem q_glob {x : Str} {d : D} (g : GC X x d) (hg : Gl X x) (hd : (x == ("__debug__" : Str)) = false := by decide) : QE X W (eC d) (.Name x pos) := by
  obtain ⟨v, u, hm, r, hr⟩ := g
  exact q_c (pe_glob hg hm r hd) hr

/-! ### argument lists, tuples, lists -/
def aNil : ML := fun _ h => .ok [] h
def aCons (m : M) (r : ML) : ML := fun σ h => (m σ h).bind fun d h1 => (r σ h1).bind fun ds h2 => .ok (d :: ds) h2
theorem qa_nil : QA X W aNil [] := QA.of pa_nil fun τ H Q ⟨σ, h, μ, rs, rh, q⟩ => q.now rh .nil
theorem qa_cons {m : M} {r : ML} {e : Expr} {es : List Expr} (hm : QE X W m e) (hr : QA X W r es) (hs : starEach (e :: es) X.env = (false, eval e X.env) :: starEach es X.env := by rfl) : QA X W (aCons m r) (e :: es) :=
  QA.of (pa_cons hm hr hs) fun τ H Q ⟨σ, h, μ, rs, rh, q⟩ =>
    go rs rh q fun d h1 v H1 μ1 s1 rs1 rh1 rd q1 => go rs1 rh1 q1 fun ds h2 vs H2 μ2 s2 rs2 rh2 rds q2 => q2.now rh2 (.cons (rd.stp s2) rds)
def eTup (r : ML) : M := fun σ h => (r σ h).bind fun ds h1 => if ds.length ≤ 16777216 then .ok (.tup ds) h1 else .stuck
theorem q_tup {r : ML} {es : List Expr} {k : Nat} (hr : QA X W r es) : QE X W (eTup r) (.Tuple es k pos) :=
  QE.of (pe_tup hr) fun τ H Q ⟨σ, h, μ, rs, rh, q⟩ => go rs rh q fun ds h1 vs H1 μ1 s1 rs1 rh1 rds q1 => by
    split at q1
    · rename_i hl
      refine ⟨by rw [sizeLine_eq, rds.length]; exact hl, fun p hp => ?_⟩
      exact q1 _ _ μ1 (Stp.laid hp) (rh1.laid hp) (RD.tup_laid rh1 hp rds)
    · exact q1.elim
/-- a list that nothing will change -/
def eLst (r : ML) : M := fun σ h => (r σ h).bind fun ds h1 => if ds.length ≤ 16777216 then .ok (.fro ds) h1 else .stuck
theorem q_lst {r : ML} {es : List Expr} (hr : QA X W r es) : QE X W (eLst r) (.List es pos) :=
  QE.of (pe_lst hr) fun τ H Q ⟨σ, h, μ, rs, rh, q⟩ => go rs rh q fun ds h1 vs H1 μ1 s1 rs1 rh1 rds q1 => by
    split at q1
    · rename_i hl
      refine ⟨by rw [sizeLine_eq, rds.length]; exact hl, fun p hp => ?_⟩
      exact q1 _ _ μ1 (Stp.laid hp) (rh1.laid hp) (RD.fro_laid rh1 hp rds)
    · exact q1.elim
/-- a new changing list -/
def eNewL (r : ML) : M := fun σ h => (r σ h).bind fun ds h1 => if ds.length ≤ 16777216 then .ok (.ref h1.length) (h1 ++ [.lst ds]) else .stuck
theorem q_newL {r : ML} {es : List Expr} (hr : QA X W r es) : QE X W (eNewL r) (.List es pos) :=
  QE.of (pe_lst hr) fun τ H Q ⟨σ, h, μ, rs, rh, q⟩ => go rs rh q fun ds h1 vs H1 μ1 s1 rs1 rh1 rds q1 => by
    split at q1
    · rename_i hl
      refine ⟨by rw [sizeLine_eq, rds.length]; exact hl, fun p hp => ?_⟩
      refine q1 _ _ (μ1.push p) (Stp.more hp) (rh1.more hp (.lst upd_same (rds.stp (Stp.more hp)))) ?_
      rw [← rh1.len]
      exact RD.last
    · exact q1.elim

/-! ### operators -/
abbrev Opt := Option (D × AH)
def lif : Opt → Res D
  | some (d, h) => .ok d h
  | none => .stuck
@[simp] theorem lif_some (d : D) (h : AH) : lif (some (d, h)) = .ok d h := rfl
@[simp] theorem lif_none : lif none = .stuck := rfl
abbrev F2 := D → D → AH → Opt
/-- what follows the answer of an operation -/
def PO2 (X : Cx) (H : Hp) (μ : Mu) (Q : VK) (r : Opt) : Prop := ∃ (z : D) (h' : AH), r = some (z, h') ∧ ∀ (v : V) (H' : Hp) (μ' : Mu), Stp μ μ' H H' → RelH X.prog X.w X.K H' μ' h' → RD X.K H' μ' z v → Q v H'
theorem PO2.of {r : Opt} {τ : L2.St} {H : Hp} {μ : Mu} {Q : VK} (q : Post X W τ H μ (RD X.K) Q (lif r)) : PO2 X H μ Q r := by
  cases e : r with
  | none => rw [e] at q; exact False.elim q
  | some p =>
    obtain ⟨z, h'⟩ := p
    rw [e] at q
    exact ⟨z, h', rfl, fun v H' μ' s rh rd => q v H' μ' s rh rd⟩
theorem PO2.bind {γ δ : Type} {RB : Hp → Mu → γ → δ → Prop} {Q2 : δ → Hp → Prop} {r : Opt} {σ : AS} {τ : L2.St} {H : Hp} {μ : Mu} {k : D → AH → Res γ} {Q : VK} (rs : RelS X.K H μ σ τ)
    (q : Post X W τ H μ RB Q2 ((lif r).bind k)) (hk : ∀ (z : D) (h1 : AH) (t : V) (H1 : Hp) (μ1 : Mu), Stp μ μ1 H H1 → RelS X.K H1 μ1 σ τ → RelH X.prog X.w X.K H1 μ1 h1 → RD X.K H1 μ1 z t → Post X W τ H1 μ1 RB Q2 (k z h1) → Q t H1) : PO2 X H μ Q r := by
  cases e : r with
  | none => rw [e] at q; exact False.elim q
  | some p =>
    obtain ⟨a, h'⟩ := p
    rw [e] at q
    refine ⟨a, h', rfl, fun b H' μ' s rh' ra => ?_⟩
    refine hk a h' b H' μ' s (rs.stp s) rh' ra ?_
    rw [lif_some, Res.bind_ok] at q
    cases e2 : k a h' with
    | stuck => rw [e2] at q; exact q
    | ok c h2 => rw [e2] at q; exact fun v H2 μ2 s2 => q v H2 μ2 (s.trans s2)
    | ex x h2 => rw [e2] at q; exact fun cls dd H2 μ2 s2 => q cls dd H2 μ2 (s.trans s2)
/-- an answer where nothing changed -/
theorem PO2.now {H : Hp} {μ : Mu} {h : AH} {Q : VK} {r : Opt} {z : D} {v : V} (q : PO2 X H μ Q r) (e : r = some (z, h)) (rh : RelH X.prog X.w X.K H μ h) (rz : RD X.K H μ z v) : Q v H := by
  obtain ⟨z', h', e', q⟩ := q
  rw [e] at e'; cases e'
  exact q v H μ Stp.refl rh rz
def rOf (X : Cx) (f : F2) : R2 := fun v u H Q => ∃ (x y : D) (μ : Mu) (h : AH), RelH X.prog X.w X.K H μ h ∧ RD X.K H μ x v ∧ RD X.K H μ y u ∧ PO2 X H μ Q (f x y h)
/-- an operator by values -/
def OpD (X : Cx) (op : Value → Value → Sem Value) (f : F2) : Prop := OpR X op (rOf X f)
theorem OpD.of {op : Value → Value → Sem Value} {r : R2} {f : F2} (ho : OpR X op r) (hi : ∀ v u H Q, rOf X f v u H Q → r v u H Q) : OpD X op f := fun pins s σ H x y v u Q I rx ry q => ho pins s σ H x y v u Q I rx ry (hi x y H Q q)
def eOp (f : F2) (a b : M) : M := fun σ h => (a σ h).bind fun x h1 => (b σ h1).bind fun y h2 => lif (f x y h2)
theorem two {a b : M} {f : F2} : ∀ τ H Q, tE X W (eOp f a b) τ H Q → tOp (rOf X f) (tE X W a) (tE X W b) τ H Q := fun τ H Q ⟨σ, h, μ, rs, rh, q⟩ =>
  go rs rh q fun x h1 v H1 μ1 s1 rs1 rh1 rx q1 => go rs1 rh1 q1 fun y h2 u H2 μ2 s2 rs2 rh2 ry q2 => ⟨x, y, μ2, h2, rh2, rx.stp s2, ry, .of q2⟩
theorem q_op {op : Operator} {f : F2} {a b : M} {ea eb : Expr} (ho : OpD X (binaryOp op) f) (ha : QE X W a ea) (hb : QE X W b eb) : QE X W (eOp f a b) (.BinOp ea op eb pos) :=
  QE.of (pe_op ho ha hb) two
theorem q_cmp {op : CmpOp} {f : F2} {a b : M} {ea eb : Expr} (ho : OpD X (compareOp op) f) (ha : QE X W a ea) (hb : QE X W b eb) (hm : behindInMarks op eb = false) : QE X W (eOp f a b) (.Compare ea [op] [eb] pos) :=
  QE.of (pe_cmpR ho ha hb hm) two
/-- a value as a test -/
def asB : Res D → Res Bool
  | .ok (.bl b) h => .ok b h
  | .ex e h => .ex e h
  | _ => .stuck
@[simp] theorem asB_bl (b : Bool) (h : AH) : asB (.ok (.bl b) h) = .ok b h := rfl
@[simp] theorem asB_ex (e : Ex) (h : AH) : asB (.ex e h) = .ex e h := rfl
def mB (m : M) : MB := fun σ h => asB (m σ h)
theorem Post.asB {τ : L2.St} {H : Hp} {μ : Mu} {Q : Bool → Hp → Prop} {r : Res D} (q : Post X W τ H μ rB Q (asB r)) : Post X W τ H μ (RD X.K) (fun v H' => ∃ k, v = .bl k ∧ Q k H') r := by
  cases r with
  | stuck => exact q
  | ex e h => exact q
  | ok d h =>
    cases d with
    | bl b =>
      intro v H' μ' s rh rd
      cases rd
      exact ⟨b, rfl, q b H' μ' s rh rfl⟩
    | _ => exact False.elim q
theorem tE_asB {m : M} {τ : L2.St} {H : Hp} {Q : Bool → Hp → Prop} (q : tT X W (mB m) τ H Q) : tE X W m τ H (fun v H' => ∃ k, v = .bl k ∧ Q k H') := by
  obtain ⟨σ, h, μ, rs, rh, q⟩ := q
  exact ⟨σ, h, μ, rs, rh, Post.asB q⟩
theorem qt_val {m : M} {e : Expr} (hm : QE X W m e) (he : ∀ whole, isTrue e X.env whole = (do let v ← whole; standAt e.pos; holding [v] (truthy v)) := by intro _; rfl) : QT X W (mB m) e :=
  QT.of (pt_val hm he) fun τ H Q q => tE_asB q
theorem qt_cmp {op : CmpOp} {f : F2} {a b : M} {ea eb : Expr} (ho : OpD X (compareOp op) f) (ha : QE X W a ea) (hb : QE X W b eb) (hm : behindInMarks op eb = false) : QT X W (mB (eOp f a b)) (.Compare ea [op] [eb] pos) :=
  QT.of (pt_cmpR ho ha hb hm) fun τ H Q q => two τ H _ (tE_asB q)
/-- a op b op' c -/
def eChain (f g : F2) (a b c : M) : M := fun σ h => (a σ h).bind fun x h1 => (b σ h1).bind fun y h2 => (lif (f x y h2)).bind fun z h3 => match z with
  | .bl true => (c σ h3).bind fun w h4 => lif (g y w h4)
  | .bl false => .ok (.bl false) h3
  | _ => .stuck
theorem chain_go {f g : F2} {a b c : M} : ∀ τ H Q, tE X W (eChain f g a b c) τ H Q → tChain (rOf X f) (rOf X g) (tE X W a) (tE X W b) (tE X W c) τ H Q := fun τ H Q ⟨σ, h, μ, rs, rh, q⟩ =>
  go rs rh q fun x h1 v H1 μ1 s1 rs1 rh1 rx q1 => go rs1 rh1 q1 fun y h2 u H2 μ2 s2 rs2 rh2 ry q2 => ⟨x, y, μ2, h2, rh2, rx.stp s2, ry, PO2.bind rs2 q2 fun z h3 t H3 μ3 s3 rs3 rh3 rz q3 => by
    cases z with
    | bl k =>
      cases rz
      refine ⟨k, rfl, ?_⟩
      cases k with
      | true =>
        rw [if_pos rfl]
        exact go rs3 rh3 q3 fun w h4 o H4 μ4 s4 rs4 rh4 rw q4 => ⟨y, w, μ4, h4, rh4, (ry.stp s3).stp s4, rw, .of q4⟩
      | false =>
        rw [if_neg Bool.false_ne_true]
        exact q3.now rh3 (.bl false)
    | _ => exact False.elim q3⟩
theorem q_chain {op op' : CmpOp} {f g : F2} {a b c : M} {ea eb ec : Expr} (ho : OpD X (compareOp op) f) (ho' : OpD X (compareOp op') g) (ha : QE X W a ea) (hb : QE X W b eb) (hc : QE X W c ec)
    (hm : lastMarks [op, op'] [eb, ec] = false := by with_unfolding_all rfl) : QE X W (eChain f g a b c) (.Compare ea [op, op'] [eb, ec] pos) := QE.of (pe_chain ho ho' ha hb hc hm) chain_go
theorem qt_chain {op op' : CmpOp} {f g : F2} {a b c : M} {ea eb ec : Expr} (ho : OpD X (compareOp op) f) (ho' : OpD X (compareOp op') g) (ha : QE X W a ea) (hb : QE X W b eb) (hc : QE X W c ec)
    (hm : lastMarks [op, op'] [eb, ec] = false := by with_unfolding_all rfl) : QT X W (mB (eChain f g a b c)) (.Compare ea [op, op'] [eb, ec] pos) :=
  QT.of (pt_chain ho ho' ha hb hc hm) fun τ H Q q => chain_go τ H _ (tE_asB q)

/-! ### and, or, not, if -/
def tAndM (a b : MB) : MB := fun σ h => (a σ h).bind fun c h1 => if c = true then b σ h1 else .ok false h1
def tOrM (a b : MB) : MB := fun σ h => (a σ h).bind fun c h1 => if c = true then .ok true h1 else b σ h1
def tNotM (a : MB) : MB := fun σ h => (a σ h).bind fun c h1 => .ok (!c) h1
variable {a b : MB} {ea eb : Expr} {rest : List Expr}
theorem qw_and1 (ha : QT X W a ea) : QW X W a (.BoolOp .And [ea] pos) := pw_and1 ha
theorem qw_or1 (ha : QT X W a ea) : QW X W a (.BoolOp .Or [ea] pos) := pw_or1 ha
theorem qw_and (ha : QT X W a ea) (hb : QW X W b (.BoolOp .And (eb :: rest) pos)) : QW X W (tAndM a b) (.BoolOp .And (ea :: eb :: rest) pos) :=
  QW.of (pw_and ha hb) fun τ H Q ⟨σ, h, μ, rs, rh, q⟩ => go rs rh q fun c h1 c' H1 μ1 s1 rs1 rh1 rc q1 => by
    cases (show c = c' from rc)
    cases c with
    | true => rw [if_pos rfl] at q1 ⊢; exact ⟨σ, h1, μ1, rs1, rh1, q1⟩
    | false => rw [if_neg Bool.false_ne_true] at q1 ⊢; exact q1.now rh1 rfl
theorem qw_or (ha : QT X W a ea) (hb : QW X W b (.BoolOp .Or (eb :: rest) pos)) : QW X W (tOrM a b) (.BoolOp .Or (ea :: eb :: rest) pos) :=
  QW.of (pw_or ha hb) fun τ H Q ⟨σ, h, μ, rs, rh, q⟩ => go rs rh q fun c h1 c' H1 μ1 s1 rs1 rh1 rc q1 => by
    cases (show c = c' from rc)
    cases c with
    | true => rw [if_pos rfl] at q1 ⊢; exact q1.now rh1 rfl
    | false => rw [if_neg Bool.false_ne_true] at q1 ⊢; exact ⟨σ, h1, μ1, rs1, rh1, q1⟩
theorem QW.qt (h : QW X W a ea) : QT X W a ea := PW.pt h
theorem qt_not (ha : QT X W a ea) : QT X W (tNotM a) (.UnaryOp .Not ea pos) :=
  QT.of (pt_not ha) fun τ H Q ⟨σ, h, μ, rs, rh, q⟩ => go rs rh q fun c h1 c' H1 μ1 s1 rs1 rh1 rc q1 => by
    cases (show c = c' from rc)
    exact q1.now rh1 rfl
/-- as values -/
def eAnd (a b : M) : M := fun σ h => (a σ h).bind fun c h1 => match c with
  | .bl true => b σ h1
  | .bl false => .ok (.bl false) h1
  | _ => .stuck
def eOr (a b : M) : M := fun σ h => (a σ h).bind fun c h1 => match c with
  | .bl true => .ok (.bl true) h1
  | .bl false => b σ h1
  | _ => .stuck
def eNot (a : M) : M := fun σ h => (a σ h).bind fun c h1 => match c with
  | .bl k => .ok (.bl (!k)) h1
  | _ => .stuck
variable {m n : M}
theorem q_one {op} (hm : QE X W m ea) : QE X W m (.BoolOp op [ea] pos) := pe_one hm
theorem q_and (hm : QE X W m ea) (hn : QE X W n (.BoolOp .And (eb :: rest) pos)) : QE X W (eAnd m n) (.BoolOp .And (ea :: eb :: rest) pos) :=
  QE.of (pe_and hm hn) fun τ H Q ⟨σ, h, μ, rs, rh, q⟩ => go rs rh q fun c h1 v H1 μ1 s1 rs1 rh1 rc q1 => by
    cases c with
    | bl k =>
      cases rc
      refine ⟨k, rfl, ?_⟩
      cases k with
      | true => rw [if_pos rfl]; exact ⟨σ, h1, μ1, rs1, rh1, q1⟩
      | false => rw [if_neg Bool.false_ne_true]; exact q1.now rh1 (.bl false)
    | _ => exact False.elim q1
theorem q_or (hm : QE X W m ea) (hn : QE X W n (.BoolOp .Or (eb :: rest) pos)) : QE X W (eOr m n) (.BoolOp .Or (ea :: eb :: rest) pos) :=
  QE.of (pe_or hm hn) fun τ H Q ⟨σ, h, μ, rs, rh, q⟩ => go rs rh q fun c h1 v H1 μ1 s1 rs1 rh1 rc q1 => by
    cases c with
    | bl k =>
      cases rc
      refine ⟨k, rfl, ?_⟩
      cases k with
      | true => rw [if_pos rfl]; exact q1.now rh1 (.bl true)
      | false => rw [if_neg Bool.false_ne_true]; exact ⟨σ, h1, μ1, rs1, rh1, q1⟩
    | _ => exact False.elim q1
theorem q_not (hm : QE X W m ea) : QE X W (eNot m) (.UnaryOp .Not ea pos) :=
  QE.of (pe_not hm) fun τ H Q ⟨σ, h, μ, rs, rh, q⟩ => go rs rh q fun c h1 v H1 μ1 s1 rs1 rh1 rc q1 => by
    cases c with
    | bl k => cases rc; exact ⟨k, rfl, q1.now rh1 (.bl (!k))⟩
    | _ => exact False.elim q1
def eIf (t : MB) (m n : M) : M := fun σ h => (t σ h).bind fun c h1 => if c = true then m σ h1 else n σ h1
theorem q_if {c : Expr} (ht : QT X W a c) (hm : QE X W m ea) (hn : QE X W n eb) : QE X W (eIf a m n) (.IfExp c ea eb pos) :=
  QE.of (pe_ifExp ht hm hn) fun τ H Q ⟨σ, h, μ, rs, rh, q⟩ => go rs rh q fun c h1 c' H1 μ1 s1 rs1 rh1 rc q1 => by
    cases (show c = c' from rc)
    cases c with
    | true => rw [if_pos rfl] at q1 ⊢; exact ⟨σ, h1, μ1, rs1, rh1, q1⟩
    | false => rw [if_neg Bool.false_ne_true] at q1 ⊢; exact ⟨σ, h1, μ1, rs1, rh1, q1⟩
end
end Q

/-! Q4: operators by values. -/
namespace Q
open PySem PySem.Spec PyProof.Rows L2

/-! ### trees as data -/
mutual
def pd : D → Option PyData
  | .non => some .none
  | .bl b => some (.bool b)
  | .int i => some (.int i)
  | .str s => some (.str s)
  | .tup ds => (pds ds).map .tuple
  | .fro ds => (pds ds).map .list
  | .scr ds => (pds ds).map .list
  | .ref _ => none
def pds : List D → Option (List PyData)
  | [] => some []
  | d :: ds => match pd d, pds ds with
    | some k, some ks => some (k :: ks)
    | _, _ => none
end
section
variable {X : Cx} {pins : List (Addr × Obj)} {σ : L2.St} {H : Hp} {s : Shared} {μ : Mu} {h : AH}
mutual
theorem RD.reads (I : Inv X pins σ H s) : ∀ (d : D) (v : V) (u : Value) (p : PyData), RD X.K H μ d v → RelV v u → pd d = some p → (∃ as, Reads s.heap u p as) ∧ p.plain = true
  | .non, _, _, _, h, r, e => by cases h; cases r; cases e; exact ⟨⟨_, .none⟩, rfl⟩
  | .bl b, _, _, _, h, r, e => by cases h; cases r; cases e; exact ⟨⟨_, .bool b⟩, rfl⟩
  | .int i, _, _, _, h, r, e => by cases h; obtain ⟨t, rfl⟩ := r; cases e; exact ⟨⟨_, .int i t⟩, rfl⟩
  | .str x, _, _, _, h, r, e => by cases h; obtain ⟨t, rfl⟩ := r; cases e; exact ⟨⟨_, .str x t⟩, rfl⟩
  | .tup ds, _, _, _, h, r, e => by
    cases h with
    | tup t rr =>
      cases r
      obtain ⟨its, rv, ⟨o, ho, hc, n, hd⟩, _⟩ := I.tuple t.sq
      rw [pd] at e
      obtain ⟨ks, hks, rfl⟩ := Option.map_eq_some_iff.mp e
      obtain ⟨⟨as, q⟩, pl⟩ := RDs.reads I ds _ its ks rr rv hks
      exact ⟨⟨_, Reads.tuple ho hc hd q⟩, by rw [PyData.plain]; exact pl⟩
  | .fro ds, _, _, _, h, r, e => by
    cases h with
    | fro t nm rr =>
      cases r
      obtain ⟨its, rv, ⟨o, n, ho, hc, _, hd⟩, _⟩ := I.list (SqL.of t)
      rw [pd] at e
      obtain ⟨ks, hks, rfl⟩ := Option.map_eq_some_iff.mp e
      obtain ⟨⟨as, q⟩, pl⟩ := RDs.reads I ds _ its ks rr rv hks
      exact ⟨⟨_, Reads.list ho hc hd q⟩, by rw [PyData.plain]; exact pl⟩
  | .scr ds, _, _, _, h, r, e => by
    cases h with
    | scr t rr =>
      cases r
      obtain ⟨its, rv, ⟨o, n, ho, hc, _, hd⟩, _⟩ := I.list t.sq
      rw [pd] at e
      obtain ⟨ks, hks, rfl⟩ := Option.map_eq_some_iff.mp e
      obtain ⟨⟨as, q⟩, pl⟩ := RDs.reads I ds _ its ks rr rv hks
      exact ⟨⟨_, Reads.list ho hc hd q⟩, by rw [PyData.plain]; exact pl⟩
  | .ref _, _, _, _, _, _, e => by cases e
theorem RDs.reads (I : Inv X pins σ H s) : ∀ (ds : List D) (vs : List V) (us : List Value) (ps : List PyData), RDs X.K H μ ds vs → Vals vs us → pds ds = some ps → (∃ as, ReadsAll s.heap us ps as) ∧ PyData.plainAll ps = true
  | [], _, _, _, h, r, e => by cases h; cases r; cases e; exact ⟨⟨_, .nil⟩, rfl⟩
  | d :: ds, _, _, _, h, r, e => by
    cases h with
    | cons h1 h2 =>
      cases r with
      | cons r1 r2 =>
        rw [pds] at e
        split at e
        · rename_i k ks e1 e2
          cases e
          obtain ⟨⟨as, q1⟩, p1⟩ := RD.reads I d _ _ k h1 r1 e1
          obtain ⟨⟨bs, q2⟩, p2⟩ := RDs.reads I ds _ _ ks h2 r2 e2
          exact ⟨⟨_, .cons q1 q2⟩, by rw [PyData.plainAll, p1, p2]; rfl⟩
        · cases e
end
/-- with the changing list itself -/
def pdH (h : AH) : D → Option PyData
  | .ref n => match h[n]? with
    | some (.lst ds) => (pds ds).map .list
    | _ => none
  | d => pd d
theorem RD.readsH (I : Inv X pins σ H s) (rh : RelH X.prog X.w X.K H μ h) {d : D} {v : V} {u : Value} {p : PyData} (r : RD X.K H μ d v) (rv : RelV v u) (e : pdH h d = some p) : (∃ as, Reads s.heap u p as) ∧ p.plain = true := by
  cases d with
  | ref n =>
    simp only [pdH] at e
    split at e
    · rename_i ds eh
      obtain ⟨ks, hks, rfl⟩ := Option.map_eq_some_iff.mp e
      cases r with
      | ref hm =>
        cases rv
        cases rh.obj n _ _ eh hm with
        | lst ha rr =>
          obtain ⟨its, rv, ⟨o, n, ho, hc, _, hd⟩, _⟩ := I.list (SqL.of ha)
          obtain ⟨⟨as, q⟩, pl⟩ := RDs.reads I ds _ its ks rr rv hks
          exact ⟨⟨_, Reads.list ho hc hd q⟩, by rw [PyData.plain]; exact pl⟩
    · cases e
  | _ => exact RD.reads I _ v u p r rv e
end

/-! ### sequences -/
def lsq (h : AH) : D → Option (List D)
  | .fro ds => some ds
  | .scr ds => some ds
  | .ref n => match h[n]? with
    | some (.lst ds) => some ds
    | _ => none
  | _ => none
def ssq (h : AH) : D → Option (List D)
  | .tup ds => some ds
  | .fro ds => some ds
  | .scr ds => some ds
  | .ref n => match h[n]? with
    | some (.lst ds) => some ds
    | _ => none
  | _ => none
section
variable {P : Program} {w : World} {K : PySem.W.Frag} {H : Hp} {μ : Mu} {h : AH} {d : D} {v : V} {ds : List D}
theorem lsq_ok (rh : RelH P w K H μ h) (r : RD K H μ d v) (e : lsq h d = some ds) : ∃ p xs, v = .ref p ∧ SqL K H p xs ∧ RDs K H μ ds xs := by
  unfold lsq at e
  split at e
  · cases e; cases r with | fro t n rr => exact ⟨_, _, rfl, SqL.of t, rr⟩
  · cases e; cases r with | scr t rr => exact ⟨_, _, rfl, t.sq, rr⟩
  · split at e
    · cases e
      rename_i eh
      cases r with
      | ref hm =>
        cases rh.obj _ _ _ eh hm with
        | lst ha rr => exact ⟨_, _, rfl, SqL.of ha, rr⟩
    · cases e
  · cases e
theorem ssq_ok (rh : RelH P w K H μ h) (r : RD K H μ d v) (e : ssq h d = some ds) : ∃ p xs, v = .ref p ∧ (SqL K H p xs ∨ SqT K H p xs) ∧ RDs K H μ ds xs := by
  cases d with
  | tup es => cases e; cases r with | tup t rr => exact ⟨_, _, rfl, .inr t.sq, rr⟩
  | _ => exact let ⟨p, xs, a, b, c⟩ := lsq_ok (d := _) rh r e; ⟨p, xs, a, .inl b, c⟩
end

section
variable {X : Cx}
/-! ### numbers -/
def dInt (C : Int → Int → Prop) [∀ i j, Decidable (C i j)] (g : Int → Int → Int) : F2 := fun x y h => match x, y with
  | .int i, .int j => if C i j then some (.int (g i j), h) else none
  | _, _ => none
theorem PO2.elim {H : Hp} {μ : Mu} {Q : VK} (q : PO2 X H μ Q none) {p : Prop} : p := by
  obtain ⟨_, _, e, _⟩ := q
  cases e
theorem opd_int {op : Value → Value → Sem Value} {C : Int → Int → Prop} [∀ i j, Decidable (C i j)] {g : Int → Int → Int} (ho : OpR X op (rI C fun i j => .int (g i j))) : OpD X op (dInt C g) :=
  .of ho fun v u H Q ⟨x, y, μ, h, rh, rx, ry, q⟩ => by
    unfold dInt at q
    split at q
    · split at q
      · rename_i hc
        cases rx; cases ry
        exact ⟨_, _, rfl, rfl, hc, q.now rfl rh (.int _)⟩
      · exact q.elim
    · exact q.elim
theorem opd_int0 {op : Value → Value → Sem Value} {g : Int → Int → Int} (ho : OpR X op (rI0 fun i j => .int (g i j))) : OpD X op (dInt (fun _ _ => True) g) :=
  .of ho fun v u H Q ⟨x, y, μ, h, rh, rx, ry, q⟩ => by
    unfold dInt at q
    split at q
    · rw [if_pos trivial] at q
      cases rx; cases ry
      exact ⟨_, _, rfl, rfl, q.now rfl rh (.int _)⟩
    · exact q.elim
abbrev dSub : F2 := dInt (fun _ _ => True) (· - ·)
theorem opd_sub : OpD X (binaryOp .Sub) dSub := opd_int0 op_sub
abbrev dMul : F2 := dInt (fun i j => i.natAbs < 2 ^ 4000 ∧ j.natAbs < 2 ^ 4000) (· * ·)
theorem opd_mul : OpD X (binaryOp .Mult) dMul := opd_int fun pins s σ H x y v u Q I rx ry q => op_mulW pins s σ H x y v u Q I rx ry (by
  obtain ⟨i, j, e1, e2, ⟨c1, c2⟩, q⟩ := q
  exact ⟨i, j, e1, e2, wide_mul c1 c2 (by decide) (by decide) (by decide), q⟩)
abbrev dDiv : F2 := dInt (fun _ j => 0 < j ∧ j.natAbs < 2 ^ 4000) (· / ·)
theorem opd_div : OpD X (binaryOp .FloorDiv) dDiv := opd_int fun pins s σ H x y v u Q I rx ry q => op_fdivW pins s σ H x y v u Q I rx ry (by
  obtain ⟨i, j, e1, e2, ⟨c1, c2⟩, q⟩ := q
  exact ⟨i, j, e1, e2, wide_div c1 c2 (by decide) (by decide), q⟩)
abbrev dMod : F2 := dInt (fun _ j => 0 < j) (· % ·)
theorem opd_mod : OpD X (binaryOp .Mod) dMod := opd_int op_mod
abbrev dPow : F2 := dInt (fun i j => 0 ≤ j ∧ j ≤ 1000000 ∧ i.natAbs < 2 ^ 64) fun i j => i ^ j.toNat
theorem opd_pow : OpD X (binaryOp .Pow) dPow := opd_int op_pow

/-! ### + -/
def dAdd : F2 := fun x y h => match x, y with
  | .int i, .int j => some (.int (i + j), h)
  | .str a, .str b => if a.length + b.length ≤ 16777216 then some (.str (a ++ b), h) else none
  | .tup a, .tup b => if a.length + b.length ≤ 16777216 then some (.tup (a ++ b), h) else none
  | _, _ => none
theorem opd_add : OpD X (binaryOp .Add) dAdd := fun pins s σ H v u v' u' Q I rv ru ⟨x, y, μ, h, rh, rx, ry, q⟩ => by
  unfold dAdd at q
  split at q
  · cases rx; cases ry
    exact op_add pins s σ H _ _ _ _ Q I rv ru ⟨_, _, rfl, rfl, q.now rfl rh (.int _)⟩
  · split at q
    · rename_i hl
      cases rx; cases ry
      exact op_add_str pins s σ H _ _ _ _ Q I rv ru ⟨_, _, rfl, rfl, by rw [sizeLine_eq]; exact hl, q.now rfl rh (.str _)⟩
    · exact q.elim
  · split at q
    · rename_i hl
      cases rx with
      | tup ta ra =>
        cases ry with
        | tup tb rb =>
          refine op_catA pins s σ H _ _ _ _ Q I rv ru ⟨_, _, _, _, rfl, rfl, ta.sq, tb.sq, by rw [sizeLine_eq, ra.length, rb.length]; exact hl, fun e => ?_, fun _ e => ?_, fun _ _ p hp => ?_⟩
          · subst e
            cases ra
            exact q.now rfl rh (.tup tb rb)
          · subst e
            cases rb
            exact q.now rfl rh (.tup ta (by rw [List.append_nil]; exact ra))
          · obtain ⟨z, h', e, q⟩ := q
            cases e
            exact q _ _ μ (Stp.laid hp) (rh.laid hp) (RD.tup_laid rh hp (ra.append rb))
    · exact q.elim
  · exact q.elim
/-- lists, to one that stays -/
def lchg (h : AH) : D → Option (List D)
  | .fro ds => some ds
  | .ref n => match h[n]? with
    | some (.lst ds) => some ds
    | _ => none
  | _ => none
theorem lchg_ok {P : Program} {w : World} {K : PySem.W.Frag} {H : Hp} {μ : Mu} {h : AH} {d : D} {v : V} {ds : List D} (rh : RelH P w K H μ h) (r : RD K H μ d v) (e : lchg h d = some ds) : ∃ p xs, v = .ref p ∧ H p = some (.lst xs) ∧ RDs K H μ ds xs := by
  unfold lchg at e
  split at e
  · cases e; cases r with | fro t n rr => exact ⟨_, _, rfl, t, rr⟩
  · split at e
    · cases e
      rename_i eh
      cases r with
      | ref hm =>
        cases rh.obj _ _ _ eh hm with
        | lst ha rr => exact ⟨_, _, rfl, ha, rr⟩
    · cases e
  · cases e
def dCat : F2 := fun x y h => match lchg h x, lchg h y with
  | some a, some b => if a.length + b.length ≤ 16777216 then some (.fro (a ++ b), h) else none
  | _, _ => none
theorem opd_cat : OpD X (binaryOp .Add) dCat := .of op_cat fun v u H Q ⟨x, y, μ, h, rh, rx, ry, q⟩ => by
  unfold dCat at q
  split at q
  · rename_i a b ea eb
    split at q
    · rename_i hl
      obtain ⟨p1, xs, rfl, h1, r1⟩ := lchg_ok rh rx ea
      obtain ⟨p2, ys, rfl, h2, r2⟩ := lchg_ok rh ry eb
      refine ⟨p1, p2, xs, ys, rfl, rfl, h1, h2, by rw [sizeLine_eq, r1.length, r2.length]; exact hl, fun p hp => ?_⟩
      obtain ⟨z, h', e, q⟩ := q
      cases e
      exact q _ _ μ (Stp.laid hp) (rh.laid hp) (RD.fro_laid rh hp (r1.append r2))
    · exact q.elim
  · exact q.elim
/-- lists, to a new changing one -/
theorem PO2.list {H : Hp} {μ : Mu} {h : AH} {Q : VK} {ds : List D} {xs : List V} (q : PO2 X H μ Q (some (.ref h.length, h ++ [.lst ds]))) (rh : RelH X.prog X.w X.K H μ h) (r : RDs X.K H μ ds xs) : ∀ p, H p = none → Q (.ref p) (upd H p (.lst xs)) := fun p hp => by
  obtain ⟨z, h', e, q⟩ := q
  cases e
  refine q _ _ (μ.push p) (Stp.more hp) (rh.more hp (.lst upd_same (r.stp (Stp.more hp)))) ?_
  rw [← rh.len]
  exact RD.last
theorem PO2.fro {H : Hp} {μ : Mu} {h : AH} {Q : VK} {ds : List D} {xs : List V} (q : PO2 X H μ Q (some (.fro ds, h))) (rh : RelH X.prog X.w X.K H μ h) (r : RDs X.K H μ ds xs) : ∀ p, H p = none → Q (.ref p) (upd H p (.lst xs)) := fun p hp => by
  obtain ⟨z, h', e, q⟩ := q
  cases e
  exact q _ _ μ (Stp.laid hp) (rh.laid hp) (RD.fro_laid rh hp r)
theorem PO2.tup {H : Hp} {μ : Mu} {h : AH} {Q : VK} {ds : List D} {xs : List V} (q : PO2 X H μ Q (some (.tup ds, h))) (rh : RelH X.prog X.w X.K H μ h) (r : RDs X.K H μ ds xs) : ∀ p, H p = none → Q (.ref p) (upd H p (.tup xs)) := fun p hp => by
  obtain ⟨z, h', e, q⟩ := q
  cases e
  exact q _ _ μ (Stp.laid hp) (rh.laid hp) (RD.tup_laid rh hp r)
def dCatR : F2 := fun x y h => match lchg h x, lchg h y with
  | some a, some b => if a.length + b.length ≤ 16777216 then some (.ref h.length, h ++ [.lst (a ++ b)]) else none
  | _, _ => none
theorem opd_catR : OpD X (binaryOp .Add) dCatR := .of op_cat fun v u H Q ⟨x, y, μ, h, rh, rx, ry, q⟩ => by
  unfold dCatR at q
  split at q
  · rename_i a b ea eb
    split at q
    · rename_i hl
      obtain ⟨p1, xs, rfl, h1, r1⟩ := lchg_ok rh rx ea
      obtain ⟨p2, ys, rfl, h2, r2⟩ := lchg_ok rh ry eb
      exact ⟨p1, p2, xs, ys, rfl, rfl, h1, h2, by rw [sizeLine_eq, r1.length, r2.length]; exact hl, q.list rh (r1.append r2)⟩
    · exact q.elim
  · exact q.elim

/-! ### comparisons of data -/
def dCmp (C : PyData → PyData → Bool) (g : PyData → PyData → Bool) : F2 := fun x y h => match pdH h x, pdH h y with
  | some p, some q => if C p q = true ∧ min p.depth q.depth ≤ 64 then some (.bl (g p q), h) else none
  | _, _ => none
theorem opd_cmp {op : Value → Value → Sem Value} {C g : PyData → PyData → Bool} (hu : X.A.units + 64 < cLine)
    (rule : ∀ (s : Shared) (a b : Value) (da db : PyData) (as bs : List Addr) (Q : Value → Shared → Prop) (E : Value → Shared → Prop), Reads s.heap a da as → Reads s.heap b db bs → da.plain = true → db.plain = true → C da db = true → X.A.units + min da.depth db.depth < cLine → Q (.bool (g da db)) s → wpAny (model X.prog X.w) X.A (op a b) Q E s) : OpD X op (dCmp C g) :=
  fun pins s σ H v u v' u' Q I rv ru ⟨x, y, μ, h, rh, rx, ry, q⟩ => by
    unfold dCmp at q
    split at q
    · rename_i p r e1 e2
      split at q
      · rename_i hc
        obtain ⟨⟨as, r1⟩, p1⟩ := RD.readsH I rh rx rv e1
        obtain ⟨⟨bs, r2⟩, p2⟩ := RD.readsH I rh ry ru e2
        exact rule s v' u' p r as bs _ _ r1 r2 p1 p2 hc.1 (by omega) ⟨.bl _, H, I, rfl, q.now rfl rh (.bl _)⟩
      · exact q.elim
    · exact q.elim
def notNone : PyData → Bool
  | .none => false
  | _ => true
theorem notNone_ne {p : PyData} (h : notNone p = true) : p ≠ .none := fun e => by subst e; cases h
abbrev cAny : PyData → PyData → Bool := fun _ _ => true
abbrev cOrd : PyData → PyData → Bool := fun p q => PySem.W.alike p q && notNone p
abbrev dEq : F2 := dCmp cAny PyData.eqv
abbrev dNe : F2 := dCmp cAny fun p q => !PyData.eqv p q
abbrev dLt : F2 := dCmp cOrd PySem.W.dataLt
abbrev dGt : F2 := dCmp cOrd fun p q => PySem.W.dataLt q p
abbrev dLe : F2 := dCmp cOrd fun p q => !PySem.W.dataLt q p
abbrev dGe : F2 := dCmp cOrd fun p q => !PySem.W.dataLt p q
theorem opd_eq (hu : X.A.units + 64 < cLine) : OpD X (compareOp .Eq) dEq := opd_cmp hu fun s a b da db as bs Q E r1 r2 p1 p2 _ hu' q => PySem.SeqAt.eq_plain r1 r2 p1 p2 hu' q
theorem opd_ne (hu : X.A.units + 64 < cLine) : OpD X (compareOp .NotEq) dNe := opd_cmp hu fun s a b da db as bs Q E r1 r2 p1 p2 _ hu' q => PySem.SeqAt.ne_plain r1 r2 p1 p2 hu' q
theorem cOrd_of {p q : PyData} (h : cOrd p q = true) : PySem.W.alike p q = true ∧ p ≠ .none := by
  rw [cOrd, Bool.and_eq_true] at h
  exact ⟨h.1, notNone_ne h.2⟩
theorem opd_lt (hu : X.A.units + 64 < cLine) : OpD X (compareOp .Lt) dLt := opd_cmp hu fun s a b da db as bs Q E r1 r2 _ _ c hu' q => PySem.W.lt_data r1 r2 (cOrd_of c).1 (cOrd_of c).2 hu' q
theorem opd_gt (hu : X.A.units + 64 < cLine) : OpD X (compareOp .Gt) dGt := opd_cmp hu fun s a b da db as bs Q E r1 r2 _ _ c hu' q => PySem.W.gt_data r1 r2 (cOrd_of c).1 (cOrd_of c).2 hu' q
theorem opd_le (hu : X.A.units + 64 < cLine) : OpD X (compareOp .LtE) dLe := opd_cmp hu fun s a b da db as bs Q E r1 r2 _ _ c hu' q => PySem.W.le_data r1 r2 (cOrd_of c).1 (cOrd_of c).2 hu' q
theorem opd_ge (hu : X.A.units + 64 < cLine) : OpD X (compareOp .GtE) dGe := opd_cmp hu fun s a b da db as bs Q E r1 r2 _ _ c hu' q => PySem.W.ge_data r1 r2 (cOrd_of c).1 (cOrd_of c).2 hu' q

/-! ### is -/
def dIs : F2 := fun x y h => match x, y with
  | .bl a, .bl b => some (.bl (decide (a = b)), h)
  | _, _ => none
def dIsNot : F2 := fun x y h => match x, y with
  | .bl a, .bl b => some (.bl (!decide (a = b)), h)
  | _, _ => none
theorem opd_is : OpD X (compareOp .Is) dIs := .of op_isBl fun v u H Q ⟨x, y, μ, h, rh, rx, ry, q⟩ => by
  unfold dIs at q
  split at q
  · cases rx; cases ry
    exact ⟨_, _, rfl, rfl, q.now rfl rh (.bl _)⟩
  · exact q.elim
theorem opd_isNot : OpD X (compareOp .IsNot) dIsNot := .of op_notBl fun v u H Q ⟨x, y, μ, h, rh, rx, ry, q⟩ => by
  unfold dIsNot at q
  split at q
  · cases rx; cases ry
    exact ⟨_, _, rfl, rfl, q.now rfl rh (.bl _)⟩
  · exact q.elim
def isNonD : D → Bool
  | .non => true
  | _ => false
theorem isNonD_V {K : PySem.W.Frag} {H : Hp} {μ : Mu} {d : D} {v : V} (r : RD K H μ d v) : decide (v = .non) = isNonD d := by cases r <;> rfl
def dIsN : F2 := fun x y h => match y with
  | .non => some (.bl (isNonD x), h)
  | _ => none
def dNotN : F2 := fun x y h => match y with
  | .non => some (.bl (!isNonD x), h)
  | _ => none
theorem opd_isN : OpD X (compareOp .Is) dIsN := .of op_isN fun v u H Q ⟨x, y, μ, h, rh, rx, ry, q⟩ => by
  unfold dIsN at q
  split at q
  · cases ry
    refine ⟨rfl, ?_⟩
    rw [isNonD_V rx]
    exact q.now rfl rh (.bl _)
  · exact q.elim
theorem opd_notN : OpD X (compareOp .IsNot) dNotN := .of op_notN fun v u H Q ⟨x, y, μ, h, rh, rx, ry, q⟩ => by
  unfold dNotN at q
  split at q
  · cases ry
    refine ⟨rfl, ?_⟩
    rw [isNonD_V rx]
    exact q.now rfl rh (.bl _)
  · exact q.elim

/-! ### in, of sequences -/
def dInS (neg : Bool) : F2 := fun x y h => match pd x, pdH h y with
  | some p, some (.list ps) => if min (PyData.depthAll ps) p.depth ≤ 63 then some (.bl (neg != ps.any fun z => PyData.eqv z p), h) else none
  | some p, some (.tuple ps) => if min (PyData.depthAll ps) p.depth ≤ 63 then some (.bl (neg != ps.any fun z => PyData.eqv z p), h) else none
  | _, _ => none
theorem plain_list {ps : List PyData} (h : PyData.plain (.list ps) = true) : PyData.plainAll ps = true := by rw [PyData.plain] at h; exact h
theorem plain_tuple {ps : List PyData} (h : PyData.plain (.tuple ps) = true) : PyData.plainAll ps = true := by rw [PyData.plain] at h; exact h
theorem opd_inS (hu : X.A.units + 64 < cLine) : OpD X (compareOp .In) (dInS false) := fun pins s σ H v u v' u' Q I rv ru ⟨x, y, μ, h, rh, rx, ry, q⟩ => by
  unfold dInS at q
  split at q
  · rename_i p ps e1 e2
    split at q
    · rename_i hc
      obtain ⟨⟨as, r1⟩, p1⟩ := RD.reads I _ _ _ _ rx rv e1
      obtain ⟨⟨bs, r2⟩, p2⟩ := RD.readsH I rh ry ru e2
      refine PySem.SeqAt.in_list_data r2 r1 (plain_list p2) p1 (by omega) ⟨.bl _, H, I, rfl, ?_⟩
      rw [Bool.false_bne] at q
      exact q.now rfl rh (.bl _)
    · exact q.elim
  · rename_i p ps e1 e2
    split at q
    · rename_i hc
      obtain ⟨⟨as, r1⟩, p1⟩ := RD.reads I _ _ _ _ rx rv e1
      obtain ⟨⟨bs, r2⟩, p2⟩ := RD.readsH I rh ry ru e2
      refine PySem.SeqAt.in_tuple_data r2 r1 (plain_tuple p2) p1 (by omega) ⟨.bl _, H, I, rfl, ?_⟩
      rw [Bool.false_bne] at q
      exact q.now rfl rh (.bl _)
    · exact q.elim
  · exact q.elim
theorem opd_notInS (hu : X.A.units + 64 < cLine) : OpD X (compareOp .NotIn) (dInS true) := fun pins s σ H v u v' u' Q I rv ru ⟨x, y, μ, h, rh, rx, ry, q⟩ => by
  unfold dInS at q
  split at q
  · rename_i p ps e1 e2
    split at q
    · rename_i hc
      obtain ⟨⟨as, r1⟩, p1⟩ := RD.reads I _ _ _ _ rx rv e1
      obtain ⟨⟨bs, r2⟩, p2⟩ := RD.readsH I rh ry ru e2
      refine PySem.SeqAt.notIn_list_data r2 r1 (plain_list p2) p1 (by omega) ⟨.bl _, H, I, rfl, ?_⟩
      rw [Bool.true_bne] at q
      exact q.now rfl rh (.bl _)
    · exact q.elim
  · rename_i p ps e1 e2
    split at q
    · rename_i hc
      obtain ⟨⟨as, r1⟩, p1⟩ := RD.reads I _ _ _ _ rx rv e1
      obtain ⟨⟨bs, r2⟩, p2⟩ := RD.readsH I rh ry ru e2
      refine PySem.SeqAt.notIn_tuple_data r2 r1 (plain_tuple p2) p1 (by omega) ⟨.bl _, H, I, rfl, ?_⟩
      rw [Bool.true_bne] at q
      exact q.now rfl rh (.bl _)
    · exact q.elim
  · exact q.elim
end
end Q

/-! Q5: dicts. -/
namespace Q
open PySem PySem.Spec PyProof.Rows L2

def dtGet (kvs : List (D × D)) (k : NestedKey) : Option D := (kvs.find? fun p => decide (nk p.1 = some k)).map (·.2)
def dtPut (kvs : List (D × D)) (d : D) (k : NestedKey) (v : D) : List (D × D) :=
  if (dtGet kvs k).isSome then kvs.map (fun p => if nk p.1 = some k then (p.1, v) else p) else kvs ++ [(d, v)]
def dkGet (kvs : List (Key × D)) (k : Key) : Option D := (kvs.find? fun p => decide (p.1 = k)).map (·.2)
def dkPut (kvs : List (Key × D)) (k : Key) (v : D) : List (Key × D) :=
  if (kvs.any fun kv => decide (kv.1 = k)) = true then kvs.map (fun kv => if kv.1 = k then (kv.1, v) else kv) else kvs ++ [(k, v)]
def keyD : D → Option Key
  | .int i => some (.inl i)
  | .str s => some (.inr s)
  | _ => none
/-- a tuple as a key -/
def tkey : D → Option NestedKey
  | .tup ds => match nk (.tup ds) with
    | some k => if k.depth ≤ 8 then some k else none
    | none => none
  | _ => none
def objAt (h : AH) : D → Option O
  | .ref n => h[n]?
  | _ => none

section
variable {P : Program} {w : World} {K : PySem.W.Frag} {H : Hp} {μ : Mu}
theorem paired_dt {kvs : List (D × D)} {xs : List (NestedKey × Addr × Value)} (r : Paired (RT K H μ) kvs xs) (k : NestedKey) :
    (dtGet kvs k = none ∧ atKey xs k = none) ∨ ∃ d b u v, dtGet kvs k = some d ∧ atKey xs k = some (b, u) ∧ RelV v u ∧ RD K H μ d v := by
  induction r with
  | nil => exact .inl ⟨rfl, rfl⟩
  | @cons p x ps ys rt t ih =>
    by_cases hk : x.1 = k
    · obtain ⟨v, r1, r2⟩ := rt.val
      refine .inr ⟨p.2, x.2.1, x.2.2, v, ?_, ?_, r1, r2⟩
      · simp [dtGet, rt.key, hk]
      · simp [atKey, hk]
    · have h1 : dtGet (p :: ps) k = dtGet ps k := by simp [dtGet, rt.key, hk]
      have h2 : atKey (x :: ys) k = atKey ys k := by simp [atKey, hk]
      rw [h1, h2]
      exact ih
theorem paired_put {kvs : List (D × D)} {xs : List (NestedKey × Addr × Value)} (r : Paired (RT K H μ) kvs xs) {d : D} {k : NestedKey} {b : Addr} {dv : D} {v : V} {u : Value} (hk : nk d = some k) (hd : k.depth ≤ 8) (rk : RD K H μ d (.ref b)) (rv : RelV v u) (rd : RD K H μ dv v) :
    Paired (RT K H μ) (dtPut kvs d k dv) (storedH xs k b u) := by
  have hs : (dtGet kvs k).isSome = (atKey xs k).isSome := by
    rcases paired_dt r k with ⟨e1, e2⟩ | ⟨_, _, _, _, e1, e2, _⟩ <;> rw [e1, e2] <;> rfl
  unfold dtPut storedH
  rw [hs]
  split
  · rename_i hx
    clear hx hs
    induction r with
    | nil => exact .nil
    | @cons p x ps ys rt t ih =>
      refine .cons ?_ ih
      show RT K H μ (if nk p.1 = some k then (p.1, dv) else p) (if x.1 = k then (x.1, x.2.1, u) else x)
      by_cases hx : x.1 = k
      · have e : nk p.1 = some k := by rw [rt.key, hx]
        rw [if_pos e, if_pos hx]
        exact ⟨rt.key, rt.dep, rt.rk, v, rv, rd⟩
      · have e : ¬ nk p.1 = some k := by rw [rt.key]; simpa using hx
        rw [if_neg e, if_neg hx]
        exact rt
  · rename_i hx
    clear hx hs
    have hn : RT K H μ (d, dv) (k, b, u) := ⟨hk, hd, rk, v, rv, rd⟩
    induction r with
    | nil => exact .cons hn .nil
    | cons rt t ih => exact .cons rt ih
theorem length_dtPut (kvs : List (D × D)) (d : D) (k : NestedKey) (v : D) : (dtPut kvs d k v).length ≤ kvs.length + 1 := by
  unfold dtPut
  split <;> simp
theorem paired_dk {kvs : List (Key × D)} {qs : List (Key × V)} (r : RKV K H μ kvs qs) (k : Key) : (dkGet kvs k = none ∧ valV qs k = none) ∨ ∃ d v, dkGet kvs k = some d ∧ valV qs k = some v ∧ RD K H μ d v := by
  unfold RKV at r
  induction r with
  | nil => exact .inl ⟨rfl, rfl⟩
  | @cons p x ps ys rt t ih =>
    by_cases hk : x.1 = k
    · exact .inr ⟨p.2, x.2, by simp [dkGet, rt.1, hk], by simp [valV, hk], rt.2⟩
    · have h1 : dkGet (p :: ps) k = dkGet ps k := by simp [dkGet, rt.1, hk]
      have h2 : valV (x :: ys) k = valV ys k := by simp [valV, hk]
      rw [h1, h2]
      exact ih
theorem paired_dkAny {kvs : List (Key × D)} {qs : List (Key × V)} (r : RKV K H μ kvs qs) (k : Key) : (kvs.any fun kv => decide (kv.1 = k)) = qs.any fun kv => decide (kv.1 = k) := by
  unfold RKV at r
  induction r with
  | nil => rfl
  | @cons p x ps ys rt t ih => rw [List.any_cons, List.any_cons, ih, rt.1]
theorem paired_dkPut {kvs : List (Key × D)} {qs : List (Key × V)} (r : RKV K H μ kvs qs) {k : Key} {d : D} {v : V} (rd : RD K H μ d v) : RKV K H μ (dkPut kvs k d) (putK qs k v) := by
  unfold dkPut putK
  rw [paired_dkAny r k]
  unfold RKV at r ⊢
  split
  · rename_i hx
    clear hx
    induction r with
    | nil => exact .nil
    | @cons p x ps ys rt t ih =>
      refine .cons ?_ ih
      show (if p.1 = k then (p.1, d) else p).1 = (if x.1 = k then (x.1, v) else x).1 ∧ RD K H μ (if p.1 = k then (p.1, d) else p).2 (if x.1 = k then (x.1, v) else x).2
      rw [rt.1]
      split
      · exact ⟨rfl, rd⟩
      · exact rt
  · rename_i hx
    clear hx
    have hn : (fun (p : Key × D) (q : Key × V) => p.1 = q.1 ∧ RD K H μ p.2 q.2) (k, d) (k, v) := ⟨rfl, rd⟩
    induction r with
    | nil => exact .cons hn .nil
    | cons rt t ih => exact .cons rt ih
theorem length_dkPut (kvs : List (Key × D)) (k : Key) (v : D) : (dkPut kvs k v).length ≤ kvs.length + 1 := by
  unfold dkPut
  split <;> simp
theorem keyD_V {d : D} {v : V} {k : Key} (r : RD K H μ d v) (e : keyD d = some k) : v = kV k := by
  unfold keyD at e
  split at e
  · cases e; cases r; rfl
  · cases e; cases r; rfl
  · cases e
theorem tkey_V {d : D} {v : V} {k : NestedKey} (r : RD K H μ d v) (e : tkey d = some k) : ∃ a, v = .ref a ∧ nk d = some k ∧ k.depth ≤ 8 := by
  unfold tkey at e
  split at e
  · split at e
    · split at e
      · cases e
        rename_i h1 h2
        cases r with
        | tup t _ => exact ⟨_, rfl, h1, h2⟩
      · cases e
    · cases e
  · cases e
end

section
variable {X : Cx} {pins : List (Addr × Obj)} {σ : L2.St} {H : Hp} {s : Shared} {μ : Mu} {h : AH} {a : Addr}
/-- the dict with tuple keys, as the library has it -/
theorem dt_raw (I : Inv X pins σ H s) {kvs : List (D × D)} {xs : List (NestedKey × Addr × Value)} (e : H a = some (dxO a (xs.map (entryOfKey (nestedKind X.prog X.w))))) (r : Paired (RT X.K H μ) kvs xs) (nd : (xs.map (·.1)).Nodup) :
    s.heap.DictOfH (nestedKind X.prog X.w) a xs := by
  obtain ⟨⟨o, ep, ho, hc, hd⟩, _, _⟩ := I.hok a _ e
  refine ⟨o, _, ep, ho, hc, hd, by simp, fun x hx => ?_, nd⟩
  obtain ⟨i, hi⟩ := List.mem_iff_getElem?.mp hx
  have : ∀ {kvs : List (D × D)} {xs : List (NestedKey × Addr × Value)}, Paired (RT X.K H μ) kvs xs → ∀ x ∈ xs, ∃ p, RT X.K H μ p x := by
    intro kvs xs r
    induction r with
    | nil => intro x hx; cases hx
    | cons rt t ih =>
      intro x hx
      rcases List.mem_cons.mp hx with rfl | hx
      · exact ⟨_, rt⟩
      · exact ih x hx
  obtain ⟨p, rt⟩ := this r x hx
  exact ⟨RD.nested I _ _ _ _ rt.rk rfl rt.key, rt.dep⟩
theorem key_is (I : Inv X pins σ H s) {d : D} {k : NestedKey} {b : Addr} (r : RD X.K H μ d (.ref b)) (e : nk d = some k) (hd : k.depth ≤ 8) : (nestedKind X.prog X.w).is s.heap k b := ⟨RD.nested I _ _ _ _ r rfl e, hd⟩

/-! ### in -/
def dIn (neg : Bool) : F2 := fun x y h => match objAt h y with
  | some (.dt kvs) => match tkey x with
    | some k => some (.bl (neg != (dtGet kvs k).isSome), h)
    | none => none
  | some (.dk kvs) => match keyD x with
    | some k => some (.bl (neg != (dkGet kvs k).isSome), h)
    | none => none
  | _ => dInS neg x y h
theorem objAt_ok {P : Program} {w : World} {K : PySem.W.Frag} {d : D} {v : V} {o : O} (rh : RelH P w K H μ h) (r : RD K H μ d v) (e : objAt h d = some o) : ∃ n b, d = .ref n ∧ μ.l[n]? = some b ∧ v = .ref b ∧ Q.RelO P w K H μ o b := by
  unfold objAt at e
  split at e
  · cases r with
    | ref hm => exact ⟨_, _, rfl, hm, rfl, rh.obj _ _ _ e hm⟩
  · cases e
theorem opd_in (hu : X.A.units + 64 < cLine) : OpD X (compareOp .In) (dIn false) := fun pins s σ H v u v' u' Q I rv ru ⟨x, y, μ, h, rh, rx, ry, q⟩ => by
  unfold dIn at q
  split at q
  · rename_i kvs eo
    split at q
    · rename_i k ek
      obtain ⟨n, b, rfl, hm, rfl, ro⟩ := objAt_ok rh ry eo
      obtain ⟨a, rfl, e1, e2⟩ := tkey_V rx ek
      cases rv; cases ru
      cases ro with
      | dt he hz hl hp hn =>
        refine wpAny_in_heap (show (nestedKind X.prog X.w).room X.A.in1 from ?_) (key_is I rx e1 e2) hz (dt_raw I he hp hn) ?_
        · show X.A.units + 1 + 8 < cLine
          omega
        · refine ⟨.bl _, H, I.tok _, rfl, ?_⟩
          rw [Bool.false_bne] at q
          rcases paired_dt hp k with ⟨z1, z2⟩ | ⟨_, _, _, _, z1, z2, _⟩
          · rw [z1] at q; rw [z2]; exact q.now rfl rh (.bl _)
          · rw [z1] at q; rw [z2]; exact q.now rfl rh (.bl _)
    · exact q.elim
  · rename_i kvs eo
    split at q
    · rename_i k ek
      obtain ⟨n, b, rfl, hm, rfl, ro⟩ := objAt_ok rh ry eo
      have ev := keyD_V rx ek
      cases ru
      cases ro with
      | dk he hp =>
        refine d_in (by omega) I (.inl ⟨_, k, .inl he, ev, rfl⟩) rv fun s' I' => ⟨.bl _, H, I', rfl, ?_⟩
        rw [Bool.false_bne] at q
        rcases paired_dk hp k with ⟨z1, z2⟩ | ⟨_, _, z1, z2, _⟩
        · rw [z1] at q; rw [z2]; exact q.now rfl rh (.bl _)
        · rw [z1] at q; rw [z2]; exact q.now rfl rh (.bl _)
    · exact q.elim
  · exact opd_inS hu pins s σ H v u v' u' Q I rv ru ⟨x, y, μ, h, rh, rx, ry, q⟩
theorem opd_notIn (hu : X.A.units + 64 < cLine) : OpD X (compareOp .NotIn) (dIn true) := fun pins s σ H v u v' u' Q I rv ru ⟨x, y, μ, h, rh, rx, ry, q⟩ => by
  unfold dIn at q
  split at q
  · rename_i kvs eo
    split at q
    · rename_i k ek
      obtain ⟨n, b, rfl, hm, rfl, ro⟩ := objAt_ok rh ry eo
      obtain ⟨a, rfl, e1, e2⟩ := tkey_V rx ek
      cases rv; cases ru
      cases ro with
      | dt he hz hl hp hn =>
        refine wpAny_notIn_heap (show (nestedKind X.prog X.w).room X.A.in1 from ?_) (key_is I rx e1 e2) hz (dt_raw I he hp hn) ?_
        · show X.A.units + 1 + 8 < cLine
          omega
        · refine ⟨.bl _, H, I.tok _, rfl, ?_⟩
          rw [Bool.true_bne] at q
          rcases paired_dt hp k with ⟨z1, z2⟩ | ⟨_, _, _, _, z1, z2, _⟩
          · rw [z1] at q; rw [z2]; exact q.now rfl rh (.bl _)
          · rw [z1] at q; rw [z2]; exact q.now rfl rh (.bl _)
    · exact q.elim
  · rename_i kvs eo
    split at q
    · rename_i k ek
      obtain ⟨n, b, rfl, hm, rfl, ro⟩ := objAt_ok rh ry eo
      have ev := keyD_V rx ek
      cases ru
      cases ro with
      | dk he hp =>
        refine d_notIn (by omega) I (.inl ⟨_, k, .inl he, ev, rfl⟩) rv fun s' I' => ⟨.bl _, H, I', rfl, ?_⟩
        rw [Bool.true_bne] at q
        rcases paired_dk hp k with ⟨z1, z2⟩ | ⟨_, _, z1, z2, _⟩
        · rw [z1] at q; rw [z2]; exact q.now rfl rh (.bl _)
        · rw [z1] at q; rw [z2]; exact q.now rfl rh (.bl _)
    · exact q.elim
  · exact opd_notInS hu pins s σ H v u v' u' Q I rv ru ⟨x, y, μ, h, rh, rx, ry, q⟩

/-! ### subscripts -/
def dIx : F2 := fun x y h => match objAt h x with
  | some (.dt kvs) => match tkey y with
    | some k => (dtGet kvs k).map fun d => (d, h)
    | none => none
  | some (.dk kvs) => match keyD y with
    | some k => (dkGet kvs k).map fun d => (d, h)
    | none => none
  | _ => match x, y with
    | .str a, .int i => if a.length ≤ 16777216 then (atI a.cps.toList i).map fun c => (.str ⟨#[c]⟩, h) else none
    | x, .int i => match ssq h x with
      | some ds => (atI ds i).map fun d => (d, h)
      | none => none
    | _, _ => none
theorem RDs.atI {K : PySem.W.Frag} {ds : List D} {xs : List V} {i : Int} {d : D} (r : RDs K H μ ds xs) (e : L2.atI ds i = some d) : ∃ v, L2.atI xs i = some v ∧ RD K H μ d v := by
  unfold L2.atI at e ⊢
  rw [r.length]
  cases hi : ixN ds.length i with
  | none => rw [hi] at e; cases e
  | some j =>
    rw [hi] at e
    obtain ⟨v, e1, r1⟩ := r.get e
    exact ⟨v, e1, r1⟩
/-- an IxR by values -/
def IxD (X : Cx) (f : F2) : Prop := IxR X (rOf X f)
theorem ixd (hu : X.A.units + 64 < cLine) : IxD X dIx := fun value slice pins s σ H v u v' u' Q I rv ru ⟨x, y, μ, h, rh, rx, ry, q⟩ hs => by
  unfold dIx at q
  split at q
  · rename_i kvs eo
    split at q
    · rename_i k ek
      obtain ⟨n, b, rfl, hm, rfl, ro⟩ := objAt_ok rh rx eo
      obtain ⟨a, rfl, e1, e2⟩ := tkey_V ry ek
      cases rv; cases ru
      cases ro with
      | dt he hz hl hp hn =>
        have hD := dt_raw I he hp hn
        rcases paired_dt hp k with ⟨z1, z2⟩ | ⟨d, b', u, v, z1, z2, z3, z4⟩
        · rw [z1] at q; exact q.elim
        · refine tail_any hD.typeIs PySem.F.slot_dict_getitem.lookup (wpAny_getItem_heap (show (nestedKind X.prog X.w).room X.A.in1 from ?_) (key_is I ry e1 e2) hD z2 ?_) hs
          · show X.A.units + 1 + 8 < cLine
            omega
          · rw [z1] at q
            exact ⟨v, H, I.tok _, z3, q.now rfl rh z4⟩
    · exact q.elim
  · rename_i kvs eo
    split at q
    · rename_i k ek
      obtain ⟨n, b, rfl, hm, rfl, ro⟩ := objAt_ok rh rx eo
      have ev := keyD_V ry ek
      cases rv
      cases ro with
      | dk he hp =>
        rcases paired_dk hp k with ⟨z1, z2⟩ | ⟨d, v, z1, z2, z3⟩
        · rw [z1] at q; exact q.elim
        · rw [z1] at q
          have g : DGet H b u (some v) := .inl ⟨_, k, .inl he, ev, z2.symm⟩
          exact tail_any (dict_typeIs I g) PySem.F.slot_dict_getitem.lookup (d_getItem (by omega) I g ru fun w' s' I' rw' => ⟨v, H, I', rw', q.now rfl rh z3⟩) hs
    · exact q.elim
  · split at q
    · split at q
      · rename_i a i _ _ hl
        cases rx; cases ry
        cases hc : atI a.cps.toList i with
        | none => rw [hc] at q; exact q.elim
        | some c =>
          rw [hc] at q
          exact ix_str value slice pins s σ H _ _ _ _ Q I rv ru ⟨_, _, c, rfl, rfl, by rw [sizeLine_eq]; exact hl, hc, q.now rfl rh (.str _)⟩ hs
      · exact q.elim
    · split at q
      · rename_i i _ _ ds hq
        cases ry
        cases hc : atI ds i with
        | none => rw [hc] at q; exact q.elim
        | some d =>
          rw [hc] at q
          obtain ⟨p, xs, rfl, hq2, rr⟩ := ssq_ok rh rx hq
          obtain ⟨z, e1, r1⟩ := rr.atI hc
          rcases hq2 with hq2 | hq2
          · exact ix_list value slice pins s σ H _ _ _ _ Q I rv ru ⟨_, _, _, z, rfl, rfl, hq2, e1, q.now rfl rh r1⟩ hs
          · exact ix_tup value slice pins s σ H _ _ _ _ Q I rv ru ⟨_, _, _, z, rfl, rfl, hq2, e1, q.now rfl rh r1⟩ hs
      · exact q.elim
    · exact q.elim

/-! ### x[y] = z -/
def rSet (X : Cx) (f : D → D → D → AH → Option AH) : TSet := fun o i v H Q => ∃ (x y z : D) (μ : Mu) (h : AH), RelH X.prog X.w X.K H μ h ∧ RD X.K H μ x o ∧ RD X.K H μ y i ∧ RD X.K H μ z v ∧
  ∃ h', f x y z h = some h' ∧ ∀ (H' : Hp) (μ' : Mu), Stp μ μ' H H' → RelH X.prog X.w X.K H' μ' h' → Q H'
def SetD (X : Cx) (f : D → D → D → AH → Option AH) : Prop := PSet X (rSet X f)
def dSet (x y z : D) (h : AH) : Option AH := match x with
  | .ref n => match h[n]? with
    | some (.dt kvs) => match tkey y with
      | some k => if kvs.length < 16777216 then some (h.set n (.dt (dtPut kvs y k z))) else none
      | none => none
    | some (.dk kvs) => match keyD y with
      | some k => if kvs.length < 16777216 then some (h.set n (.dk (dkPut kvs k z))) else none
      | none => none
    | some (.lst ds) => match y with
      | .int i => match ixN ds.length i with
        | some j => some (h.set n (.lst (ds.set j z)))
        | none => none
      | _ => none
    | _ => none
  | _ => none
theorem setd (hu : X.A.units + 64 < cLine) : SetD X dSet := fun pins s σ H o i v ov iv u Q I ro ri rv ⟨x, y, z, μ, h, rh, rx, ry, rz, h', e, q⟩ => by
  unfold dSet at e
  split at e
  · rename_i n
    cases rx with
    | @ref _ a hm =>
      split at e
      · rename_i kvs eh
        split at e
        · rename_i k ek
          split at e
          · rename_i hl
            cases e
            obtain ⟨b, rfl, e1, e2⟩ := tkey_V ry ek
            cases ro; cases ri
            cases rh.obj _ _ _ eh hm with
            | @dt _ _ xs he hz hl2 hp hn =>
              have hD := dt_raw I he hp hn
              have hz2 := Paired.length hp
              refine wpAny_setItem_heap (hsz := by rw [sizeLine_eq]; omega) (show (nestedKind X.prog X.w).room X.A.in1 from ?_) (key_is I ry e1 e2) hD fun h2 dd' hs => ?_
              · show X.A.units + 1 + 8 < cLine
                omega
              · obtain ⟨q', es, ep, hq, h2', h3, h4, _, h5⟩ := dd'
                have I' := d_write (t' := s.toks + (nestedKind X.prog X.w).draws k) (ob := dxO a ((storedH xs k b u).map (entryOfKey (nestedKind X.prog X.w)))) I (by rw [he]; exact True.intro) hs ⟨q', hq⟩
                  ⟨⟨q', ep, hq, h2', by rw [h3, ← h4]⟩, ⟨q', hq⟩, fun g1 g2 ⟨p, ep, hp, z1, z2⟩ st => ⟨p, ep, st p hp, z1, z2⟩⟩
                refine ⟨_, I', q _ μ (Stp.wrote rh hm) (rh.wrote hm (.dt upd_same hz ?_ (paired_mono (fun _ _ z => z.stp (Stp.wrote rh hm)) (paired_put hp e1 e2 ry rv rz)) h5))⟩
                rw [sizeLine_eq]
                exact Nat.le_trans (length_dtPut _ _ _ _) hl
          · cases e
        · cases e
      · rename_i kvs eh
        split at e
        · rename_i k ek
          split at e
          · rename_i hl
            cases e
            have ev := keyD_V ry ek
            cases ro
            cases rh.obj _ _ _ eh hm with
            | dk he hp =>
              have hz2 := Paired.length hp
              refine d_setItem (H' := upd H a (.dK (putK _ k v))) (by omega) I (.inl ⟨_, k, he, ev, by rw [sizeLine_eq]; omega, rfl⟩) ri rv fun s' I' => ⟨_, I', q _ μ (Stp.wrote rh hm) (rh.wrote hm (.dk upd_same (RKV.stp (Stp.wrote rh hm) (paired_dkPut hp rz))))⟩
          · cases e
        · cases e
      · rename_i ds eh
        split at e
        · split at e
          · rename_i i j hj
            cases e
            cases ry
            cases rh.obj _ _ _ eh hm with
            | lst he hp =>
              exact set_list pins s σ H _ _ _ ov iv u Q I ro ri rv ⟨a, _, _, j, rfl, rfl, he, by rw [hp.length]; exact hj, q _ μ (Stp.wrote rh hm) (rh.wrote hm (.lst upd_same (RDs.stp (Stp.wrote rh hm) (hp.set rz j))))⟩
          · cases e
        · cases e
      · cases e
  · cases e

/-! ### {} -/
/-- {} whose keys will be tuples -/
def eNewT : M := fun σ h => .ok (.ref h.length) (h ++ [.dt []])
def tNewT : TE := fun _ H Q => ∀ p, H p = none → (p == sysModules) = false → Q (.ref p) (upd H p (dxO p []))
theorem pe_newT {pos : Pos} : PE X (.Dict [] [] pos) tNewT := ⟨fun pins s σ H Q I h =>
  wpAny_Dict_empty ⟨.ref s.heap.objs.size, _, I.laid (a := s.heap.objs.size) (o := dxO s.heap.objs.size []) (t' := s.toks) (fun _ _ q => Heap.get?_push_of_some _ q) (Nat.le_refl _)
    ⟨⟨_, 0, Heap.get?_push_size _ rfl, ⟨rfl, rfl, rfl⟩, rfl⟩, ⟨_, Heap.get?_push_size _ rfl⟩, fun g1 g2 ⟨p, ep, hp, z1, z2⟩ st => ⟨p, ep, st p hp, z1, z2⟩⟩, rfl,
    h _ (I.hok.fresh (Nat.le_refl _)) (beq_eq_false_iff_ne.mpr (Ne.symm (Nat.ne_of_lt I.big)))⟩⟩
theorem q_newT {W : WX} {pos : Pos} : QE X W eNewT (.Dict [] [] pos) := QE.of pe_newT fun τ H Q ⟨σ, h, μ, rs, rh, q⟩ p hp hz => by
  refine q _ _ (μ.push p) (Stp.more hp) (rh.more hp (.dt (xs := []) upd_same hz (Nat.zero_le _) .nil List.nodup_nil)) ?_
  rw [← rh.len]
  exact RD.last
def eNewK : M := fun σ h => .ok (.ref h.length) (h ++ [.dk []])
theorem q_newK {W : WX} {pos : Pos} : QE X W eNewK (.Dict [] [] pos) := QE.of pe_dnewK fun τ H Q ⟨σ, h, μ, rs, rh, q⟩ p hp => by
  refine q _ _ (μ.push p) (Stp.more hp) (rh.more hp (.dk (qs := []) upd_same .nil)) ?_
  rw [← rh.len]
  exact RD.last

/-! ### slices -/
def cutD (ds : List D) (lo hi : Option Int) : List D := (ds.drop (HT.sIx ds.length 0 lo)).take (HT.sIx ds.length ds.length hi - HT.sIx ds.length 0 lo)
theorem RDs.cut {K : PySem.W.Frag} {ds : List D} {xs : List V} (lo hi : Option Int) (r : RDs K H μ ds xs) : RDs K H μ (cutD ds lo hi) (cutV xs lo hi) := by
  unfold cutD cutV
  rw [r.length]
  exact (r.drop _).take _
abbrev FS := D → Option Int → Option Int → AH → Opt
def dSl : FS := fun x lo hi h => match x with
  | .str a => if a.length ≤ 16777216 then some (.str (cutS a lo hi), h) else none
  | .tup ds => some (.tup (cutD ds lo hi), h)
  | x => match lsq h x with
    | some ds => some (.fro (cutD ds lo hi), h)
    | none => none
/-- a list's slice as a changing list -/
def dSlR : FS := fun x lo hi h => match lsq h x with
  | some ds => some (.ref h.length, h ++ [.lst (cutD ds lo hi)])
  | none => none
def rSl (X : Cx) (f : FS) : V → Option Int → Option Int → Hp → VK → Prop := fun v lo hi H Q => ∃ (x : D) (μ : Mu) (h : AH), RelH X.prog X.w X.K H μ h ∧ RD X.K H μ x v ∧ PO2 X H μ Q (f x lo hi h)
def SlD (X : Cx) (f : FS) : Prop := SlR X (rSl X f)
theorem sld : SlD X dSl := fun pins s σ H v u vl vu lo hi sl Q I rv hsl hl hh ⟨x, μ, h, rh, rx, q⟩ => by
  unfold dSl at q
  split at q
  · split at q
    · rename_i a hl2
      cases rx
      exact sl_str pins s σ H _ u vl vu lo hi sl Q I rv hsl hl hh ⟨_, rfl, by rw [sizeLine_eq]; exact hl2, q.now rfl rh (.str _)⟩
    · exact q.elim
  · rename_i ds
    cases rx with
    | tup t rr =>
      refine sl_tupA pins s σ H _ u vl vu lo hi sl Q I rv hsl hl hh ⟨_, _, rfl, t.sq, fun ⟨c1, c2⟩ => ?_, fun _ => q.tup rh (rr.cut lo hi)⟩
      have e : cutD ds lo hi = ds := by
        unfold cutD
        rw [rr.length] at c1 c2
        rw [c1, c2, List.drop_zero, Nat.sub_zero, List.take_length]
      rw [e] at q
      exact q.now rfl rh (.tup t rr)
  · split at q
    · rename_i ds hq
      obtain ⟨p, xs, rfl, hs, rr⟩ := lsq_ok rh rx hq
      exact sl_list pins s σ H _ u vl vu lo hi sl Q I rv hsl hl hh ⟨p, xs, rfl, hs, q.fro rh (rr.cut lo hi)⟩
    · exact q.elim
theorem sldR : SlD X dSlR := fun pins s σ H v u vl vu lo hi sl Q I rv hsl hl hh ⟨x, μ, h, rh, rx, q⟩ => by
  unfold dSlR at q
  split at q
  · rename_i ds hq
    obtain ⟨p, xs, rfl, hs, rr⟩ := lsq_ok rh rx hq
    exact sl_list pins s σ H _ u vl vu lo hi sl Q I rv hsl hl hh ⟨p, xs, rfl, hs, q.list rh (rr.cut lo hi)⟩
  · exact q.elim
/-- a part of a slice -/
abbrev MO := AS → AH → Res (Option Int)
def rP : Hp → Mu → Option Int → Option Int → Prop := fun _ _ a b => a = b
def QO (X : Cx) (W : WX) (m : MO) (e : Option Expr) : Prop := PO X e (tG X W rP m)
def oNil : MO := fun _ h => .ok none h
def oSome (m : M) : MO := fun σ h => (m σ h).bind fun d h1 => match d with
  | .int i => .ok (some i) h1
  | _ => .stuck
theorem PO.of' {e : Option Expr} {t t' : TO} (h : PO X e t) (i : ∀ σ H Q, t' σ H Q → t σ H Q) : PO X e t' := ⟨fun pins s σ H Q I q => h.run pins s σ H Q I (i _ _ _ q)⟩
theorem qo_nil {W : WX} : QO X W oNil none := PO.of' po_none fun τ H Q ⟨σ, h, μ, rs, rh, q⟩ => q.now rh rfl
theorem qo_some {W : WX} {m : M} {e : Expr} (hm : QE X W m e) : QO X W (oSome m) (some e) := PO.of' (po_some hm) fun τ H Q ⟨σ, h, μ, rs, rh, q⟩ =>
  go rs rh q fun d h1 v H1 μ1 s1 rs1 rh1 rd q1 => by
    split at q1
    · cases rd
      exact ⟨_, rfl, q1.now rh1 rfl⟩
    · exact q1.elim
def eSl (f : FS) (a : M) (lo hi : MO) : M := fun σ h => (a σ h).bind fun x h1 => (lo σ h1).bind fun i h2 => (hi σ h2).bind fun j h3 => lif (f x i j h3)
theorem q_sl {W : WX} {f : FS} {a : M} {lo hi : MO} {e : Expr} {elo ehi : Option Expr} {p2 pos : Pos} (hf : SlD X f) (ha : QE X W a e) (hlo : QO X W lo elo) (hhi : QO X W hi ehi) : QE X W (eSl f a lo hi) (.Subscript e (.Slice elo ehi none p2) pos) :=
  QE.of (pe_slice hf ha hlo hhi) fun τ H Q ⟨σ, h, μ, rs, rh, q⟩ => go rs rh q fun x h1 v H1 μ1 s1 rs1 rh1 rx q1 => go rs1 rh1 q1 fun i h2 i' H2 μ2 s2 rs2 rh2 ri q2 => go rs2 rh2 q2 fun j h3 j' H3 μ3 s3 rs3 rh3 rj q3 => by
    cases (show i = i' from ri)
    cases (show j = j' from rj)
    exact ⟨x, μ3, h3, rh3, (rx.stp s2).stp s3, .of q3⟩
/-- a[b] -/
theorem q_ix {W : WX} {f : F2} {a b : M} {ea eb : Expr} {pos : Pos} (hf : IxD X f) (ha : QE X W a ea) (hb : QE X W b eb) (hs : PlainIx eb := by intro _ _; rfl) : QE X W (eOp f a b) (.Subscript ea eb pos) := QE.of (pe_ix hf ha hb hs) two
end
end Q

/-! Q6: calls of built-ins, methods. -/
namespace Q
open PySem PySem.Spec PyProof.Rows L2

abbrev FC := List D → AH → Opt
section
variable {X : Cx} {W : WX} {pins : List (Addr × Obj)} {σ : L2.St} {H : Hp} {s : Shared} {μ : Mu} {h : AH}
def rCall (X : Cx) (g : FC) : List V → Hp → VK → Prop := fun vs H Q => ∃ (ds : List D) (μ : Mu) (h : AH), RelH X.prog X.w X.K H μ h ∧ RDs X.K H μ ds vs ∧ PO2 X H μ Q (g ds h)
def CallD (X : Cx) (f : Value) (g : FC) : Prop := CallR X f (rCall X g)
theorem CallD.of {f : Value} {r : List V → Hp → VK → Prop} {g : FC} (ho : CallR X f r) (hi : ∀ vs H Q, rCall X g vs H Q → r vs H Q) : CallD X f g := fun pins s σ H xs us Q I rs q => ho pins s σ H xs us Q I rs (hi xs H Q q)
def eCall (g : FC) (r : ML) : M := fun σ h => (r σ h).bind fun ds h1 => lif (g ds h1)
theorem call_go {g : FC} {r : ML} : ∀ τ H Q, tE X W (eCall g r) τ H Q → tCB (rCall X g) (tL X W r) τ H Q := fun τ H Q ⟨σ, h, μ, rs, rh, q⟩ =>
  go rs rh q fun ds h1 vs H1 μ1 s1 rs1 rh1 rds q1 => ⟨ds, μ1, h1, rh1, rds, .of q1⟩
theorem q_bltn {g : FC} {r : ML} {id : String} {x : Str} {e : Expr} {es : List Expr} {p pos : Pos} (hc : CallD X (.builtin id) g) (hg : Gl X x) (hm : X.mg x = none) (hv : bootBuiltins x = some (.builtin id)) (ha : QA X W r (e :: es)) (hn : x ≠ "__name__" := by decide) (hdb : (x == ("__debug__" : Str)) = false := by decide)
    (he : starEach (e :: es) X.env = (false, eval e X.env) :: starEach es X.env := by rfl) (hpl : (backTo pos (starEach es X.env)).any (·.1) = false := by rfl) : QE X W (eCall g r) (.Call (.Name x p) (e :: es) [] pos) :=
  QE.of (pe_callB hc hg hm hv ha hn hdb he hpl) call_go
theorem q_btyp {g : FC} {r : ML} {T : String} {x : Str} {e : Expr} {es : List Expr} {p pos : Pos} (hc : CallD X (.type T) g) (hg : Gl X x) (hm : X.mg x = none) (hv : bootBuiltins x = some (.type T)) (ha : QA X W r (e :: es)) (hn : x ≠ "__name__" := by decide) (hdb : (x == ("__debug__" : Str)) = false := by decide)
    (he : starEach (e :: es) X.env = (false, eval e X.env) :: starEach es X.env := by rfl) (hpl : (backTo pos (starEach es X.env)).any (·.1) = false := by rfl) : QE X W (eCall g r) (.Call (.Name x p) (e :: es) [] pos) :=
  QE.of (pe_callTy hc hg hm hv ha hn hdb he hpl) call_go

/-! ### len, abs, int -/
def gLen : FC := fun ds h => match ds with
  | [x] => match x with
    | .str a => if a.length ≤ 16777216 then some (.int a.length, h) else none
    | x => match objAt h x with
      | some (.dk kvs) => some (.int kvs.length, h)
      | _ => match ssq h x with
        | some es => some (.int es.length, h)
        | none => none
  | _ => none
theorem cd_len : CallD X (.builtin "len") gLen := fun pins s σ H vs us Q I rv ⟨ds, μ, h, rh, rds, q⟩ => by
  unfold gLen at q
  split at q
  · obtain ⟨v, rfl, rx⟩ := rds.one
    split at q
    · split at q
      · rename_i hl
        cases rx
        exact call_len pins s σ H _ us Q I rv ⟨_, _, rfl, ⟨by rw [sizeLine_eq]; exact hl, rfl⟩, q.now rfl rh (.int _)⟩
      · exact q.elim
    · split at q
      · rename_i kvs eo
        obtain ⟨n, b, rfl, hm, rfl, ro⟩ := objAt_ok rh rx eo
        cases ro with
        | dk he hp =>
          refine call_lenD pins s σ H _ us Q I rv ⟨_, _, rfl, he, ?_⟩
          rw [← Paired.length hp]
          exact q.now rfl rh (.int _)
      · split at q
        · rename_i es hq
          obtain ⟨p, xs, rfl, hq2, rr⟩ := ssq_ok rh rx hq
          refine call_len pins s σ H _ us Q I rv ⟨_, es.length, rfl, ?_, q.now rfl rh (.int _)⟩
          rcases hq2 with hq2 | hq2
          · exact .inl ⟨xs, hq2, rr.length.symm⟩
          · exact .inr ⟨xs, hq2, rr.length.symm⟩
        · exact q.elim
  · exact q.elim
def gAbs : FC := fun ds h => match ds with
  | [.int i] => some (.int (if i < 0 then -i else i), h)
  | _ => none
theorem cd_abs : CallD X (.builtin "abs") gAbs := .of call_abs fun vs H Q ⟨ds, μ, h, rh, rds, q⟩ => by
  unfold gAbs at q
  split at q
  · obtain ⟨v, rfl, rx⟩ := rds.one
    cases rx
    exact ⟨_, rfl, q.now rfl rh (.int _)⟩
  · exact q.elim
def gInt : FC := fun ds h => match ds with
  | [.int i] => some (.int i, h)
  | [.bl k] => some (.int (if k then 1 else 0), h)
  | _ => none
theorem cd_int : CallD X (.type "int") gInt := .of call_int1 fun vs H Q ⟨ds, μ, h, rh, rds, q⟩ => by
  unfold gInt at q
  split at q
  · obtain ⟨v, rfl, rx⟩ := rds.one
    cases rx
    exact .inl ⟨_, rfl, q.now rfl rh (.int _)⟩
  · obtain ⟨v, rfl, rx⟩ := rds.one
    cases rx
    exact .inr ⟨_, rfl, q.now rfl rh (.int _)⟩
  · exact q.elim
/-! ### list, tuple -/
theorem ks_items {K : PySem.W.Frag} {P : Program} {w : World} {kvs : List (D × D)} {xs : List (NestedKey × Addr × Value)} (r : Paired (RT K H μ) kvs xs) : ∀ (vs : List Value), vs.length = xs.length → (∀ (j : Nat) (v : Value), vs[j]? = some v → ∃ x, xs[j]? = some x ∧ v = .ref x.2.1) →
    ∃ ys, Vals ys vs ∧ RDs K H μ (kvs.map (·.1)) ys := by
  induction r with
  | nil =>
    intro vs hl _
    cases vs with
    | nil => exact ⟨[], .nil, .nil⟩
    | cons _ _ => cases hl
  | @cons p x ps ys rt t ih =>
    intro vs hl hv
    cases vs with
    | nil => cases hl
    | cons v vs =>
      obtain ⟨x', e, rfl⟩ := hv 0 v rfl
      cases e
      obtain ⟨zs, r1, r2⟩ := ih vs (by simpa using hl) fun j v e => hv (j + 1) v (by simpa using e)
      exact ⟨.ref x.2.1 :: zs, .cons rfl r1, .cons rt.rk r2⟩
theorem list_keys (I : Inv X pins σ H s) (hc : X.calm = true) {Q : VK} {a : Addr} {kvs : List (D × D)} (rh : RelH X.prog X.w X.K H μ h) (ro : _root_.Q.RelO X.prog X.w X.K H μ (.dt kvs) a)
    (q : ∀ (ys : List V), RDs X.K H μ (kvs.map (·.1)) ys → ∀ p, H p = none → Q (.ref p) (upd H p (.lst ys))) : wpAny (model X.prog X.w) X.A (call (.type "list") [.ref a]) (EP X pins σ Q) X.xe s := by
  cases ro with
  | @dt _ _ xs he hz hl hp hn =>
    obtain ⟨⟨o, ep, ho, hcl, hd⟩, _, _⟩ := I.hok a _ he
    have hlen := Paired.length hp
    have hr : s.heap.DictRaw a (xs.map (entryOfKey (nestedKind X.prog X.w))).toArray ep := ⟨o, ho, hcl, hd⟩
    refine PySem.W.kdl_call (PySem.KdlSrc.rawDict (es := (xs.map (entryOfKey (nestedKind X.prog X.w))).toArray) (ep := ep) hz) (I.ok.hd hc) hr (by simp; omega) fun h' tk acc c kp e hit => ?_
    obtain ⟨h1, h2⟩ := hit
    obtain ⟨ys, r1, r2⟩ := ks_items (P := X.prog) (w := X.w) hp acc.toList (by simpa using h1) fun j v hj => by
      obtain ⟨hi, rfl⟩ := h2 j v (by simpa using hj)
      simp at hi
      exact ⟨xs[j], List.getElem?_eq_getElem hi, by simp [entryOfKey]⟩
    have hy : ys.length ≤ sizeLine := by
      have := r2.length
      simp at this
      omega
    exact ⟨.ref s.heap.objs.size, upd H s.heap.objs.size (.lst ys), I.laid (t' := tk) kp (Nat.le_refl _) ⟨hy, acc.toList, c, r1, by simpa using e⟩, rfl, q ys r2 _ (I.hok.fresh (Nat.le_refl _))⟩
/-- the items of a sequence, the keys of a dict -/
def itemsOf (h : AH) (x : D) : Option (List D) := match objAt h x with
  | some (.dt kvs) => some (kvs.map (·.1))
  | _ => ssq h x
def gListR : FC := fun ds h => match ds with
  | [x] => match itemsOf h x with
    | some es => some (.ref h.length, h ++ [.lst es])
    | none => none
  | _ => none
/-- .. as a list that stays -/
def gListF : FC := fun ds h => match ds with
  | [x] => match itemsOf h x with
    | some es => some (.fro es, h)
    | none => none
  | _ => none
theorem cd_list_any (hc : X.calm = true) {x : D} {v : V} {u : Value} {es : List D} {Q : VK} (I : Inv X pins σ H s) (rh : RelH X.prog X.w X.K H μ h) (rx : RD X.K H μ x v) (rv : RelV v u) (e : itemsOf h x = some es)
    (q : ∀ ys, RDs X.K H μ es ys → ∀ p, H p = none → Q (.ref p) (upd H p (.lst ys))) : wpAny (model X.prog X.w) X.A (call (.type "list") [u]) (EP X pins σ Q) X.xe s := by
  unfold itemsOf at e
  split at e
  · rename_i kvs eo
    cases e
    obtain ⟨n, b, rfl, hm, rfl, ro⟩ := objAt_ok rh rx eo
    cases rv
    exact list_keys I hc rh ro q
  · obtain ⟨p, xs, rfl, hq2, rr⟩ := ssq_ok rh rx e
    exact call_list_of pins s σ H _ _ Q I (.cons rv .nil) ⟨p, xs, rfl, hq2, q xs rr⟩
theorem vals_one {v : V} {us : List Value} (r : Vals [v] us) : ∃ u, us = [u] ∧ RelV v u := by
  cases r with | cons r t => cases t; exact ⟨_, rfl, r⟩
theorem cd_listR (hc : X.calm = true) : CallD X (.type "list") gListR := fun pins s σ H vs us Q I rv ⟨ds, μ, h, rh, rds, q⟩ => by
  unfold gListR at q
  split at q
  · obtain ⟨v, rfl, rx⟩ := rds.one
    obtain ⟨u, rfl, r1⟩ := vals_one rv
    split at q
    · rename_i es e
      exact cd_list_any hc I rh rx r1 e fun ys ry => q.list rh ry
    · exact q.elim
  · exact q.elim
theorem cd_listF (hc : X.calm = true) : CallD X (.type "list") gListF := fun pins s σ H vs us Q I rv ⟨ds, μ, h, rh, rds, q⟩ => by
  unfold gListF at q
  split at q
  · obtain ⟨v, rfl, rx⟩ := rds.one
    obtain ⟨u, rfl, r1⟩ := vals_one rv
    split at q
    · rename_i es e
      exact cd_list_any hc I rh rx r1 e fun ys ry => q.fro rh ry
    · exact q.elim
  · exact q.elim
def gTuple : FC := fun ds h => match ds with
  | [x] => match ssq h x with
    | some es => some (.tup es, h)
    | none => none
  | _ => none
theorem cd_tuple : CallD X (.type "tuple") gTuple := .of call_tuple_of fun vs H Q ⟨ds, μ, h, rh, rds, q⟩ => by
  unfold gTuple at q
  split at q
  · rename_i x
    obtain ⟨v, rfl, rx⟩ := rds.one
    cases x with
    | tup es' =>
      cases rx with
      | tup t rr => exact ⟨_, _, rfl, .inr ⟨t.sq, q.now rfl rh (.tup t rr)⟩⟩
    | _ =>
      split at q
      · rename_i es e
        obtain ⟨p, xs, rfl, hq, rr⟩ := lsq_ok (d := _) rh rx e
        exact ⟨p, xs, rfl, .inl ⟨hq, q.tup rh rr⟩⟩
      · exact q.elim
  · exact q.elim

/-! ### all, any, sum, max, min -/
def asBls : List D → Option (List Bool)
  | [] => some []
  | .bl b :: ds => (asBls ds).map (b :: ·)
  | _ :: _ => none
theorem asBls_eq : ∀ {ds : List D} {bs : List Bool}, asBls ds = some bs → ds = bs.map .bl
  | [], bs, e => by cases e; rfl
  | .bl b :: ds, bs, e => by
    rw [asBls] at e
    obtain ⟨cs, h, rfl⟩ := Option.map_eq_some_iff.mp e
    rw [asBls_eq h]; rfl
  | .non :: _, _, e => by cases e
  | .int _ :: _, _, e => by cases e
  | .str _ :: _, _, e => by cases e
  | .tup _ :: _, _, e => by cases e
  | .fro _ :: _, _, e => by cases e
  | .scr _ :: _, _, e => by cases e
  | .ref _ :: _, _, e => by cases e
theorem asBls_map (bs : List Bool) : asBls (bs.map .bl) = some bs := by
  induction bs with
  | nil => rfl
  | cons b bs ih => show (asBls (bs.map .bl)).map (b :: ·) = _; rw [ih]; rfl
def asInts : List D → Option (List Int)
  | [] => some []
  | .int b :: ds => (asInts ds).map (b :: ·)
  | _ :: _ => none
theorem asInts_eq : ∀ {ds : List D} {bs : List Int}, asInts ds = some bs → ds = bs.map .int
  | [], bs, e => by cases e; rfl
  | .int b :: ds, bs, e => by
    rw [asInts] at e
    obtain ⟨cs, h, rfl⟩ := Option.map_eq_some_iff.mp e
    rw [asInts_eq h]; rfl
  | .non :: _, _, e => by cases e
  | .bl _ :: _, _, e => by cases e
  | .str _ :: _, _, e => by cases e
  | .tup _ :: _, _, e => by cases e
  | .fro _ :: _, _, e => by cases e
  | .scr _ :: _, _, e => by cases e
  | .ref _ :: _, _, e => by cases e
theorem asInts_map (bs : List Int) : asInts (bs.map .int) = some bs := by
  induction bs with
  | nil => rfl
  | cons b bs ih => show (asInts (bs.map .int)).map (b :: ·) = _; rw [ih]; rfl
def gBls (f : List Bool → Bool) : FC := fun ds h => match ds with
  | [x] => match lsq h x with
    | some es => match asBls es with
      | some bs => some (.bl (f bs), h)
      | none => none
    | none => none
  | _ => none
theorem cd_bls {id : String} {f : List Bool → Bool} (ho : CallR X (.builtin id) fun vs H Q => ∃ (a : Addr) (bs : List Bool), vs = [V.ref a] ∧ SqL X.K H a (bs.map V.bl) ∧ Q (.bl (f bs)) H) : CallD X (.builtin id) (gBls f) := .of ho fun vs H Q ⟨ds, μ, h, rh, rds, q⟩ => by
  unfold gBls at q
  split at q
  · obtain ⟨v, rfl, rx⟩ := rds.one
    split at q
    · rename_i es e
      split at q
      · rename_i bs eb
        obtain ⟨p, xs, rfl, hq, rr⟩ := lsq_ok rh rx e
        rw [asBls_eq eb] at rr
        rw [rr.bls] at hq
        exact ⟨p, bs, rfl, hq, q.now rfl rh (.bl _)⟩
      · exact q.elim
    · exact q.elim
  · exact q.elim
abbrev gAll : FC := gBls fun bs => bs.all id
abbrev gAny : FC := gBls fun bs => bs.any id
theorem cd_all (hc : X.calm = true) : CallD X (.builtin "all") gAll := cd_bls (cr_all hc)
theorem cd_any (hc : X.calm = true) : CallD X (.builtin "any") gAny := cd_bls (cr_any hc)
def gSum : FC := fun ds h => match ds with
  | [x] => match lsq h x with
    | some es => match asInts es with
      | some bs => some (.int bs.sum, h)
      | none => none
    | none => none
  | _ => none
theorem cd_sum (hc : X.calm = true) : CallD X (.builtin "sum") gSum := .of (cr_sum hc) fun vs H Q ⟨ds, μ, h, rh, rds, q⟩ => by
  unfold gSum at q
  split at q
  · obtain ⟨v, rfl, rx⟩ := rds.one
    split at q
    · rename_i es e
      split at q
      · rename_i bs eb
        obtain ⟨p, xs, rfl, hq, rr⟩ := lsq_ok rh rx e
        rw [asInts_eq eb] at rr
        rw [rr.ints] at hq
        exact ⟨p, bs, rfl, hq, q.now rfl rh (.int _)⟩
      · exact q.elim
    · exact q.elim
  · exact q.elim

/-! ### sorted -/
def pdG (d : D) : PyData := (pd d).getD .none
def alikeB (ps : List PyData) : Bool := ps.all fun p => ps.all fun q => PySem.W.alike p q
def isTup1 : PyData → Bool
  | .tuple (_ :: _) => true
  | _ => false
def isPlainKey : PyData → Bool
  | .none => false
  | .tuple _ => false
  | _ => true
def sortable (ds : List D) : Bool := ds.all (fun d => (pd d).isSome) && alikeB (ds.map pdG) && ((ds.map pdG).all isTup1 || (ds.map pdG).all isPlainKey) && decide (ds.length ≤ 16777216) && ds.all fun d => decide ((pdG d).depth ≤ 60)
def leD (a b : D) : Bool := !PySem.W.dataLt (pdG b) (pdG a)
def gSortF : FC := fun ds h => match ds with
  | [x] => match lsq h x with
    | some es => if sortable es = true then some (.fro (es.mergeSort leD), h) else none
    | none => none
  | _ => none
theorem each_of {K : PySem.W.Frag} : ∀ {ds : List D} {vs : List V} {us : List Value}, RDs K H μ ds vs → Vals vs us → PySem.W.EachIs (fun u (b : D × V) => RelV b.2 u ∧ RD K H μ b.1 b.2) us (ds.zip vs)
  | [], _, _, h, r => by cases h; cases r; exact .nil
  | d :: ds, _, _, h, r => by
    cases h with
    | cons h1 h2 =>
      cases r with
      | cons r1 r2 => exact .cons ⟨r1, h1⟩ (each_of h2 r2)
theorem of_each {K : PySem.W.Frag} : ∀ {us : List Value} {bs : List (D × V)}, PySem.W.EachIs (fun u (b : D × V) => RelV b.2 u ∧ RD K H μ b.1 b.2) us bs → RDs K H μ (bs.map (·.1)) (bs.map (·.2)) ∧ Vals (bs.map (·.2)) us
  | _, _, .nil => ⟨.nil, .nil⟩
  | _, _, .cons h t => let ⟨a, b⟩ := of_each t; ⟨.cons h.2 a, .cons h.1 b⟩
theorem each_mem {α β : Type} {R R' : α → β → Prop} : ∀ {as : List α} {bs : List β}, PySem.W.EachIs R as bs → (∀ a b, b ∈ bs → R a b → R' a b) → PySem.W.EachIs R' as bs
  | _, _, .nil, _ => .nil
  | _, _, .cons h t, f => .cons (f _ _ List.mem_cons_self h) (each_mem t fun a b m => f a b (List.mem_cons_of_mem _ m))
theorem cd_sortF (hu : X.A.units + 64 < cLine) : CallD X (.builtin "sorted") gSortF := fun pins s σ H vs us Q I rv ⟨ds, μ, h, rh, rds, q⟩ => by
  unfold gSortF at q
  split at q
  · obtain ⟨v, rfl, rx⟩ := rds.one
    obtain ⟨u, rfl, r1⟩ := vals_one rv
    split at q
    · rename_i es e
      split at q
      · rename_i hs
        simp only [sortable, Bool.and_eq_true, List.all_eq_true, decide_eq_true_eq, Bool.or_eq_true] at hs
        obtain ⟨⟨⟨⟨s1, s2⟩, s3⟩, s4⟩, s5⟩ := hs
        obtain ⟨p, xs, rfl, hq, rr⟩ := lsq_ok rh rx e
        cases r1
        obtain ⟨its, rvs, pl, hz⟩ := I.list hq
        have hl := rr.length
        have hmap : (es.zip xs).map (fun b => pdG b.1) = es.map pdG := by
          rw [show (fun b : D × V => pdG b.1) = pdG ∘ Prod.fst from rfl, ← List.map_map, List.map_fst_zip (by omega)]
        have hsz : (es.zip xs).length = es.length := by rw [List.length_zip]; omega
        have hE := each_of rr rvs
        refine PySem.W.sorted_data (enc := fun b : D × V => pdG b.1) pl.isList hE (each_mem hE fun u b hb rb => ?_) ?_ ?_ (by rw [hsz, sizeLine_eq]; exact s4) (fun b hb => ?_) fun out ho hr => ?_
        · have hm : b.1 ∈ es := (List.of_mem_zip hb).1
          obtain ⟨p', hp'⟩ := Option.isSome_iff_exists.mp (s1 _ hm)
          have := (RD.reads I _ _ _ p' rb.2 rb.1 hp').1
          rw [show pdG b.1 = p' by rw [pdG, hp']; rfl]
          exact this
        · rw [hmap]
          intro d hd d' hd'
          rw [alikeB, List.all_eq_true] at s2
          exact List.all_eq_true.mp (s2 d hd) d' hd'
        · rw [hmap]
          rcases s3 with s3 | s3
          · refine .inl fun d hd => ?_
            have := s3 d hd
            unfold isTup1 at this
            split at this
            · exact ⟨_, _, rfl⟩
            · cases this
          · refine .inr fun d hd => ?_
            have := s3 d hd
            unfold isPlainKey at this
            split at this
            · cases this
            · cases this
            · rename_i h1 h2
              exact ⟨fun e => h1 e, fun xs e => h2 xs e⟩
        · have := s5 b.1 (List.of_mem_zip hb).1
          have h2 : (pdG b.1).depth ≤ 60 := this
          show X.A.units + 2 + (pdG b.1).depth < cLine
          omega
        · obtain ⟨ra, rb⟩ := of_each hr
          have hms : ((es.zip xs).mergeSort (PySem.W.dataLe false fun b : D × V => pdG b.1)).map (·.1) = es.mergeSort leD := by
            have h1 : ((es.zip xs).mergeSort (PySem.W.dataLe false fun b : D × V => pdG b.1)).map Prod.fst = ((es.zip xs).map Prod.fst).mergeSort leD :=
              List.map_mergeSort fun a _ b _ => rfl
            rw [List.map_fst_zip (by omega)] at h1
            exact h1
          rw [hms] at ra
          obtain ⟨ep, he'⟩ := PyProof.Rows.sortedAll_at s.heap its out.toArray
          have hlen : (((es.zip xs).mergeSort (PySem.W.dataLe false fun b : D × V => pdG b.1)).map (·.2)).length ≤ sizeLine := by
            rw [List.length_map, List.length_mergeSort, hsz, sizeLine_eq]; exact s4
          exact ⟨.ref _, upd H (s.heap.objs.size + 1) (.lst _), I.laid (t' := s.toks) (fun _ _ => PyProof.Rows.sortedAll_old) (Nat.le_succ _) ⟨hlen, out, ep, rb, he'⟩, rfl, q.fro rh ra _ (I.hok.fresh (Nat.le_succ _))⟩
      · exact q.elim
    · exact q.elim
  · exact q.elim
end
end Q

/-! Q7: isinstance, methods, calls of the program's own defs. -/
namespace Q
open PySem PySem.Spec PyProof.Rows L2
section
variable {X : Cx} {W : WX} {H : Hp} {μ : Mu} {h : AH}

/-! ### isinstance -/
def tyD (h : AH) : D → Option String
  | .non => some "NoneType"
  | .bl _ => some "bool"
  | .int _ => some "int"
  | .str _ => some "str"
  | .tup _ => some "tuple"
  | .fro _ => some "list"
  | .scr _ => some "list"
  | .ref n => match h[n]? with
    | some (.lst _) => some "list"
    | some (.dk _) => some "dict"
    | _ => none
theorem tyD_ok {P : Program} {w : World} {K : PySem.W.Frag} {d : D} {v : V} {t : String} (rh : RelH P w K H μ h) (r : RD K H μ d v) (e : tyD h d = some t) : TyX K H v (.type t) := by
  cases r with
  | non => cases e; exact .base .non
  | bl b => cases e; exact .base (.bl b)
  | int i => cases e; exact .base (.int i)
  | str s => cases e; exact .base (.str s)
  | tup ta _ =>
    cases e
    rcases ta with ⟨ta | ⟨o, ta⟩, _⟩ | ⟨o, its, n, h1, h2, _⟩
    · exact .base (.tup ta)
    · exact .fTuple ta
    · exact .kTuple h1 h2
  | fro ta _ _ => cases e; exact .base (.lst ta)
  | scr ta _ =>
    cases e
    rcases ta with ⟨ta | ⟨o, ta⟩, _⟩ | ⟨o, its, n, h1, h2, _⟩
    · exact .base (.lst ta)
    · exact .base (.frz ta)
    · exact .kList h1 h2
  | ref hm =>
    simp only [tyD] at e
    split at e
    · rename_i ds eh
      cases e
      cases rh.obj _ _ _ eh hm with
      | lst ha _ => exact .base (.lst ha)
    · rename_i ds eh
      cases e
      cases rh.obj _ _ _ eh hm with
      | dk ha _ => exact .base (.dK ha)
    · cases e
def eIsi (T : String) (a : M) : M := fun σ h => (a σ h).bind fun x h1 => match tyD h1 x with
  | some t => match kitB t T with
    | some b => .ok (.bl b) h1
    | none => .stuck
  | none => .stuck
theorem q_isi {T : String} {a : M} {ea : Expr} {T' : Str} {p p2 pos : Pos} (hg : Gl X "isinstance") (hm : X.mg "isinstance" = none) (ha : QE X W a ea) (hgT : Gl X T') (hmT : X.mg T' = none) (hvT : bootBuiltins T' = some (.type T)) (hnT : T' ≠ "__name__" := by decide) (hdT : (T' == ("__debug__" : Str)) = false := by decide)
    (he : starEach [ea, .Name T' p2] X.env = (false, eval ea X.env) :: starEach [.Name T' p2] X.env := by rfl) (hpl : (backTo pos (starEach [Expr.Name T' p2] X.env)).any (·.1) = false := by rfl) : QE X W (eIsi T a) (.Call (.Name "isinstance" p) [ea, .Name T' p2] [] pos) :=
  QE.of (pe_callB call_isi hg hm (by decide +kernel) (pa_cons ha (pa_cons (pe_bltn (v := .ty T) hgT hmT hvT rfl hnT hdT) pa_nil) he) (by decide) (by decide) he hpl) fun τ H Q ⟨σ, h, μ, rs, rh, q⟩ =>
    go rs rh q fun d h1 v H1 μ1 s1 rs1 rh1 rd q1 => by
      split at q1
      · rename_i t et
        split at q1
        · rename_i b eb
          exact ⟨v, .ty T, _, _, b, rfl, .ty T, tyD_ok rh1 rd et, kit_ty eb, q1.now rh1 (.bl b)⟩
        · exact q1.elim
      · exact q1.elim

/-! ### methods -/
abbrev FM := D → List D → AH → Opt
def rMeth (X : Cx) (g : FM) : V → List V → Hp → VK → Prop := fun v vs H Q => ∃ (x : D) (ds : List D) (μ : Mu) (h : AH), RelH X.prog X.w X.K H μ h ∧ RD X.K H μ x v ∧ RDs X.K H μ ds vs ∧ PO2 X H μ Q (g x ds h)
def MethD (X : Cx) (id : String) (g : FM) : Prop := MtM X id (rMeth X g)
theorem MethD.of {id : String} {r : V → List V → Hp → VK → Prop} {g : FM} (ho : MtM X id r) (hi : ∀ v vs H Q, rMeth X g v vs H Q → r v vs H Q) : MethD X id g := fun pins s σ H x xs v us Q I r rs q => ho pins s σ H x xs v us Q I r rs (hi x xs H Q q)
def isT (T : String) (h : AH) : D → Bool
  | .str _ => T == "str"
  | x => T == "list" && (lsq h x).isSome
theorem isT_ok {P : Program} {w : World} {K : PySem.W.Frag} {T : String} {x : D} {v : V} (rh : RelH P w K H μ h) (r : RD K H μ x v) (e : isT T h x = true) : tyV K T v H := by
  unfold isT at e
  split at e
  · cases r; exact eq_of_beq e
  · rw [Bool.and_eq_true] at e
    obtain ⟨e1, e2⟩ := e
    obtain ⟨ds, hd⟩ := Option.isSome_iff_exists.mp e2
    obtain ⟨p, xs, rfl, hs, _⟩ := lsq_ok rh r hd
    exact .inl ⟨eq_of_beq e1, xs, hs⟩
def eMeth (T : String) (g : FM) (a : M) (r : ML) : M := fun σ h => (a σ h).bind fun x h1 => if isT T h1 x = true then (r σ h1).bind fun ds h2 => lif (g x ds h2) else .stuck
theorem q_meth {T id : String} {name : Str} {g : FM} {a : M} {r : ML} {o e : Expr} {es : List Expr} {apos cpos : Pos} (pa : PlainAttrs T) (slot : Slot T name id) (hty : typeOf (.builtin id) = pure (.type "method_descriptor")) (hm : MethD X id g) (ho : QE X W a o) (ha : QA X W r (e :: es))
    (hbase : attributeBase o name X.env (eval o X.env) = eval o X.env := by rfl)
    (hfew : ((backTo cpos (starEach (e :: es) X.env)).all (fun x => !x.1) && (backToKw cpos (keywordEach [] X.env)).all (fun x => x.1.isSome)
      && decide ((e :: es).length + ([] : List Keyword).length + (if ([] : List Keyword).isEmpty then 0 else 1) < 30)) = true := by rfl)
    (hline : (apos.endLine == cpos.line) = true := by rfl) (hs : starEach (e :: es) X.env = (false, eval e X.env) :: starEach es X.env := by rfl) (hplain : (backTo cpos (starEach es X.env)).any (·.1) = false := by rfl) :
    QE X W (eMeth T g a r) (.Call (.Attribute o name apos) (e :: es) [] cpos) :=
  QE.of (pe_bm pa slot hty hm ho ha hbase hfew hline hs hplain) fun τ H Q ⟨σ, h, μ, rs, rh, q⟩ => go rs rh q fun x h1 v H1 μ1 s1 rs1 rh1 rx q1 => by
    split at q1
    · rename_i ht
      exact ⟨isT_ok rh1 rx ht, go rs1 rh1 q1 fun ds h2 vs H2 μ2 s2 rs2 rh2 rds q2 => ⟨x, ds, μ2, h2, rh2, rx.stp s2, rds, .of q2⟩⟩
    · exact q1.elim
theorem q_meth0 {T id : String} {name : Str} {g : FM} {a : M} {o : Expr} {apos cpos : Pos} (pa : PlainAttrs T) (slot : Slot T name id) (hty : typeOf (.builtin id) = pure (.type "method_descriptor")) (hm : MethD X id g) (ho : QE X W a o)
    (hbase : attributeBase o name X.env (eval o X.env) = eval o X.env := by rfl) (hline : (apos.endLine == cpos.line) = true := by rfl) : QE X W (eMeth T g a aNil) (.Call (.Attribute o name apos) [] [] cpos) :=
  QE.of (pe_bm0 pa slot hty hm ho hbase hline) fun τ H Q ⟨σ, h, μ, rs, rh, q⟩ => go rs rh q fun x h1 v H1 μ1 s1 rs1 rh1 rx q1 => by
    split at q1
    · rename_i ht
      exact ⟨isT_ok rh1 rx ht, x, [], μ1, h1, rh1, rx, .nil, .of q1⟩
    · exact q1.elim
def listAt (h : AH) (n : Nat) : Option (List D) := match h[n]? with
  | some (.lst ds) => some ds
  | _ => none
theorem listAt_some {n : Nat} {ds : List D} (e : listAt h n = some ds) : h[n]? = some (.lst ds) := by
  unfold listAt at e
  split at e
  · cases e; assumption
  · cases e
theorem PO2.wrote {X : Cx} {H : Hp} {μ : Mu} {h : AH} {Q : VK} {n : Nat} {a : Addr} {ds : List D} {xs : List V} {z : D} {v : V} (q : PO2 X H μ Q (some (z, h.set n (.lst ds)))) (rh : RelH X.prog X.w X.K H μ h) (hm : μ.l[n]? = some a) (r : RDs X.K H μ ds xs) (rz : RD X.K H μ z v) : Q v (upd H a (.lst xs)) := by
  obtain ⟨z', h', e, q⟩ := q
  cases e
  have st := Stp.wrote (u := .lst xs) rh hm
  exact q _ _ μ st (rh.wrote hm (.lst upd_same (r.stp st))) (rz.stp st)
def mAppend : FM := fun x ds h => match x, ds with
  | .ref n, [d] => match listAt h n with
    | some es => if es.length < 16777216 then some (.non, h.set n (.lst (es ++ [d]))) else none
    | none => none
  | _, _ => none
theorem md_append : MethD X "list.append" mAppend := .of mt_append fun v vs H Q ⟨x, ds, μ, h, rh, rx, rds, q⟩ => by
  unfold mAppend at q
  split at q
  · obtain ⟨u, rfl, ru⟩ := rds.one
    split at q
    · rename_i es eh
      split at q
      · rename_i hl
        cases rx with
        | ref hm =>
          cases rh.obj _ _ _ (listAt_some eh) hm with
          | lst ha rr => exact ⟨_, _, u, rfl, rfl, ha, by rw [sizeLine_eq, rr.length]; exact hl, q.wrote rh hm (rr.append (.cons ru .nil)) .non⟩
      · exact q.elim
    · exact q.elim
  · exact q.elim
def mPop : FM := fun x ds h => match x, ds with
  | .ref n, [] => match listAt h n with
    | some es => match es[es.length - 1]? with
      | some d => some (d, h.set n (.lst es.dropLast))
      | none => none
    | none => none
  | _, _ => none
theorem md_pop : MethD X "list.pop" mPop := .of mt_pop fun v vs H Q ⟨x, ds, μ, h, rh, rx, rds, q⟩ => by
  unfold mPop at q
  split at q
  · cases rds
    split at q
    · rename_i es eh
      split at q
      · rename_i d hd
        cases rx with
        | ref hm =>
          cases rh.obj _ _ _ (listAt_some eh) hm with
          | lst ha rr =>
            obtain ⟨y, e1, r1⟩ := rr.get hd
            rw [← rr.length] at e1
            exact ⟨_, _, y, rfl, rfl, ha, e1, q.wrote rh hm rr.dropLast r1⟩
      · exact q.elim
    · exact q.elim
  · exact q.elim
def mExtend : FM := fun x ds h => match x, ds with
  | .ref n, [y] => match listAt h n, lchg h y with
    | some es, some fs => if es.length + fs.length ≤ 16777216 then some (.non, h.set n (.lst (es ++ fs))) else none
    | _, _ => none
  | _, _ => none
theorem md_extend : MethD X "list.extend" mExtend := .of mt_extend fun v vs H Q ⟨x, ds, μ, h, rh, rx, rds, q⟩ => by
  unfold mExtend at q
  split at q
  · obtain ⟨u, rfl, ru⟩ := rds.one
    split at q
    · rename_i es fs eh ef
      split at q
      · rename_i hl
        cases rx with
        | ref hm =>
          obtain ⟨b, zs, rfl, hb, rz⟩ := lchg_ok rh ru ef
          cases rh.obj _ _ _ (listAt_some eh) hm with
          | lst ha rr => exact ⟨_, b, _, zs, rfl, rfl, ha, hb, by rw [sizeLine_eq, rr.length, rz.length]; exact hl, q.wrote rh hm (rr.append rz) .non⟩
      · exact q.elim
    · exact q.elim
  · exact q.elim
def mSplit : FM := fun x ds h => match x, ds with
  | .str a, [.str b] => if (b.length == 0) = false ∧ a.length + 2 ≤ 16777216 then some (.fro ((Txt.split a b).map .str), h) else none
  | _, _ => none
theorem md_split : MethD X "str.split" mSplit := .of mt_split fun v vs H Q ⟨x, ds, μ, h, rh, rx, rds, q⟩ => by
  unfold mSplit at q
  split at q
  · split at q
    · rename_i hl
      obtain ⟨u, rfl, ru⟩ := rds.one
      cases rx; cases ru
      exact ⟨_, _, rfl, rfl, hl.1, by rw [sizeLine_eq]; exact hl.2, q.fro rh (RDs.of_strs _)⟩
    · exact q.elim
  · exact q.elim

/-! ### calls of the program's own defs -/
def PostF (P : Program) (w : World) (K : PySem.W.Frag) (mg : Str → Option Value) (H : Hp) (μ : Mu) (Q : VK) (E : XK) : Res D → Prop
  | .stuck => False
  | .ok d h' => ∀ (v : V) (H' : Hp) (μ' : Mu), Stp μ μ' H H' → RelH P w K H' μ' h' → RD K H' μ' d v → Q v H'
  | .ex e h' => ∀ (cls : Value) (dd : Option Addr) (H' : Hp) (μ' : Mu), Stp μ μ' H H' → RelH P w K H' μ' h' → RX mg K H' μ' e cls dd → E cls dd H'
/-- the promise of a def by its mirror -/
def spOf (P : Program) (w : World) (K : PySem.W.Frag) (mg : Str → Option Value) (f : List D → AH → Res D) : Sp := fun vs H Q E => ∃ (ds : List D) (μ : Mu) (h : AH), RelH P w K H μ h ∧ RDs K H μ ds vs ∧ PostF P w K mg H μ Q E (f ds h)
/-- the def that the module's name x holds keeps the promise; the last parameters by their defaults -/
def Cal (X : Cx) (W : WX) (x : Str) (dfl : List D) (f : List D → AH → Res D) : Prop :=
  ∃ (k : Nat) (fa : Addr) (fd : FuncData) (ps : List Str) (dvs : List V) (us : List Value) (CX : CXT), FnOk X.prog X.w X.K X.mg X.base CX k fa fd ps (spOf X.prog X.w X.K X.mg f) ∧ Room k X.A ∧ X.mg x = some (.ref fa) ∧ PySem.W.keepIn X.K (.ref fa) = true ∧ Binds X.K fd ps us ∧ Vals dvs us ∧
    (∀ H μ, RDs X.K H μ dfl dvs) ∧ ∀ σ, PassesAt CX X σ (WE W σ)
def eFn (f : List D → AH → Res D) (dfl : List D) (r : ML) : M := fun σ h => (r σ h).bind fun ds h1 => f (ds ++ dfl) h1
theorem q_fn {f : List D → AH → Res D} {dfl : List D} {x : Str} {r : ML} {e : Expr} {es : List Expr} {p pos : Pos} (c : Cal X W x dfl f) (hg : Gl X x) (ha : QA X W r (e :: es)) (hdb : (x == ("__debug__" : Str)) = false := by decide)
    (he : starEach (e :: es) X.env = (false, eval e X.env) :: starEach es X.env := by rfl) (hpl : (backTo pos (starEach es X.env)).any (·.1) = false := by rfl) : QE X W (eFn f dfl r) (.Call (.Name x p) (e :: es) [] pos) := by
  obtain ⟨k, fa, fd, ps, dvs, us, CX, F, hr, hm, hk, hb, hd, hrd, hx⟩ := c
  refine ⟨fun pins s τ H Q I ⟨σ, h, μ, rs, rh, q⟩ => ?_⟩
  refine wpAny_Call_Name_kw (ld_glob I hg hm ?_ hdb)
  have h2 := ha.run pos pins s τ H (fun vs H1 => spOf X.prog X.w X.K X.mg f (vs ++ dvs) H1 Q (WE W τ)) I (go rs rh q fun ds h1 vs H1 μ1 s1 rs1 rh1 rds q1 => ⟨ds ++ dfl, μ1, h1, rh1, rds.append (hrd _ _), by
    show PostF _ _ _ _ _ _ _ _ (f (ds ++ dfl) h1)
    cases e : f (ds ++ dfl) h1 with
    | stuck => rw [e] at q1; exact q1
    | ok d h' => rw [e] at q1; exact q1
    | ex x h' => rw [e] at q1; exact q1⟩)
  refine PySem.W.callWith_K (h₀ := X.base) I.ok.mod.kin hk (thn h2 fun us' s1 ⟨vs, H1, I1, r1, q1⟩ => ⟨I1.kIn, ?_⟩) he hpl
  have r2 : Vals (vs ++ dvs) (us' ++ us) := r1.append hd
  have hl : (us' ++ us).length = ps.length := by rw [← r2.length]; exact F.len _ _ _ _ q1
  refine wpAny_call (codeAny_mono (F.run X.A X.stack s1 H1 ⟨us', []⟩ (us' ++ us) (vs ++ dvs) Q (WE W τ) hr I1.env0 (hb s1 us' I1.kIn hl) r2 q1) fun r s' hq => ?_)
  cases r with
  | error e => exact hx τ pins H1 s1 e s' I1 hq
  | ok fl =>
    cases fl with
    | ret u => exact I1.after hq
    | next => exact False.elim hq
    | brk => exact False.elim hq
    | cont => exact False.elim hq
end
end Q

/-! Q8: what is walked; targets; statements; loops; comprehensions. -/
namespace Q
open PySem PySem.Spec PyProof.Rows L2

/-! ### what is walked -/
abbrev MI := AS → AH → Res (List D × (AH → Prop))
section
variable {X : Cx} {W : WX} {tg : Expr}
/-- the walk J gives the items ds while G holds, from the state H0, μ0 on -/
structure WalkD (X : Cx) (H0 : Hp) (μ0 : Mu) (p : List D × (AH → Prop)) (J : It) : Prop where
  goes : ∀ (i : Nat) (H : Hp) (μ : Mu) (h : AH), i < p.1.length → Stp0 μ0 μ H0 H → RelH X.prog X.w X.K H μ h → p.2 h → J.go i H
  stops : ∀ (H : Hp) (μ : Mu) (h : AH), Stp0 μ0 μ H0 H → RelH X.prog X.w X.K H μ h → p.2 h → J.stop p.1.length H
  yields : ∀ (i : Nat) (H : Hp) (μ : Mu) (h : AH) (x : V) (H' : Hp), i < p.1.length → Stp0 μ0 μ H0 H → RelH X.prog X.w X.K H μ h → p.2 h → J.yld i H x H' → ∃ d, p.1[i]? = some d ∧ Stp μ μ H H' ∧ RelH X.prog X.w X.K H' μ h ∧ RD X.K H' μ d x
abbrev tI (X : Cx) (W : WX) (m : MI) : TI := tG X W (WalkD X) m
def QI (X : Cx) (W : WX) (tg : Expr) (m : MI) (e : Expr) : Prop := PI X tg e (tI X W m)
/-- a sequence of any sort, or a text -/
def iSeq (m : M) : MI := fun σ h => (m σ h).bind fun x h1 => match x with
  | .str a => .ok (a.cps.toList.map fun c => .str ⟨#[c]⟩, fun _ => True) h1
  | .tup ds => .ok (ds, fun _ => True) h1
  | .fro ds => .ok (ds, fun _ => True) h1
  | .scr ds => .ok (ds, fun _ => True) h1
  | .ref n => match listAt h1 n with
    | some ds => .ok (ds, fun h => listAt h n = some ds) h1
    | none => .stuck
  | _ => .stuck
theorem walk_lst {H0 : Hp} {μ0 : Mu} {a : Addr} {ds : List D} {G : AH → Prop} (hs : ∀ (H : Hp) (μ : Mu) (h : AH), Stp0 μ0 μ H0 H → RelH X.prog X.w X.K H μ h → G h → ∃ xs, SqL X.K H a xs ∧ RDs X.K H μ ds xs) : WalkD X H0 μ0 (ds, G) (Itl X.K a) where
  goes := fun i H μ h hi s rh g => by
    obtain ⟨xs, q, r⟩ := hs H μ h s rh g
    obtain ⟨v, e, _⟩ := r.get (List.getElem?_eq_getElem hi)
    exact ⟨xs, v, q, e⟩
  stops := fun H μ h s rh g => by
    obtain ⟨xs, q, r⟩ := hs H μ h s rh g
    exact ⟨xs, q, Nat.le_of_eq r.length⟩
  yields := fun i H μ h x H' hi s rh g y => by
    obtain ⟨xs, q, r⟩ := hs H μ h s rh g
    obtain ⟨rfl, y⟩ := y
    obtain ⟨d, e, rd⟩ := r.get' (y xs q)
    exact ⟨d, e, Stp.refl, rh, rd⟩
theorem walk_tp {H0 : Hp} {μ0 : Mu} {a : Addr} {ds : List D} {G : AH → Prop} (hs : ∀ (H : Hp) (μ : Mu) (h : AH), Stp0 μ0 μ H0 H → RelH X.prog X.w X.K H μ h → G h → ∃ xs, SqT X.K H a xs ∧ RDs X.K H μ ds xs) : WalkD X H0 μ0 (ds, G) (Itt X.K a) where
  goes := fun i H μ h hi s rh g => by
    obtain ⟨xs, q, r⟩ := hs H μ h s rh g
    obtain ⟨v, e, _⟩ := r.get (List.getElem?_eq_getElem hi)
    exact ⟨xs, v, q, e⟩
  stops := fun H μ h s rh g => by
    obtain ⟨xs, q, r⟩ := hs H μ h s rh g
    exact ⟨xs, q, Nat.le_of_eq r.length⟩
  yields := fun i H μ h x H' hi s rh g y => by
    obtain ⟨xs, q, r⟩ := hs H μ h s rh g
    obtain ⟨rfl, y⟩ := y
    obtain ⟨d, e, rd⟩ := r.get' (y xs q)
    exact ⟨d, e, Stp.refl, rh, rd⟩
theorem walk_txt {H0 : Hp} {μ0 : Mu} {a : Str} : WalkD X H0 μ0 (a.cps.toList.map fun c => .str ⟨#[c]⟩, fun _ => True) (Its a) where
  goes := fun i H μ h hi _ _ _ => by
    show i < a.cps.size
    simpa using hi
  stops := fun H μ h _ _ _ => by
    show a.cps.size ≤ _
    simp
  yields := fun i H μ h x H' hi s rh g y => by
    obtain ⟨rfl, c, e, rfl⟩ := y
    exact ⟨.str ⟨#[c]⟩, by simp [e], Stp.refl, rh, .str _⟩
section
variable {pins : List (Addr × Obj)} {σ : L2.St} {H : Hp} {s : Shared} {R : It → Hp → Prop} {E : Value → Shared → Prop}
theorem iter_l {a : Addr} {xs : List V} (I : Inv X pins σ H s) (hq : SqL X.K H a xs) (q : R (Itl X.K a) H) : wpAny (model X.prog X.w) X.A (pyIter (.ref a)) (PIE X pins σ tg R) E s := by
  obtain ⟨its, rv, p, hz⟩ := I.list hq
  refine wpAny_pyIter_list p.isList ?_
  refine ⟨s.heap.objs.size, [s.heap.objs.size], _, _, H, rfl, I.kept (t' := s.toks) fun b o e => Heap.get?_push_of_some _ e, turn_list a _, ⟨_, Heap.get?_push_size _ rfl, rfl, rfl⟩, fun b hb => ?_, q⟩
  have e : b = s.heap.objs.size := by simpa using hb
  subst e
  exact I.fpOk (Nat.le_refl _) (I.hok.fresh (Nat.le_refl _))
theorem iter_t {a : Addr} {xs : List V} (I : Inv X pins σ H s) (hq : SqT X.K H a xs) (q : R (Itt X.K a) H) : wpAny (model X.prog X.w) X.A (pyIter (.ref a)) (PIE X pins σ tg R) E s := by
  obtain ⟨its, rv, p, hz⟩ := I.tuple hq
  refine wpAny_pyIter_tuple (show s.heap.IsTuple a its.toArray from p) ?_
  refine ⟨s.heap.objs.size, [s.heap.objs.size], _, _, H, rfl, I.kept (t' := s.toks) fun b o e => Heap.get?_push_of_some _ e, turn_tuple a _, ⟨_, Heap.get?_push_size _ rfl, rfl, rfl⟩, fun b hb => ?_, q⟩
  have e : b = s.heap.objs.size := by simpa using hb
  subst e
  exact I.fpOk (Nat.le_refl _) (I.hok.fresh (Nat.le_refl _))
theorem iter_s {a : Str} {t : Tok} (I : Inv X pins σ H s) (q : R (Its a) H) : wpAny (model X.prog X.w) X.A (pyIter (.str a t)) (PIE X pins σ tg R) E s := by
  cases ha : a.cps.all (· < 128)
  · exact wpAny_pyIter_wide ha (pi_one (tk := s.toks) I _ (turn_str _ a t "str_iterator" (.inr rfl)) ⟨_, Heap.get?_push_size _ rfl, rfl, rfl⟩ q)
  · exact wpAny_pyIter_ascii ha (pi_one (tk := s.toks) I _ (turn_str _ a t "str_ascii_iterator" (.inl rfl)) ⟨_, Heap.get?_push_size _ rfl, rfl, rfl⟩ q)
end
theorem qi_seq {m : M} {e : Expr} (hm : QE X W m e) : QI X W tg (iSeq m) e := by
  refine ⟨fun pins s τ H R I ⟨σ, h, μ, rs, rh, q⟩ => ?_⟩
  refine thn (hm.run pins s τ H (fun v H1 => ∃ d μ1 h1, Stp μ μ1 H H1 ∧ RelH X.prog X.w X.K H1 μ1 h1 ∧ RD X.K H1 μ1 d v ∧ Post X W τ H1 μ1 (WalkD X) R ((fun x h1 => match x with
    | .str a => .ok (a.cps.toList.map fun c => .str ⟨#[c]⟩, fun _ => True) h1
    | .tup ds => .ok (ds, fun _ => True) h1
    | .fro ds => .ok (ds, fun _ => True) h1
    | .scr ds => .ok (ds, fun _ => True) h1
    | .ref n => match listAt h1 n with
      | some ds => .ok (ds, fun h => listAt h n = some ds) h1
      | none => .stuck
    | _ => .stuck : D → AH → Res (List D × (AH → Prop))) d h1)) I (go rs rh q fun d h1 v H1 μ1 s1 rs1 rh1 rd q1 => ⟨d, μ1, h1, s1, rh1, rd, q1⟩)) fun u s1 ⟨v, H1, I1, rv, d, μ1, h1, s01, rh1, rd, q1⟩ => ?_
  cases rd with
  | str a =>
    obtain ⟨t, rfl⟩ := rv
    exact iter_s I1 (q1.now rh1 walk_txt)
  | tup ta rr =>
    cases rv
    exact iter_t I1 ta.sq (q1.now rh1 (walk_tp fun H μ h st _ _ => ⟨_, (ta.stp0 st).sq, rr.stp0 st⟩))
  | fro ta nm rr =>
    cases rv
    exact iter_l I1 (SqL.of ta) (q1.now rh1 (walk_lst fun H μ h st _ _ => ⟨_, SqL.of (st.keep _ _ ta nm), rr.stp0 st⟩))
  | scr ta rr =>
    cases rv
    exact iter_l I1 ta.sq (q1.now rh1 (walk_lst fun H μ h st _ _ => ⟨_, (ta.stp0 st).sq, rr.stp0 st⟩))
  | ref hm =>
    cases rv
    dsimp only at q1
    split at q1
    · rename_i ds eh
      cases rh1.obj _ _ _ (listAt_some eh) hm with
      | lst ha rr =>
        refine iter_l I1 (SqL.of ha) (q1.now rh1 (walk_lst fun H μ h st rh' g => ?_))
        cases rh'.obj _ _ _ (listAt_some g) (st.pre _ _ hm) with
        | lst ha' rr' => exact ⟨_, SqL.of ha', rr'⟩
    · exact q1.elim
  | _ => exact q1.elim
/-- range -/
def rangeD (lo : Int) (n : Nat) : List D := (List.range n).map fun i => .int (lo + (i : Nat))
theorem walk_rng {H0 : Hp} {μ0 : Mu} {lo : Int} {n : Nat} : WalkD X H0 μ0 (rangeD lo n, fun _ => True) (Itr lo n) where
  goes := fun i H μ h hi _ _ _ => by
    show i < n
    simpa [rangeD] using hi
  stops := fun H μ h _ _ _ => by
    show n ≤ _
    simp [rangeD]
  yields := fun i H μ h x H' hi s rh g y => by
    obtain ⟨rfl, rfl⟩ := y
    have hi' : i < n := by simpa [rangeD] using hi
    exact ⟨.int (lo + i), by simp [rangeD, hi'], Stp.refl, rh, .int _⟩
def iRange1 (m : M) : MI := fun σ h => (m σ h).bind fun x h1 => match x with
  | .int j => if -(2 ^ 62) ≤ j ∧ j < 2 ^ 62 then .ok (rangeD 0 j.toNat, fun _ => True) h1 else .stuck
  | _ => .stuck
theorem qi_range1 {m : M} {e : Expr} {p pos : Pos} (hg : Gl X "range") (hm : X.mg "range" = none) (he : QE X W m e) (hs : starEach [e] X.env = (false, eval e X.env) :: starEach [] X.env := by rfl) : QI X W tg (iRange1 m) (.Call (.Name "range" p) [e] [] pos) :=
  ⟨fun pins s τ H R I ⟨σ, h, μ, rs, rh, q⟩ => (pi_range1 hg hm (pa_cons he pa_nil hs) hs).run pins s τ H R I (go rs rh q fun d h1 v H1 μ1 s1 rs1 rh1 rd q1 => by
    split at q1
    · split at q1
      · rename_i hb
        cases rd
        exact ⟨_, rfl, hb.1, hb.2, q1.now rh1 walk_rng⟩
      · exact q1.elim
    · exact q1.elim)⟩
def iRange2 (m n : M) : MI := fun σ h => (m σ h).bind fun x h1 => (n σ h1).bind fun y h2 => match x, y with
  | .int i, .int j => if (-(2 ^ 62) ≤ i ∧ i < 2 ^ 62) ∧ -(2 ^ 62) ≤ j ∧ j < 2 ^ 62 then .ok (rangeD i (j - i).toNat, fun _ => True) h2 else .stuck
  | _, _ => .stuck
theorem qi_range2 {m n : M} {e e2 : Expr} {p pos : Pos} (hg : Gl X "range") (hm : X.mg "range" = none) (he : QE X W m e) (he2 : QE X W n e2) (hs : starEach [e, e2] X.env = (false, eval e X.env) :: starEach [e2] X.env := by rfl) (hs2 : starEach [e2] X.env = (false, eval e2 X.env) :: starEach [] X.env := by rfl)
    (hs3 : starEach [e, e2] X.env = [(false, eval e X.env), (false, eval e2 X.env)] := by rfl) (hs4 : starEach [e2] X.env = [(false, eval e2 X.env)] := by rfl) : QI X W tg (iRange2 m n) (.Call (.Name "range" p) [e, e2] [] pos) :=
  ⟨fun pins s τ H R I ⟨σ, h, μ, rs, rh, q⟩ => (pi_range2 hg hm (pa_cons he (pa_cons he2 pa_nil hs2) hs) hs3 hs4).run pins s τ H R I (go rs rh q fun d h1 v H1 μ1 s1 rs1 rh1 rd q1 => go rs1 rh1 q1 fun d2 h2 v2 H2 μ2 s2 rs2 rh2 rd2 q2 => by
    split at q2
    · split at q2
      · rename_i hb
        cases rd; cases rd2
        exact ⟨_, _, rfl, ⟨hb.1.1, hb.1.2, hb.2⟩, q2.now rh2 walk_rng⟩
      · exact q2.elim
    · exact q2.elim)⟩
/-- zip of two tuples, of two lists that stay -/
def zipD (as bs : List D) : List D := List.zipWith (fun a b => .tup [a, b]) as bs
def iZip (m n : M) : MI := fun σ h => (m σ h).bind fun x h1 => (n σ h1).bind fun y h2 => match x, y with
  | .tup as, .tup bs => .ok (zipD as bs, fun _ => True) h2
  | .fro as, .fro bs => .ok (zipD as bs, fun _ => True) h2
  | _, _ => .stuck
theorem zip_get {as bs : List D} {i : Nat} {a b : D} (ha : as[i]? = some a) (hb : bs[i]? = some b) : (zipD as bs)[i]? = some (.tup [a, b]) := by
  simp [zipD, List.getElem?_zipWith, ha, hb]
theorem walk_zipT {H0 : Hp} {μ0 : Mu} {a b : Addr} {as bs : List D} (ha : ∀ (H : Hp) (μ : Mu), Stp0 μ0 μ H0 H → ∃ xs, SqT X.K H a xs ∧ RDs X.K H μ as xs) (hb : ∀ (H : Hp) (μ : Mu), Stp0 μ0 μ H0 H → ∃ xs, SqT X.K H b xs ∧ RDs X.K H μ bs xs) : WalkD X H0 μ0 (zipD as bs, fun _ => True) (RZ.ItzT X.K a b) where
  goes := fun i H μ h hi s rh g => by
    obtain ⟨xs, q, r⟩ := ha H μ s
    obtain ⟨ys, q', r'⟩ := hb H μ s
    have hi : i < as.length ∧ i < bs.length := by simpa [zipD, Nat.lt_min] using hi
    obtain ⟨v, e, _⟩ := r.get (List.getElem?_eq_getElem hi.1)
    obtain ⟨v', e', _⟩ := r'.get (List.getElem?_eq_getElem hi.2)
    exact ⟨xs, ys, v, v', q, q', e, e'⟩
  stops := fun H μ h s rh g => by
    obtain ⟨xs, q, r⟩ := ha H μ s
    obtain ⟨ys, q', r'⟩ := hb H μ s
    refine ⟨xs, ys, q, q', ?_⟩
    have h1 := r.length
    have h2 := r'.length
    have h3 : (zipD as bs).length = min as.length bs.length := by simp [zipD]
    show xs.length ≤ (zipD as bs).length ∨ ys.length ≤ (zipD as bs).length
    omega
  yields := fun i H μ h x H' hi s rh g y => by
    obtain ⟨xs, q, r⟩ := ha H μ s
    obtain ⟨ys, q', r'⟩ := hb H μ s
    obtain ⟨T, u, v, rfl, hT, rfl, y1, y2⟩ := y
    obtain ⟨d, e, rd⟩ := r.get' (y1 xs q)
    obtain ⟨d', e', rd'⟩ := r'.get' (y2 ys q')
    exact ⟨_, zip_get e e', Stp.laid hT, rh.laid hT, RD.tup_laid rh hT (.cons rd (.cons rd' .nil))⟩
theorem walk_zipL {H0 : Hp} {μ0 : Mu} {a b : Addr} {as bs : List D} (ha : ∀ (H : Hp) (μ : Mu), Stp0 μ0 μ H0 H → ∃ xs, SqL X.K H a xs ∧ RDs X.K H μ as xs) (hb : ∀ (H : Hp) (μ : Mu), Stp0 μ0 μ H0 H → ∃ xs, SqL X.K H b xs ∧ RDs X.K H μ bs xs) : WalkD X H0 μ0 (zipD as bs, fun _ => True) (Itz X.K a b) where
  goes := fun i H μ h hi s rh g => by
    obtain ⟨xs, q, r⟩ := ha H μ s
    obtain ⟨ys, q', r'⟩ := hb H μ s
    have hi : i < as.length ∧ i < bs.length := by simpa [zipD, Nat.lt_min] using hi
    obtain ⟨v, e, _⟩ := r.get (List.getElem?_eq_getElem hi.1)
    obtain ⟨v', e', _⟩ := r'.get (List.getElem?_eq_getElem hi.2)
    exact ⟨xs, ys, v, v', q, q', e, e'⟩
  stops := fun H μ h s rh g => by
    obtain ⟨xs, q, r⟩ := ha H μ s
    obtain ⟨ys, q', r'⟩ := hb H μ s
    refine ⟨xs, ys, q, q', ?_⟩
    have h1 := r.length
    have h2 := r'.length
    have h3 : (zipD as bs).length = min as.length bs.length := by simp [zipD]
    show xs.length ≤ (zipD as bs).length ∨ ys.length ≤ (zipD as bs).length
    omega
  yields := fun i H μ h x H' hi s rh g y => by
    obtain ⟨xs, q, r⟩ := ha H μ s
    obtain ⟨ys, q', r'⟩ := hb H μ s
    obtain ⟨T, u, v, rfl, hT, rfl, y1, y2⟩ := y
    obtain ⟨d, e, rd⟩ := r.get' (y1 xs q)
    obtain ⟨d', e', rd'⟩ := r'.get' (y2 ys q')
    exact ⟨_, zip_get e e', Stp.laid hT, rh.laid hT, RD.tup_laid rh hT (.cons rd (.cons rd' .nil))⟩
theorem qi_zip {m n : M} {e e2 : Expr} {p pos tpos : Pos} {elts : List Expr} {kk : Nat} (hg : Gl X "zip") (hm : X.mg "zip" = none) (he : QE X W m e) (he2 : QE X W n e2) (hs : starEach [e, e2] X.env = (false, eval e X.env) :: starEach [e2] X.env := by rfl) (hs2 : starEach [e2] X.env = (false, eval e2 X.env) :: starEach [] X.env := by rfl)
    (hpl : (backTo pos (starEach [e2] X.env)).any (·.1) = false := by rfl) : QI X W (.Tuple elts kk tpos) (iZip m n) (.Call (.Name "zip" p) [e, e2] [] pos) :=
  ⟨fun pins s τ H R I ⟨σ, h, μ, rs, rh, q⟩ => (RZ.pi_zipA hg hm (pa_cons he (pa_cons he2 pa_nil hs2) hs) hs hpl).run pins s τ H R I (go rs rh q fun d h1 v H1 μ1 s1 rs1 rh1 rd q1 => go rs1 rh1 q1 fun d2 h2 v2 H2 μ2 s2 rs2 rh2 rd2 q2 => by
    have rd := rd.stp s2
    split at q2
    · cases rd with
      | tup ta ra =>
        cases rd2 with
        | tup tb rb =>
          exact ⟨_, _, _, _, rfl, .inr ⟨ta.sq, tb.sq, q2.now rh2 (walk_zipT (fun H μ st => ⟨_, (ta.stp0 st).sq, ra.stp0 st⟩) fun H μ st => ⟨_, (tb.stp0 st).sq, rb.stp0 st⟩)⟩⟩
    · cases rd with
      | fro ta na ra =>
        cases rd2 with
        | fro tb nb rb =>
          exact ⟨_, _, _, _, rfl, .inl ⟨SqL.of ta, SqL.of tb, q2.now rh2 (walk_zipL (fun H μ st => ⟨_, SqL.of (st.keep _ _ ta na), ra.stp0 st⟩) fun H μ st => ⟨_, SqL.of (st.keep _ _ tb nb), rb.stp0 st⟩)⟩⟩
    · exact q2.elim)⟩
end

/-! ### targets -/
abbrev MG := D → AS → AH → Option (AS × AH)
section
variable {X : Cx} {W : WX} {pos : Pos}
/-- what follows a store: the slots besides `is` stay -/
def PostG (X : Cx) (is : List Nat) (τ : L2.St) (H : Hp) (μ : Mu) (Q : L2.St → Hp → Prop) (r : Option (AS × AH)) : Prop :=
  ∃ σ' h', r = some (σ', h') ∧ ∀ (τ' : L2.St) (H' : Hp) (μ' : Mu), Stp μ μ' H H' → RelS X.K H' μ' σ' τ' → RelH X.prog X.w X.K H' μ' h' → τ'.length = τ.length → (∀ j, j ∉ is → τ'[j]? = τ[j]?) → Q τ' H'
def tGt (X : Cx) (g : MG) (is : List Nat) : TG := fun v τ H Q => ∃ (d : D) (σ : AS) (h : AH) (μ : Mu), RelS X.K H μ σ τ ∧ RelH X.prog X.w X.K H μ h ∧ RD X.K H μ d v ∧ PostG X is τ H μ Q (g d σ h)
def QG (X : Cx) (g : MG) (is : List Nat) (target : Expr) : Prop := PG X target (tGt X g is)
def gSlot (i : Nat) : MG := fun d σ h => some (σ.set i (some d), h)
theorem PG.of {t t' : TG} {e : Expr} (h : PG X e t) (i : ∀ v τ H Q, t' v τ H Q → t v τ H Q) : PG X e t' := ⟨fun pins s σ H v u Q I r q => h.run pins s σ H v u Q I r (i _ _ _ _ q)⟩
theorem qg_name {i : Nat} {x : Str} (hN : X.N.Nodup) (hi : X.N[i]? = some x) (hx : Loc X.env.scope x) (hf : X.fn x = true ∨ X.env.scope.names.lookup x = some .local := by first | exact .inl rfl | exact .inr rfl | assumption) : QG X (gSlot i) [i] (.Name x pos) :=
  PG.of (pg_name hN hi hx hf) fun v τ H Q ⟨d, σ, h, μ, rs, rh, rd, σ', h', e, q⟩ => by
    cases e
    refine q _ H μ Stp.refl (rs.set rd i) rh (by simp) fun j hj => ?_
    have hne : i ≠ j := fun e => hj (by simp [e])
    exact List.getElem?_set_ne hne
/-- targets from the left -/
def gsNil : List D → AS → AH → Option (AS × AH) := fun ds σ h => match ds with
  | [] => some (σ, h)
  | _ => none
def gsCons (g : MG) (r : List D → AS → AH → Option (AS × AH)) : List D → AS → AH → Option (AS × AH) := fun ds σ h => match ds with
  | d :: ds => match g d σ h with
    | some (σ1, h1) => r ds σ1 h1
    | none => none
  | [] => none
def tGts (X : Cx) (g : List D → AS → AH → Option (AS × AH)) (is : List Nat) : TGs := fun vs τ H Q => ∃ (ds : List D) (σ : AS) (h : AH) (μ : Mu), RelS X.K H μ σ τ ∧ RelH X.prog X.w X.K H μ h ∧ RDs X.K H μ ds vs ∧ PostG X is τ H μ Q (g ds σ h)
def QGs (X : Cx) (g : List D → AS → AH → Option (AS × AH)) (is : List Nat) (es : List Expr) : Prop := PGs X es (tGts X g is)
theorem PGs.of {t t' : TGs} {es : List Expr} (h : PGs X es t) (i : ∀ v τ H Q, t' v τ H Q → t v τ H Q) : PGs X es t' := ⟨fun pins s σ H v u Q I r q => h.run pins s σ H v u Q I r (i _ _ _ _ q)⟩
theorem qgs_nil : QGs X gsNil [] [] := PGs.of pgs_nil fun v τ H Q ⟨ds, σ, h, μ, rs, rh, rd, σ', h', e, q⟩ => by
  cases ds with
  | nil =>
    cases rd; cases e
    exact ⟨rfl, q τ H μ Stp.refl rs rh rfl fun _ _ => rfl⟩
  | cons _ _ => cases e
theorem qgs_cons {g : MG} {r : List D → AS → AH → Option (AS × AH)} {is js : List Nat} {e : Expr} {es : List Expr} (h1 : QG X g is e) (h2 : QGs X r js es)
    (hs : (assignEach (e :: es) X.env).map (·.2) = assign e X.env :: (assignEach es X.env).map (·.2) := by rfl) : QGs X (gsCons g r) (is ++ js) (e :: es) :=
  PGs.of (pgs_cons h1 h2 hs) fun v τ H Q ⟨ds, σ, h, μ, rs, rh, rd, σ', h', e, q⟩ => by
    cases ds with
    | nil => cases e
    | cons d ds =>
      cases rd with
      | cons rd rds =>
        refine ⟨_, _, rfl, d, σ, h, μ, rs, rh, rd, ?_⟩
        simp only [gsCons] at e
        split at e
        · rename_i σ1 h1 eg
          refine ⟨σ1, h1, eg, fun τ1 H1 μ1 st1 rs1 rh1 l1 f1 => ⟨ds, σ1, h1, μ1, rs1, rh1, rds.stp st1, σ', h', e, fun τ2 H2 μ2 st2 rs2 rh2 l2 f2 => q τ2 H2 μ2 (st1.trans st2) rs2 rh2 (l2.trans l1) fun j hj => ?_⟩⟩
          rw [List.mem_append, not_or] at hj
          exact (f2 j hj.2).trans (f1 j hj.1)
        · cases e
def gTupD (n : Nat) (g : List D → AS → AH → Option (AS × AH)) : MG := fun d σ h => match d with
  | .tup ds => if ds.length = n then g ds σ h else none
  | _ => none
theorem qg_tup {es : List Expr} {k : Nat} {g : List D → AS → AH → Option (AS × AH)} {is : List Nat} {n : Nat} (hc : X.calm = true) (hg : QGs X g is es)
    (hn : (assignEach es X.env).length = n := by rfl) (hst : (assignEach es X.env).findIdx? (·.1) = none := by rfl) : QG X (gTupD n g) is (.Tuple es k pos) :=
  PG.of (pg_tup hc hg hn hst) fun v τ H Q ⟨d, σ, h, μ, rs, rh, rd, σ', h', e, q⟩ => by
    unfold gTupD at e
    split at e
    · split at e
      · rename_i hl
        cases rd with
        | tup ta rr => exact ⟨_, _, rfl, ta.sq, by rw [rr.length]; exact hl, _, σ, h, μ, rs, rh, rr, σ', h', e, q⟩
      · cases e
    · cases e
/-- o[i] = .. -/
def gSubD (f : D → D → D → AH → Option AH) (a b : M) : MG := fun d σ h => match a σ h with
  | .ok x h1 => match b σ h1 with
    | .ok y h2 => (f x y d h2).map fun h3 => (σ, h3)
    | _ => none
  | _ => none
theorem qg_sub {f : D → D → D → AH → Option AH} {a b : M} {ea eb : Expr} (hf : SetD X f) (ha : QE X W a ea) (hb : QE X W b eb)
    (hx : ∀ v, assign (.Subscript ea eb pos) X.env v = (do
      let ov ← holding [v] (eval ea X.env)
      let iv ← holding [v, ov] (eval eb X.env)
      standAt pos
      holding [v, ov, iv] (setItem ov iv v)
      release [v, ov, iv] []) := by intro _; rfl) : QG X (gSubD f a b) [] (.Subscript ea eb pos) :=
  PG.of (pg_sub ha hb hf hx) fun v τ H Q ⟨d, σ, h, μ, rs, rh, rd, σ', h', e, q⟩ => by
    unfold gSubD at e
    refine ⟨σ, h, μ, rs, rh, ?_⟩
    split at e
    · rename_i x h1 ex
      rw [ex]
      intro o H1 μ1 st1 rh1 rx
      refine ⟨σ, h1, μ1, rs.stp st1, rh1, ?_⟩
      split at e
      · rename_i y h2 ey
        rw [ey]
        intro i H2 μ2 st2 rh2 ry
        obtain ⟨h3, e3, e4⟩ := Option.map_eq_some_iff.mp e
        cases e4
        refine ⟨x, y, d, μ2, h2, rh2, rx.stp st2, ry, (rd.stp st1).stp st2, h', e3, fun H3 μ3 st3 rh3 => ?_⟩
        have st := (st1.trans st2).trans st3
        exact q τ H3 μ3 st (rs.stp st) rh3 rfl fun _ _ => rfl
      · cases e
    · cases e
end
end Q

/-! Q9: statements, loops, comprehensions. -/
namespace Q
open PySem PySem.Spec PyProof.Rows L2

inductive Out where
  | stuck | nx (σ : AS) (h : AH) | rt (d : D) (h : AH) | bk (σ : AS) (h : AH) | ct (σ : AS) (h : AH) | ex (e : Ex) (σ : AS) (h : AH)
abbrev MS := AS → AH → Out
section
variable {X : Cx} {W : WX} {D D' : Ends} {H : Hp} {μ : Mu}
def PostS (X : Cx) (W : WX) (D : Ends) (H : Hp) (μ : Mu) : Out → Prop
  | .stuck => False
  | .nx σ h => ∀ (τ : L2.St) (H' : Hp) (μ' : Mu), Stp μ μ' H H' → RelS X.K H' μ' σ τ → RelH X.prog X.w X.K H' μ' h → D.nx τ H'
  | .rt d h => ∀ (v : V) (H' : Hp) (μ' : Mu), Stp μ μ' H H' → RelH X.prog X.w X.K H' μ' h → RD X.K H' μ' d v → D.rt v H'
  | .bk σ h => ∀ (τ : L2.St) (H' : Hp) (μ' : Mu), Stp μ μ' H H' → RelS X.K H' μ' σ τ → RelH X.prog X.w X.K H' μ' h → D.bk τ H'
  | .ct σ h => ∀ (τ : L2.St) (H' : Hp) (μ' : Mu), Stp μ μ' H H' → RelS X.K H' μ' σ τ → RelH X.prog X.w X.K H' μ' h → D.ct τ H'
  | .ex e σ h => ∀ (cls : Value) (dd : Option Addr) (τ : L2.St) (H' : Hp) (μ' : Mu), Stp μ μ' H H' → RelS X.K H' μ' σ τ → RelH X.prog X.w X.K H' μ' h → RX X.mg X.K H' μ' e cls dd → W cls dd τ H'
def tXS (X : Cx) (W : WX) (m : MS) : TS := fun D τ H => ∃ (σ : AS) (h : AH) (μ : Mu), RelS X.K H μ σ τ ∧ RelH X.prog X.w X.K H μ h ∧ PostS X W D H μ (m σ h)
def QS (X : Cx) (W : WX) (m : MS) (st : Stmt) : Prop := PS X st (tXS X W m)
def QSs (X : Cx) (W : WX) (m : MS) (ss : List Stmt) : Prop := PSs X ss (tXS X W m)
theorem PS.of {t t' : TS} {st : Stmt} (h : PS X st t) (i : ∀ D τ H, t' D τ H → t D τ H) : PS X st t' := ⟨fun pins s σ H D I q => h.run pins s σ H D I (i _ _ _ q)⟩
theorem PSs.of {t t' : TS} {ss : List Stmt} (h : PSs X ss t) (i : ∀ D τ H, t' D τ H → t D τ H) : PSs X ss t' := ⟨fun pins s σ H D I q => h.run pins s σ H D I (i _ _ _ q)⟩
theorem PostS.mono {H' : Hp} {μ' : Mu} (s : Stp μ μ' H H') {r : Out} (q : PostS X W D H μ r) : PostS X W D H' μ' r := by
  cases r with
  | stuck => exact q
  | nx σ h => exact fun τ H2 μ2 s2 => q τ H2 μ2 (s.trans s2)
  | rt d h => exact fun v H2 μ2 s2 => q v H2 μ2 (s.trans s2)
  | bk σ h => exact fun τ H2 μ2 s2 => q τ H2 μ2 (s.trans s2)
  | ct σ h => exact fun τ H2 μ2 s2 => q τ H2 μ2 (s.trans s2)
  | ex e σ h => exact fun c d τ H2 μ2 s2 => q c d τ H2 μ2 (s.trans s2)
/-- an expression ahead of something -/
def Res.andS {α : Type} (σ : AS) (r : Res α) (f : α → AH → Out) : Out := match r with
  | .stuck => .stuck
  | .ok a h => f a h
  | .ex e h => .ex e σ h
@[simp] theorem Res.andS_ok {α : Type} (σ : AS) (a : α) (h : AH) (f : α → AH → Out) : (Res.ok a h).andS σ f = f a h := rfl
@[simp] theorem Res.andS_ex {α : Type} (σ : AS) (e : Ex) (h : AH) (f : α → AH → Out) : (Res.ex e h : Res α).andS σ f = .ex e σ h := rfl
@[simp] theorem Res.andS_stuck {α : Type} (σ : AS) (f : α → AH → Out) : (Res.stuck : Res α).andS σ f = .stuck := rfl
theorem goS {α β : Type} {RA : Hp → Mu → α → β → Prop} {σ : AS} {τ : L2.St} {h : AH} {m : AS → AH → Res α} {f : α → AH → Out} {k : β → Hp → Prop} (rs : RelS X.K H μ σ τ) (rh : RelH X.prog X.w X.K H μ h) (q : PostS X W D H μ ((m σ h).andS σ f))
    (hk : ∀ (a : α) (h1 : AH) (b : β) (H1 : Hp) (μ1 : Mu), Stp μ μ1 H H1 → RelS X.K H1 μ1 σ τ → RelH X.prog X.w X.K H1 μ1 h1 → RA H1 μ1 a b → PostS X W D H1 μ1 (f a h1) → k b H1) : tG X W RA m τ H k := by
  refine ⟨σ, h, μ, rs, rh, ?_⟩
  cases e : m σ h with
  | stuck => rw [e] at q; exact q
  | ex x h' =>
    rw [e] at q
    exact fun cls dd H' μ' s rh' rx => q cls dd τ H' μ' s (rs.stp s) rh' rx
  | ok a h' =>
    rw [e] at q
    exact fun b H' μ' s rh' ra => hk a h' b H' μ' s (rs.stp s) rh' ra (q.mono s)

/-! ### blocks -/
def sNil : MS := fun σ h => .nx σ h
def sCons (a b : MS) : MS := fun σ h => match a σ h with
  | .nx σ' h' => b σ' h'
  | r => r
theorem qss_nil : QSs X W sNil [] := PSs.of pss_nil fun D τ H ⟨σ, h, μ, rs, rh, q⟩ => q τ H μ Stp.refl rs rh
theorem seq_go {a b : MS} {σ : AS} {h : AH} (q : PostS X W D H μ (sCons a b σ h)) : PostS X W { D with nx := fun τ H => tXS X W b D τ H } H μ (a σ h) := by
  unfold sCons at q
  cases e : a σ h with
  | nx σ' h' =>
    rw [e] at q
    exact fun τ H' μ' s rs rh => ⟨σ', h', μ', rs, rh, q.mono s⟩
  | _ => rw [e] at q; exact q
theorem qss_cons {a b : MS} {st : Stmt} {ss : List Stmt} (ha : QS X W a st) (hb : QSs X W b ss) : QSs X W (sCons a b) (st :: ss) :=
  PSs.of (pss_cons ha hb) fun D τ H ⟨σ, h, μ, rs, rh, q⟩ => ⟨σ, h, μ, rs, rh, seq_go q⟩

/-! ### plain statements -/
def sRet (m : M) : MS := fun σ h => (m σ h).andS σ fun d h1 => .rt d h1
theorem qs_ret {m : M} {e : Expr} {pos : Pos} (hm : QE X W m e) : QS X W (sRet m) (.Return (some e) pos) :=
  PS.of (ps_ret hm) fun D τ H ⟨σ, h, μ, rs, rh, q⟩ => goS rs rh q fun d h1 v H1 μ1 s1 rs1 rh1 rd q1 => q1 v H1 μ1 Stp.refl rh1 rd
def sRetN : MS := fun _ h => .rt .non h
theorem qs_retN {pos : Pos} : QS X W sRetN (.Return none pos) := PS.of ps_retN fun D τ H ⟨σ, h, μ, rs, rh, q⟩ => q .non H μ Stp.refl rh .non
def sExpr (m : M) : MS := fun σ h => (m σ h).andS σ fun _ h1 => .nx σ h1
theorem qs_expr {m : M} {e : Expr} {pos : Pos} (hm : QE X W m e) (hs : swapsWith e none pos.line X.env = pure false := by rfl) : QS X W (sExpr m) (.Expr e pos) :=
  PS.of (ps_expr hm hs) fun D τ H ⟨σ, h, μ, rs, rh, q⟩ => goS rs rh q fun d h1 v H1 μ1 s1 rs1 rh1 rd q1 => q1 τ H1 μ1 Stp.refl rs1 rh1
theorem qs_doc {x j} {pos pos' : Pos} : QS X W sNil (.Expr (.Constant (.str x) j pos) pos') := PS.of ps_doc fun D τ H ⟨σ, h, μ, rs, rh, q⟩ => q τ H μ Stp.refl rs rh
theorem qs_pass {pos : Pos} : QS X W sNil (.Pass pos) := PS.of ps_pass fun D τ H ⟨σ, h, μ, rs, rh, q⟩ => q τ H μ Stp.refl rs rh
def sBreak : MS := fun σ h => .bk σ h
def sCont : MS := fun σ h => .ct σ h
theorem qs_break {pos : Pos} : QS X W sBreak (.Break pos) := PS.of ps_break fun D τ H ⟨σ, h, μ, rs, rh, q⟩ => q τ H μ Stp.refl rs rh
theorem qs_continue {pos : Pos} : QS X W sCont (.Continue pos) := PS.of ps_continue fun D τ H ⟨σ, h, μ, rs, rh, q⟩ => q τ H μ Stp.refl rs rh
/-- never reached -/
def sNever : MS := fun _ _ => .stuck
theorem qs_never {st : Stmt} : QS X W sNever st := PS.of ps_never fun D τ H ⟨σ, h, μ, rs, rh, q⟩ => q
def sIf (c : MB) (a b : MS) : MS := fun σ h => (c σ h).andS σ fun k h1 => if k = true then a σ h1 else b σ h1
theorem qs_if {c : MB} {a b : MS} {e : Expr} {as bs : List Stmt} {pos : Pos} (hc : QT X W c e) (ha : QSs X W a as) (hb : QSs X W b bs) : QS X W (sIf c a b) (.If e as bs pos) :=
  PS.of (ps_if hc ha hb) fun D τ H ⟨σ, h, μ, rs, rh, q⟩ => goS rs rh q fun k h1 k' H1 μ1 s1 rs1 rh1 rk q1 => by
    cases (show k = k' from rk)
    cases k with
    | true => rw [if_pos rfl] at q1 ⊢; exact ⟨σ, h1, μ1, rs1, rh1, q1⟩
    | false => rw [if_neg Bool.false_ne_true] at q1 ⊢; exact ⟨σ, h1, μ1, rs1, rh1, q1⟩
/-- a store -/
def stO (r : Option (AS × AH)) : Out := match r with
  | some (σ, h) => .nx σ h
  | none => .stuck
@[simp] theorem stO_some (σ : AS) (h : AH) : stO (some (σ, h)) = .nx σ h := rfl
@[simp] theorem stO_none : stO none = .stuck := rfl
theorem PostG.of {is : List Nat} {τ : L2.St} {r : Option (AS × AH)} (q : PostS X W D H μ (stO r)) : PostG X is τ H μ D.nx r := by
  cases r with
  | none => exact False.elim q
  | some p => exact ⟨p.1, p.2, rfl, fun τ' H' μ' s rs rh _ _ => q τ' H' μ' s rs rh⟩
def sAsg (m : M) (g : MG) : MS := fun σ h => (m σ h).andS σ fun d h1 => stO (g d σ h1)
theorem qs_asg {m : M} {g : MG} {is : List Nat} {tg e : Expr} {pos : Pos} (hm : QE X W m e) (hg : QG X g is tg) (hs : swapsWithSole [tg] e pos.line X.env = pure false := by rfl) (hw : swappedStores [tg] e X.env = pure none := by rfl)
    (h1 : (assignEach [tg] X.env).map (·.2) = [assign tg X.env] := by rfl) : QS X W (sAsg m g) (.Assign [tg] e pos) :=
  PS.of (ps_asg hm hg hs hw h1) fun D τ H ⟨σ, h, μ, rs, rh, q⟩ => goS rs rh q fun d h1 v H1 μ1 s1 rs1 rh1 rd q1 => ⟨d, σ, h1, μ1, rs1, rh1, rd, .of q1⟩
theorem qs_set {m : M} {i : Nat} {x : Str} {e : Expr} {pos pos' : Pos} (hN : X.N.Nodup) (hi : X.N[i]? = some x) (hx : Loc X.env.scope x) (hm : QE X W m e) (hs : swapsWith e (some (.Name x pos')) pos.line X.env = pure false := by rfl)
    (hf : X.fn x = true ∨ X.env.scope.names.lookup x = some .local := by first | exact .inl rfl | exact .inr rfl | assumption) : QS X W (sAsg m (gSlot i)) (.Assign [.Name x pos'] e pos) :=
  PS.of (ps_set hN hi hx hm hs hf) fun D τ H ⟨σ, h, μ, rs, rh, q⟩ => goS rs rh q fun d h1 v H1 μ1 s1 rs1 rh1 rd q1 => q1 _ H1 μ1 Stp.refl (rs1.set rd i) rh1
/-- a, b = e1, e2 -/
def sPar (i j : Nat) (r : ML) : MS := fun σ h => (r σ h).andS σ fun ds h1 => match ds with
  | [a, b] => .nx ((σ.set i (some a)).set j (some b)) h1
  | _ => .stuck
theorem qs_par {r : ML} {i j : Nat} {x y : Str} {a b : Expr} {px py pt pos : Pos} {kt k2 pt2} (hc : X.calm = true) (hN : X.N.Nodup) (hi : X.N[i]? = some x) (hj : X.N[j]? = some y) (hij : i ≠ j)
    (hx : X.env.scope.names.lookup x = some .local) (hy : X.env.scope.names.lookup y = some .local) (ha : QA X W r [a, b])
    (hw : swappedStores [.Tuple [.Name x px, .Name y py] kt pt] (.Tuple [a, b] k2 pt2) X.env = pure (some [x, y]))
    (hs : swapsWithSole [.Tuple [.Name x px, .Name y py] kt pt] (.Tuple [a, b] k2 pt2) pos.line X.env = pure false := by rfl) :
    QS X W (sPar i j r) (.Assign [.Tuple [.Name x px, .Name y py] kt pt] (.Tuple [a, b] k2 pt2) pos) :=
  PS.of (ps_par hc hN hi hj hij hx hy ha hw hs) fun D τ H ⟨σ, h, μ, rs, rh, q⟩ => goS rs rh q fun ds h1 vs H1 μ1 s1 rs1 rh1 rds q1 => by
    split at q1
    · obtain ⟨v, w, rfl, rv, rw⟩ := rds.two
      exact ⟨v, w, rfl, q1 _ H1 μ1 Stp.refl ((rs1.set rv i).set rw j) rh1⟩
    · exact q1.elim
/-- x += e, numbers -/
def sAug (i : Nat) (f : Int → Int → Int) (m : M) : MS := fun σ h => match σ[i]? with
  | some (some (.int a)) => (m σ h).andS σ fun d h1 => match d with
    | .int b => .nx (σ.set i (some (.int (f a b)))) h1
    | _ => .stuck
  | _ => .stuck
theorem qs_aug {m : M} {i : Nat} {x : Str} {e : Expr} {op : Operator} {f : Int → Int → Int} {pos pos' : Pos} (hN : X.N.Nodup) (hi : X.N[i]? = some x) (hx : Loc X.env.scope x) (hm : QE X W m e) (ho : PIp X op (ipI f))
    (hf : X.fn x = true ∨ X.env.scope.names.lookup x = some .local := by first | exact .inl rfl | exact .inr rfl | assumption) : QS X W (sAug i f m) (.AugAssign (.Name x pos') op e pos) :=
  PS.of (ps_aug hN hi hx hm ho hf) fun D τ H ⟨σ, h, μ, rs, rh, q⟩ => by
    unfold sAug at q
    split at q
    · rename_i a ea
      obtain ⟨v, ev, rv⟩ := rs.2 i _ ea
      cases rv
      refine ⟨_, ev, goS rs rh q fun d h1 v H1 μ1 s1 rs1 rh1 rd q1 => ?_⟩
      split at q1
      · cases rd
        exact ⟨_, _, rfl, rfl, q1 _ H1 μ1 Stp.refl (rs1.set (.int _) i) rh1⟩
      · exact q1.elim
    · exact q.elim

/-! ### for -/
open Classical in
noncomputable def forL (G : AH → Prop) (g : MG) (body : MS) : List _root_.Q.D → AS → AH → Out
  | [], σ, h => if G h then .nx σ h else .stuck
  | d :: ds, σ, h => if G h then (match g d σ h with
    | some (σ1, h1) => match body σ1 h1 with
      | .nx σ2 h2 => forL G g body ds σ2 h2
      | .ct σ2 h2 => forL G g body ds σ2 h2
      | .bk σ2 h2 => .nx σ2 h2
      | r => r
    | none => .stuck) else .stuck
noncomputable def sFor (it : MI) (g : MG) (body : MS) : MS := fun σ h => (it σ h).andS σ fun p h1 => forL p.2 g body p.1 σ h1
theorem qs_for {it : MI} {g : MG} {is : List Nat} {body : MS} {tg iter : Expr} {ss : List Stmt} {pos : Pos} (hp : PassesOwn (model X.prog X.w) X.A X.env X.xe) (hc : X.calm = true) (hi : QI X W tg it iter) (hg : QG X g is tg) (hb : QSs X W body ss)
    (hs : ∀ x, foldedSetIterable iter X.env x = pure x := by intro _; rfl) : QS X W (sFor it g body) (.For tg iter ss [] pos) :=
  PS.of (ps_for hp hc hi hg hb hs) fun D τ H ⟨σ, h, μ, rs, rh, q⟩ => goS rs rh q fun p h1 J H1 μ1 s1 rs1 rh1 w q1 => by
    obtain ⟨ds, G⟩ := p
    refine ⟨fun i m τ H => m = ds.length - i ∧ i ≤ ds.length ∧ ∃ σ h μ, Stp μ1 μ H1 H ∧ RelS X.K H μ σ τ ∧ RelH X.prog X.w X.K H μ h ∧ PostS X W D H μ (forL G g body (ds.drop i) σ h), ⟨ds.length, rfl, Nat.zero_le _, σ, h1, μ1, Stp.refl, rs1, rh1, q1⟩, ?_⟩
    rintro i m τ H ⟨rfl, hi, σ, h, μ, st, rs, rh, q⟩
    by_cases hlt : i < ds.length
    · rw [List.drop_eq_getElem_cons hlt, forL] at q
      by_cases hG : G h
      · rw [if_pos hG] at q
        refine .inr ⟨w.goes i H μ h hlt st.toStp0 rh hG, fun τ H => ∃ σ h μ, Stp μ1 μ H1 H ∧ RelS X.K H μ σ τ ∧ RelH X.prog X.w X.K H μ h ∧ PostS X W D H μ (forL G g body (ds.drop (i + 1)) σ h), fun τ' H' p' => ⟨ds.length - (i + 1), by omega, rfl, hlt, p'⟩, fun x H' y => ?_⟩
        obtain ⟨d, ed, st', rh', rd⟩ := w.yields i H μ h x H' hlt st.toStp0 rh hG y
        have ed' : ds[i] = d := by
          rw [List.getElem?_eq_getElem hlt] at ed
          exact Option.some.inj ed
        rw [ed'] at q
        refine ⟨d, σ, h, μ, rs.stp st', rh', rd, ?_⟩
        split at q
        · rename_i σ1 h2 eg
          refine ⟨σ1, h2, eg, fun τ2 H2 μ2 st2 rs2 rh2 _ _ => ⟨σ1, h2, μ2, rs2, rh2, ?_⟩⟩
          have sta := (st.trans st').trans st2
          split at q
          · rename_i σ2 h3 eb
            rw [eb]
            exact fun τ3 H3 μ3 st3 rs3 rh3 => ⟨σ2, h3, μ3, sta.trans st3, rs3, rh3, q.mono ((st'.trans st2).trans st3)⟩
          · rename_i σ2 h3 eb
            rw [eb]
            exact fun τ3 H3 μ3 st3 rs3 rh3 => ⟨σ2, h3, μ3, sta.trans st3, rs3, rh3, q.mono ((st'.trans st2).trans st3)⟩
          · rename_i σ2 h3 eb
            rw [eb]
            exact fun τ3 H3 μ3 st3 rs3 rh3 => q τ3 H3 μ3 ((st'.trans st2).trans st3) rs3 rh3
          · rename_i n1 n2 n3
            have q2 := q.mono (st'.trans st2)
            cases eb : body σ1 h2 with
            | nx a b => exact absurd eb (n1 a b)
            | ct a b => exact absurd eb (n2 a b)
            | bk a b => exact absurd eb (n3 a b)
            | stuck => rw [eb] at q2; exact q2
            | rt a b => rw [eb] at q2; exact q2
            | ex a b c => rw [eb] at q2; exact q2
        · exact q.elim
      · rw [if_neg hG] at q
        exact q.elim
    · have ei : i = ds.length := by omega
      subst ei
      rw [List.drop_length, forL] at q
      by_cases hG : G h
      · rw [if_pos hG] at q
        exact .inl ⟨w.stops H μ h st.toStp0 rh hG, q τ H μ Stp.refl rs rh⟩
      · rw [if_neg hG] at q
        exact q.elim

/-! ### list comprehensions -/
def WNever : WX := fun _ _ _ _ => False
open Classical in
noncomputable def lcL (G : AH → Prop) (g : MG) (t : MB) (m : M) (σ : AS) : List _root_.Q.D → List _root_.Q.D → AH → Res (List _root_.Q.D)
  | [], acc, h => if G h then .ok acc h else .stuck
  | d :: ds, acc, h => if G h then (match g d σ h with
    | some (σ1, h1) => match t σ1 h1 with
      | .ok true h2 => match m σ1 h2 with
        | .ok y h3 => if acc.length < 16777216 then lcL G g t m σ ds (acc ++ [y]) h3 else .stuck
        | _ => .stuck
      | .ok false h2 => lcL G g t m σ ds acc h2
      | _ => .stuck
    | none => .stuck) else .stuck
noncomputable def eLc (it : MI) (g : MG) (t : MB) (m : M) (vs : List Nat) : M := fun σ h => (it σ h).bind fun p h1 => (lcL p.2 g t m (wipeA σ vs) p.1 [] h1).bind fun ds h2 => .ok (.fro ds) h2
theorem wipe_get {τ : L2.St} : ∀ {vs : List Nat} {j : Nat}, j ∉ vs → (L2.wipe τ vs)[j]? = τ[j]?
  | [], _, _ => rfl
  | v :: vs, j, h => by
    rw [List.mem_cons, not_or] at h
    unfold L2.wipe
    rw [List.getElem?_set_ne (Ne.symm h.1)]
    exact wipe_get h.2
theorem wipe_in {τ : L2.St} : ∀ {vs : List Nat} {j : Nat}, j ∈ vs → (L2.wipe τ vs)[j]? = if j < τ.length then some none else none
  | [], _, h => by cases h
  | v :: vs, j, h => by
    unfold L2.wipe
    by_cases hv : v = j
    · subst hv
      by_cases hl : v < τ.length
      · rw [List.getElem?_set_self (by rw [wipe_length]; exact hl), if_pos hl]
      · rw [if_neg hl, List.getElem?_eq_none (by rw [List.length_set, wipe_length]; omega)]
    · rw [List.getElem?_set_ne hv]
      rcases List.mem_cons.mp h with e | e
      · exact absurd e.symm hv
      · exact wipe_in e
theorem wipe_ext {τ τ' : L2.St} {vs : List Nat} (hl : τ'.length = τ.length) (h : ∀ j, j ∉ vs → τ'[j]? = τ[j]?) : L2.wipe τ' vs = L2.wipe τ vs := by
  apply List.ext_getElem?
  intro j
  by_cases hj : j ∈ vs
  · rw [wipe_in hj, wipe_in hj, hl]
  · rw [wipe_get hj, wipe_get hj, h j hj]
theorem Stp.poke_new {H' : Hp} {μ' : Mu} {A : Addr} {u : HO} (s : Stp μ μ' H H') (hA : H A = none) : Stp μ μ' H (upd H' A u) :=
  ⟨⟨s.pre, s.new, fun a o e n => by rw [upd_ne (ne_of_none e hA)]; exact s.keep a o e n⟩, s.fz, fun a o m e => by rw [upd_ne (ne_of_none e hA)]; exact s.hid a o m e⟩
theorem Res.bind_ok_inv {α β : Type} {r : Res α} {f : α → AH → Res β} : True := trivial
theorem lc_go {it : MI} {g : MG} {t : MB} {m : M} {vs is : List Nat} (his : ∀ j, j ∈ is → j ∈ vs) : ∀ τ H Q, tE X W (eLc it g t m vs) τ H Q → tLc (tI X W it) (tGt X g is) (tT X WNever t) (tE X WNever m) vs τ H Q := fun τ H Q ⟨σ, h, μ, rs, rh, q⟩ =>
  go rs rh q fun p h1 J H1 μ1 s1 rs1 rh1 w q1 A hA => by
    obtain ⟨ds, G⟩ := p
    have hA1 : upd H1 A (.lst []) A = some (.lst []) := upd_same
    let Inv' : Nat → Hp → Prop := fun i H => ∃ h μ acc xs, Stp0 μ1 μ H1 H ∧ Stp μ1 ⟨μ.l, μ1.f⟩ H1 H ∧ μ.f = A :: μ1.f ∧ RelH X.prog X.w X.K H μ h ∧ H A = some (.lst xs) ∧ RDs X.K H μ acc xs ∧
      Post X W τ H1 μ1 (RD X.K) Q ((lcL G g t m (wipeA σ vs) (ds.drop i) acc h).bind fun ds h2 => .ok (.fro ds) h2)
    refine ⟨fun i m' H => m' = ds.length - i ∧ i ≤ ds.length ∧ Inv' i H, ⟨ds.length, rfl, Nat.zero_le _, h1, μ1.hide A, [], [], Stp0.hide hA, Stp.laid hA, rfl, rh1.hide hA, hA1, .nil, ?_⟩, ?_⟩
    · rw [List.drop_zero]; exact q1
    rintro i m' H ⟨rfl, hi, h, μ, acc, xs, st0, st, hf, rh, hHA, racc, q⟩
    have mA : A ∈ μ.f := by rw [hf]; exact List.mem_cons_self
    by_cases hlt : i < ds.length
    · rw [List.drop_eq_getElem_cons hlt, lcL] at q
      by_cases hG : G h
      · rw [if_pos hG] at q
        refine .inr ⟨w.goes i H μ h hlt st0 rh hG, Inv' (i + 1), fun H' p' => ⟨ds.length - (i + 1), by omega, rfl, hlt, p'⟩, fun x H' y => ?_⟩
        obtain ⟨d, ed, st', rh', rd⟩ := w.yields i H μ h x H' hlt st0 rh hG y
        have ed' : ds[i] = d := by
          rw [List.getElem?_eq_getElem hlt] at ed
          exact Option.some.inj ed
        rw [ed'] at q
        have rs0 : RelS X.K H' μ σ τ := ⟨rs1.1, fun i d e => let ⟨v, a, b⟩ := rs1.2 i d e; ⟨v, a, b.stp0 (st0.trans st'.toStp0)⟩⟩
        refine ⟨d, wipeA σ vs, h, μ, rs0.wipe vs, rh', rd, ?_⟩
        cases eg : g d (wipeA σ vs) h with
        | none => rw [eg] at q; exact q.elim
        | some p =>
          obtain ⟨σ1, h2⟩ := p
          rw [eg] at q
          refine ⟨σ1, h2, rfl, fun τ2 H2 μ2 st2 rs2 rh2 hl2 f2 => ⟨?_, σ1, h2, μ2, rs2, rh2, ?_⟩⟩
          · have e1 : L2.wipe τ2 vs = L2.wipe (L2.wipe τ vs) vs := wipe_ext hl2 fun j hj => f2 j fun z => hj (his j z)
            rw [e1]
            exact wipe_ext (wipe_length _ _) fun j hj => wipe_get hj
          dsimp only at q
          cases et : t σ1 h2 with
          | stuck => rw [et] at q; exact q.elim
          | ex e h3 => rw [et] at q; exact q.elim
          | ok k h3 =>
            rw [et] at q
            intro b H3 μ3 st3 rh3 rb
            cases (show k = b from rb)
            cases k with
            | false =>
              rw [if_neg Bool.false_ne_true]
              have sta := (st'.trans st2).trans st3
              exact ⟨h3, μ3, acc, xs, st0.trans sta.toStp0, st.within (f := μ1.f) hA hf sta rh3.dj, sta.fz.trans hf, rh3, sta.hid _ _ mA hHA, racc.stp sta, q⟩
            | true =>
              rw [if_pos rfl]
              refine ⟨σ1, h3, μ3, rs2.stp st3, rh3, ?_⟩
              dsimp only at q
              cases em : m σ1 h3 with
              | stuck => rw [em] at q; exact q.elim
              | ex e h4 => rw [em] at q; exact q.elim
              | ok yd h4 =>
                rw [em] at q
                intro v H4 μ4 st4 rh4 rv
                dsimp only at q
                by_cases hl : acc.length < 16777216
                · rw [if_pos hl] at q
                  have sta := ((st'.trans st2).trans st3).trans st4
                  have hA4 := sta.hid _ _ mA hHA
                  have mA4 : A ∈ μ4.f := by rw [sta.fz]; exact mA
                  have pk : Stp0 μ4 μ4 H4 (upd H4 A (.lst (xs ++ [v]))) := Stp0.poke mA4
                  refine ⟨xs, hA4, by rw [sizeLine_eq, racc.length]; exact hl, h4, μ4, acc ++ [yd], xs ++ [v], (st0.trans sta.toStp0).trans pk, (st.within (f := μ1.f) hA hf sta rh4.dj).poke_new hA, sta.fz.trans hf, rh4.poke mA4, upd_same, ?_, q⟩
                  exact ((racc.stp sta).append (.cons rv .nil)).stp0 pk
                · rw [if_neg hl] at q
                  exact q.elim
      · rw [if_neg hG] at q
        exact q.elim
    · have ei : i = ds.length := by omega
      subst ei
      rw [List.drop_length, lcL] at q
      by_cases hG : G h
      · rw [if_pos hG] at q
        refine .inl ⟨w.stops H μ h st0 rh hG, q _ H _ st (rh.show fun a m => by rw [hf]; exact List.mem_cons_of_mem _ m) ?_⟩
        have sh : Stp0 μ ⟨μ.l, μ1.f⟩ H H := Stp0.show fun a m => by rw [hf]; exact List.mem_cons_of_mem _ m
        refine .fro hHA (fun z => ?_) (racc.stp0 sh)
        rcases z with z | z
        · exact rh.dj A z mA
        · obtain ⟨u, e⟩ := rh1.fo A z
          rw [hA] at e; cases e
      · rw [if_neg hG] at q
        exact q.elim
def QTs (X : Cx) (W : WX) (t : MB) (es : List Expr) : Prop := PTs X es (tT X W t)
def tYesM : MB := fun _ h => .ok true h
theorem qts_nil : QTs X W tYesM [] := ⟨fun pins s τ H Q I ⟨σ, h, μ, rs, rh, q⟩ => pts_nil.run pins s τ H Q I (q.now rh rfl)⟩
theorem qts_one {t : MB} {c : Expr} (h : QT X W t c) : QTs X W t [c] := pts_one h
variable {N : List Str}
theorem q_lc {it : MI} {g : MG} {t : MB} {m : M} {is : List Nat} {elt tg iter : Expr} {ifs : List Expr} {scope : Scope} {own : List (Str × Nat)} {pos : Pos} (hc : X.calm = true) (hN : X.N.Nodup) (hi : QI X W tg it iter) (ok : BlkOk X.N X.env.scope scope own)
    (hg : ∀ (s : Shared) (H : Hp) (C : Addr) (cl : List (Str × Addr)) (fp : List Addr), QG (X.blk s H scope (compEnvC scope cl C X.env) fp) g is tg) (ht : ∀ (s : Shared) (H : Hp) (C : Addr) (cl : List (Str × Addr)) (fp : List Addr), QTs (X.blk s H scope (compEnvC scope cl C X.env) fp) WNever t ifs)
    (he : ∀ (s : Shared) (H : Hp) (C : Addr) (cl : List (Str × Addr)) (fp : List Addr), QE (X.blk s H scope (compEnvC scope cl C X.env) fp) WNever m elt) (his : ∀ j, j ∈ is → j ∈ own.map (·.2) := by decide) (hs : ∀ x, foldedSetIterable iter X.env x = pure x := by intro _; rfl) :
    QE X W (eLc it g t m (own.map (·.2))) (.ListComp elt [⟨tg, iter, ifs, 0⟩] scope pos) :=
  QE.of (pe_lc hc hN hi ok (g := tGt X g is) (tt := tT X WNever t) (te := tE X WNever m) hg ht he hs) (lc_go his)
/-- name = [..] -/
theorem qs_setLc {it : MI} {g : MG} {t : MB} {m : M} {is : List Nat} {i : Nat} {y : Str} {py : Pos} {elt tg iter : Expr} {ifs : List Expr} {scope : Scope} {own : List (Str × Nat)} {pos spos : Pos} (hc : X.calm = true) (hN : X.N.Nodup) (hy : X.N[i]? = some y) (hyl : X.env.scope.names.lookup y = some .local)
    (hsw : swapsWith (.ListComp elt [⟨tg, iter, ifs, 0⟩] scope pos) (some (.Name y py)) spos.line X.env = pure true) (hi : QI X W tg it iter) (ok : BlkOk X.N X.env.scope scope own)
    (hg : ∀ (s : Shared) (H : Hp) (C : Addr) (cl : List (Str × Addr)) (fp : List Addr), QG (X.blk s H scope (compEnvC scope cl C X.env) fp) g is tg) (ht : ∀ (s : Shared) (H : Hp) (C : Addr) (cl : List (Str × Addr)) (fp : List Addr), QTs (X.blk s H scope (compEnvC scope cl C X.env) fp) WNever t ifs)
    (he : ∀ (s : Shared) (H : Hp) (C : Addr) (cl : List (Str × Addr)) (fp : List Addr), QE (X.blk s H scope (compEnvC scope cl C X.env) fp) WNever m elt) (his : ∀ j, j ∈ is → j ∈ own.map (·.2) := by decide) (hs : ∀ x, foldedSetIterable iter X.env x = pure x := by intro _; rfl) :
    QS X W (sAsg (eLc it g t m (own.map (·.2))) (gSlot i)) (.Assign [.Name y py] (.ListComp elt [⟨tg, iter, ifs, 0⟩] scope pos) spos) :=
  PS.of (ps_setLc hc hN hy hyl hsw hi ok (g := tGt X g is) (tt := tT X WNever t) (te := tE X WNever m) hg ht he hs) fun D τ H ⟨σ, h, μ, rs, rh, q⟩ =>
    lc_go his τ H _ (goS rs rh q fun d h1 v H1 μ1 s1 rs1 rh1 rd q1 => q1 _ H1 μ1 Stp.refl (rs1.set rd i) rh1)
end
end Q

/-! Q10: the program's own defs. -/
namespace Q
open PySem PySem.Spec PyProof.Rows L2

mutual
/-- no reference to a changing object from n on -/
def closed (n : Nat) : D → Bool
  | .ref k => decide (k < n)
  | .tup ds => closeds n ds
  | .fro ds => closeds n ds
  | .scr ds => closeds n ds
  | .non => true
  | .bl _ => true
  | .int _ => true
  | .str _ => true
def closeds (n : Nat) : List D → Bool
  | [] => true
  | d :: ds => closed n d && closeds n ds
end
def closedO (n : Nat) : O → Bool
  | .lst ds => closeds n ds
  | .dk kvs => kvs.all fun p => closed n p.2
  | .dt kvs => kvs.all fun p => closed n p.1 && closed n p.2
def okT (h h' : AH) : Prop := ∀ o ∈ h'.take h.length, o ∈ h ∨ closedO h.length o = true
def froOf (b : Bool) (n : Nat) (h' : AH) : D → Option D
  | .ref k => if b = true ∧ n ≤ k then (listAt h' k).map .fro else none
  | _ => none
open Classical in
/-- what a call leaves: the callee's own changing objects, which nothing refers to, are forgotten; a list that comes back stands still (b) -/
noncomputable def trimR (h : AH) (b : Bool) : Res D → Res D
  | .ok d h' => if h'.length = h.length then .ok d h' else if okT h h' ∧ closed h.length d = true then .ok d (h'.take h.length) else match froOf b h.length h' d with
    | some e => if okT h h' ∧ closed h.length e = true then .ok e (h'.take h.length) else .ok d h'
    | none => .ok d h'
  | r => r
open Classical in
theorem trimR_ok {h h' : AH} {b : Bool} {d : D} : trimR h b (.ok d h') = if h'.length = h.length then .ok d h' else if okT h h' ∧ closed h.length d = true then .ok d (h'.take h.length) else match froOf b h.length h' d with
    | some e => if okT h h' ∧ closed h.length e = true then .ok e (h'.take h.length) else .ok d h'
    | none => .ok d h' := rfl
theorem trim_same {h h' : AH} {b : Bool} {d : D} (e : h'.length = h.length) : trimR h b (.ok d h') = .ok d h' := by
  rw [trimR_ok]
  rw [if_pos e]
theorem trim_ex {h h' : AH} {b : Bool} {e : Ex} : trimR h b (.ex e h') = .ex e h' := rfl
theorem trim_drop {h h1 g : AH} {b : Bool} {d : D} (e : h1.length = h.length) (ho : ∀ o ∈ h1, o ∈ h ∨ closedO h.length o = true) (hd : closed h.length d = true) : trimR h b (.ok d (h1 ++ g)) = .ok d h1 := by
  rw [trimR_ok]
  have ht : (h1 ++ g).take h.length = h1 := by rw [← e, List.take_left]
  by_cases hl : (h1 ++ g).length = h.length
  · rw [if_pos hl]
    have hg : g = [] := by
      rw [List.length_append] at hl
      exact List.length_eq_zero_iff.mp (by omega)
    rw [hg, List.append_nil]
  · rw [if_neg hl, if_pos ⟨fun o m => ho o (by rw [ht] at m; exact m), hd⟩, ht]
theorem trim_fro {h h1 g : AH} {k : Nat} {ds : List D} (e : h1.length = h.length) (ho : ∀ o ∈ h1, o ∈ h ∨ closedO h.length o = true) (hk : g[k]? = some (.lst ds)) (hd : closeds h.length ds = true) : trimR h true (.ok (.ref (h.length + k)) (h1 ++ g)) = .ok (.fro ds) h1 := by
  rw [trimR_ok]
  have ht : (h1 ++ g).take h.length = h1 := by rw [← e, List.take_left]
  have hg : 0 < g.length := Nat.lt_of_le_of_lt (Nat.zero_le k) (List.getElem?_eq_some_iff.mp hk).1
  have hn : ¬ (h1 ++ g).length = h.length := by rw [List.length_append]; omega
  have hc : ¬ closed h.length (.ref (h.length + k)) = true := by simp [closed]
  rw [if_neg hn, if_neg fun z => hc z.2]
  have hf : froOf true h.length (h1 ++ g) (.ref (h.length + k)) = some (.fro ds) := by
    simp only [froOf, true_and, Nat.le_add_right, if_true, listAt]
    rw [List.getElem?_append_right (by omega), e, Nat.add_sub_cancel_left, hk]
    rfl
  rw [hf]
  exact (if_pos ⟨fun o m => ho o (by rw [ht] at m; exact m), by rw [closed]; exact hd⟩).trans (by rw [ht])
theorem trim_keep {h h' : AH} {d : D} (hd : closed h.length d = false) : trimR h false (.ok d h') = .ok d h' := by
  rw [trimR_ok]
  by_cases hl : h'.length = h.length
  · rw [if_pos hl]
  · rw [if_neg hl, if_neg fun z => by rw [hd] at z; exact Bool.false_ne_true z.2]
    have hf : froOf false h.length h' d = none := by
      unfold froOf
      split
      · rw [if_neg fun z => Bool.false_ne_true z.1]
      · rfl
    rw [hf]
/-- the result of a body -/
def retOf : Out → Res D
  | .nx _ h => .ok .non h
  | .rt d h => .ok d h
  | .ex e _ h => .ex e h
  | _ => .stuck
@[simp] theorem retOf_nx (σ : AS) (h : AH) : retOf (.nx σ h) = .ok .non h := rfl
@[simp] theorem retOf_rt (d : D) (h : AH) : retOf (.rt d h) = .ok d h := rfl
@[simp] theorem retOf_ex (e : Ex) (σ : AS) (h : AH) : retOf (.ex e σ h) = .ex e h := rfl
/-- the mirror of a def: n parameters, N names -/
noncomputable def fnR (b : Bool) (n N : Nat) (body : MS) (ds : List D) (h : AH) : Res D := if ds.length = n then trimR h b (retOf (body (ds.map some ++ List.replicate (N - n) none) h)) else .stuck

section
variable {P : Program} {w : World} {K : PySem.W.Frag} {H H' : Hp} {μ μ' : Mu} {h h' : AH}
mutual
theorem RD.closed : ∀ {d : D} {v : V}, RD K H μ d v → Q.closed μ.l.length d = true
  | .non, _, _ => rfl
  | .bl _, _, _ => rfl
  | .int _, _, _ => rfl
  | .str _, _, _ => rfl
  | .tup ds, _, r => by cases r with | tup t rr => rw [Q.closed]; exact RDs.closed rr
  | .fro ds, _, r => by cases r with | fro t n rr => rw [Q.closed]; exact RDs.closed rr
  | .scr ds, _, r => by cases r with | scr t rr => rw [Q.closed]; exact RDs.closed rr
  | .ref n, _, r => by
    cases r with
    | ref e => rw [Q.closed]; exact decide_eq_true (List.getElem?_eq_some_iff.mp e).1
theorem RDs.closed : ∀ {ds : List D} {vs : List V}, RDs K H μ ds vs → closeds μ.l.length ds = true
  | [], _, _ => rfl
  | d :: ds, _, r => by cases r with | cons r1 r2 => rw [closeds, RD.closed r1, RDs.closed r2]; rfl
end
theorem RelO.closed {o : O} {a : Addr} (r : RelO P w K H μ o a) : closedO μ.l.length o = true := by
  cases r with
  | lst e rr => exact rr.closed
  | dk e rr =>
    rename_i kvs qs
    show kvs.all _ = true
    unfold RKV at rr
    clear e
    induction rr with
    | nil => rfl
    | cons r1 t ih => rw [List.all_cons, ih, r1.2.closed]; rfl
  | dt e hz hl rr hn =>
    rename_i kvs xs
    show kvs.all _ = true
    clear e hn hl
    induction rr with
    | nil => rfl
    | cons r1 t ih =>
      obtain ⟨v, _, rv⟩ := r1.val
      rw [List.all_cons, ih, r1.rk.closed, rv.closed]; rfl
/-- the callee's objects forgotten -/
theorem rd_back (s : Stp μ μ' H H') : ∀ {d : D} {v : V}, RD K H' μ' d v → closed μ.l.length d = true → RD K H' μ d v := by
  have hl : ∀ k a, k < μ.l.length → μ'.l[k]? = some a → μ.l[k]? = some a := fun k a hk e => by
    have h1 := List.getElem?_eq_getElem hk
    have h2 := s.pre k _ h1
    rw [e] at h2; cases h2
    exact h1
  have hm : ∀ a, a ∉ μ' → a ∉ μ := fun a n m => n (by
    rcases m with m | m
    · obtain ⟨k, e⟩ := List.mem_iff_getElem?.mp m
      exact mem_at (s.pre k a e)
    · exact .inr (by rw [s.fz]; exact m))
  have tt : ∀ {a xs}, TupAt K H' μ' a xs → TupAt K H' μ a xs := fun t => t.imp (fun z => ⟨z.1, hm _ z.2⟩) id
  have ll : ∀ {a xs}, LstAt K H' μ' a xs → LstAt K H' μ a xs := fun t => t.imp (fun z => ⟨z.1, hm _ z.2⟩) id
  intro d v
  induction d using D.rec (motive_2 := fun ds => ∀ {vs}, RDs K H' μ' ds vs → closeds μ.l.length ds = true → RDs K H' μ ds vs) generalizing v with
  | non => intro r _; cases r; exact .non
  | bl b => intro r _; cases r; exact .bl b
  | int b => intro r _; cases r; exact .int b
  | str b => intro r _; cases r; exact .str b
  | tup ds ih => intro r c; rw [closed] at c; cases r with | tup t rr => exact .tup (tt t) (ih rr c)
  | fro ds ih => intro r c; rw [closed] at c; cases r with | fro t n rr => exact .fro t (hm _ n) (ih rr c)
  | scr ds ih => intro r c; rw [closed] at c; cases r with | scr t rr => exact .scr (ll t) (ih rr c)
  | ref k => intro r c; rw [closed] at c; cases r with | ref e => exact .ref (hl _ _ (of_decide_eq_true c) e)
  | nil => rename_i vs r _; cases r; exact .nil
  | cons d ds ih1 ih2 =>
    rename_i vs r c
    rw [closeds, Bool.and_eq_true] at c
    cases r with
    | cons r1 r2 => exact .cons (ih1 r1 c.1) (ih2 r2 c.2)
theorem rds_back (s : Stp μ μ' H H') : ∀ {ds : List D} {vs : List V}, RDs K H' μ' ds vs → closeds μ.l.length ds = true → RDs K H' μ ds vs
  | [], _, r, _ => by cases r; exact .nil
  | d :: ds, _, r, c => by
    rw [closeds, Bool.and_eq_true] at c
    cases r with
    | cons r1 r2 => exact .cons (rd_back s r1 c.1) (rds_back s r2 c.2)
theorem relO_back (s : Stp μ μ' H H') {o : O} {a : Addr} (r : RelO P w K H' μ' o a) (c : closedO μ.l.length o = true) : RelO P w K H' μ o a := by
  cases r with
  | lst e rr => exact .lst e (rds_back s rr c)
  | dk e rr =>
    rename_i kvs qs
    refine .dk e ?_
    unfold RKV at rr ⊢
    replace c : kvs.all (fun p => closed μ.l.length p.2) = true := c
    clear e
    induction rr with
    | nil => exact .nil
    | cons r1 t ih =>
      rw [List.all_cons, Bool.and_eq_true] at c
      exact .cons ⟨r1.1, rd_back s r1.2 c.1⟩ (ih c.2)
  | dt e hz hl rr hn =>
    rename_i kvs xs
    refine .dt e hz hl ?_ hn
    replace c : kvs.all (fun p => closed μ.l.length p.1 && closed μ.l.length p.2) = true := c
    clear e hn hl
    induction rr with
    | nil => exact .nil
    | cons r1 t ih =>
      rw [List.all_cons, Bool.and_eq_true, Bool.and_eq_true] at c
      obtain ⟨v, rv, rd⟩ := r1.val
      exact .cons ⟨r1.key, r1.dep, rd_back s r1.rk c.1.1, v, rv, rd_back s rd c.1.2⟩ (ih c.2)
theorem stp_back (s : Stp μ μ' H H') : Stp μ μ H H' := ⟨⟨fun _ _ z => z, fun _ m n => absurd m n, s.keep⟩, rfl, s.hid⟩
theorem relH_back (s : Stp μ μ' H H') (r0 : RelH P w K H μ h) (r : RelH P w K H' μ' h') (c : okT h h') : RelH P w K H' μ (h'.take h.length) where
  len := by
    have h1 : μ.l.length ≤ μ'.l.length := by
      cases hl : μ.l.length with
      | zero => exact Nat.zero_le _
      | succ n =>
        have h2 := s.pre n _ (List.getElem?_eq_getElem (by omega : n < μ.l.length))
        exact (List.getElem?_eq_some_iff.mp h2).1
    rw [List.length_take, ← r.len, ← r0.len]
    omega
  nd := r0.nd
  dj := r0.dj
  fo := fun a m => let ⟨u, e⟩ := r0.fo a m; ⟨u, s.hid a u m e⟩
  obj := fun n o a e1 e2 => by
    have hn : n < h.length := by rw [← r0.len]; exact (List.getElem?_eq_some_iff.mp e2).1
    have e3 : h'[n]? = some o := by rw [List.getElem?_take_of_lt hn] at e1; exact e1
    have ro := r.obj n o a e3 (s.pre n a e2)
    refine relO_back s ro ?_
    rw [r0.len]
    rcases c o (List.mem_of_getElem? e1) with m | m
    · obtain ⟨k, ek⟩ := List.mem_iff_getElem?.mp m
      obtain ⟨b, _, rb⟩ := r0.addr ek
      have := rb.closed
      rw [r0.len] at this
      exact this
    · exact m
end

section
variable {P : Program} {w : World} {K : PySem.W.Frag} {mg : Str → Option Value} {base : Heap} {CX : CXT} {x qual : Str} {params : Arguments} {ss : List Stmt} {scope : Scope} {dvs : List V} {kws : List (Str × V)} {f : Addr} {fd : FuncData}
/-- what a def lets out, in its own context -/
abbrev WFn (E : XK) : WX := fun cls d _ H => E cls d H
/-- a def keeps the promise of its mirror -/
theorem fn_ok {N ps : List Str} {k : Nat} {b : Bool} {body : MS} (F : FunD K x qual params ss scope dvs kws f fd) (S : FnScope N ps scope)
    (hbody : ∀ (cdv : Value) (A : Around) (outer : List Env) (s : Shared) (H : Hp) (E : XK), Room k (A.deeper (envOfC qual scope s.heap.objs.size f cdv)) → QSs (cxOf CX P w K mg base N qual scope f cdv A outer s H E) (WFn E) body ss) :
    FnOk P w K mg base CX (k + 1) f fd ps (spOf P w K mg (fnR b ps.length N.length body)) := by
  have hlen : ∀ vs H Q E, spOf P w K mg (fnR b ps.length N.length body) vs H Q E → vs.length = ps.length := fun vs H Q E ⟨ds, μ, h, rh, rds, q⟩ => by
    rw [rds.length]
    unfold fnR at q
    by_cases hl : ds.length = ps.length
    · exact hl
    · rw [if_neg hl] at q
      exact q.elim
  refine F.ok S hlen fun cdv A outer s H vs Q E hr hsp => ⟨_, hbody cdv A outer s H E hr, ?_⟩
  have hvl := hlen vs H Q E hsp
  obtain ⟨ds, μ, h, rh, rds, q⟩ := hsp
  have hl : ds.length = ps.length := by rw [← rds.length]; exact hvl
  unfold fnR at q
  rw [if_pos hl] at q
  refine ⟨ds.map some ++ List.replicate (N.length - ps.length) none, h, μ, ⟨?_, fun i d e => ?_⟩, rh, ?_⟩
  · show _ = (L2.start N vs).length
    unfold L2.start
    simp [hl, hvl]
  · by_cases hi : i < ds.length
    · rw [List.getElem?_append_left (by simpa using hi), List.getElem?_map] at e
      cases ed : ds[i]? with
      | none => rw [ed] at e; cases e
      | some d' =>
        rw [ed] at e
        cases e
        obtain ⟨v, ev, rv⟩ := rds.get ed
        refine ⟨v, ?_, rv⟩
        unfold L2.start
        have hiv : i < vs.length := by rw [rds.length]; exact hi
        rw [List.getElem?_append_left (by simpa using hiv), List.getElem?_map, ev]
        rfl
    · rw [List.getElem?_append_right (by simpa using hi)] at e
      have := List.mem_replicate.mp (List.mem_of_getElem? e)
      cases this.2
  · cases eb : body (ds.map some ++ List.replicate (N.length - ps.length) none) h with
    | stuck => rw [eb] at q; exact q
    | bk a c => rw [eb] at q; exact q.elim
    | ct a c => rw [eb] at q; exact q.elim
    | ex e a c =>
      rw [eb] at q
      exact fun cls dd τ H' μ' s' _ rh' rx => q cls dd H' μ' s' rh' rx
    | nx a h' =>
      rw [eb] at q
      intro τ H' μ' s' rs' rh'
      show Q .non H'
      have qq : PostF P w K mg H μ Q E (trimR h b (.ok .non h')) := q
      rw [trimR_ok] at qq
      by_cases h1 : h'.length = h.length
      · rw [if_pos h1] at qq
        exact qq .non H' μ' s' rh' .non
      · rw [if_neg h1] at qq
        by_cases h2 : okT h h' ∧ closed h.length .non = true
        · rw [if_pos h2] at qq
          exact qq .non H' μ (stp_back s') (relH_back s' rh rh' h2.1) .non
        · rw [if_neg h2] at qq
          exact qq .non H' μ' s' rh' .non
    | rt d h' =>
      rw [eb] at q
      intro v H' μ' s' rh' rd
      show Q v H'
      have qq : PostF P w K mg H μ Q E (trimR h b (.ok d h')) := q
      rw [trimR_ok] at qq
      by_cases h1 : h'.length = h.length
      · rw [if_pos h1] at qq
        exact qq v H' μ' s' rh' rd
      · rw [if_neg h1] at qq
        by_cases h2 : okT h h' ∧ closed h.length d = true
        · rw [if_pos h2] at qq
          exact qq v H' μ (stp_back s') (relH_back s' rh rh' h2.1) (rd_back s' rd (by rw [rh.len]; exact h2.2))
        · rw [if_neg h2] at qq
          split at qq
          · rename_i e ef
            by_cases h3 : okT h h' ∧ closed h.length e = true
            · rw [if_pos h3] at qq
              refine qq v H' μ (stp_back s') (relH_back s' rh rh' h3.1) ?_
              unfold froOf at ef
              split at ef
              · split at ef
                · rename_i k' hk
                  obtain ⟨es, ee, rfl⟩ := Option.map_eq_some_iff.mp ef
                  cases rd with
                  | @ref _ a hm =>
                    cases rh'.obj _ _ _ (listAt_some ee) hm with
                    | lst ha rr =>
                      have hc := h3.2
                      rw [closed] at hc
                      refine .fro ha (fun m => ?_) (rds_back s' rr (by rw [rh.len]; exact hc))
                      rcases m with m | m
                      · obtain ⟨j, ej⟩ := List.mem_iff_getElem?.mp m
                        have ej' := s'.pre j _ ej
                        obtain ⟨g1, g2⟩ := List.getElem?_eq_some_iff.mp ej'
                        obtain ⟨g3, g4⟩ := List.getElem?_eq_some_iff.mp hm
                        have ejk := (List.getElem_inj rh'.nd).mp (g2.trans g4.symm)
                        have hj : j < h.length := by rw [← rh.len]; exact (List.getElem?_eq_some_iff.mp ej).1
                        have := hk.2
                        omega
                      · exact rh'.dj a (List.mem_of_getElem? hm) (by rw [s'.fz]; exact m)
                · cases ef
              · cases ef
            · rw [if_neg h3] at qq
              exact qq v H' μ' s' rh' rd
          · exact qq v H' μ' s' rh' rd
/-- a def as it stands: its promise by the mirror f; dfl fills up what a call leaves out -/
def Def (P : Program) (w : World) (K : PySem.W.Frag) (mg : Str → Option Value) (base : Heap) (CX : CXT) (k : Nat) (x : Str) (dfl : List D) (f : List D → AH → Res D) : Prop :=
  ∃ (fa : Addr) (fd : FuncData) (ps : List Str) (dvs : List V) (us : List Value), FnOk P w K mg base CX k fa fd ps (spOf P w K mg f) ∧ mg x = some (.ref fa) ∧ PySem.W.keepIn K (.ref fa) = true ∧ Binds K fd ps us ∧ Vals dvs us ∧ ∀ H μ, RDs K H μ dfl dvs
theorem Def.cal {X : Cx} {W : WX} {k : Nat} {x : Str} {dfl : List D} {f : List D → AH → Res D} (d : Def X.prog X.w X.K X.mg X.base CX k x dfl f) (hr : Room k X.A) (hx : ∀ σ, PassesAt CX X σ (WE W σ)) : Cal X W x dfl f := by
  obtain ⟨fa, fd, ps, dvs, us, F, h1, h2, h3, h4, h5⟩ := d
  exact ⟨k, fa, fd, ps, dvs, us, CX, F, hr, h1, h2, h3, h4, h5, hx⟩
theorem pass0At {X : Cx} {W : WX} (σ : L2.St) : PassesAt CX0 X σ (WE W σ) := fun _ _ _ _ _ _ h => h.elim
end
end Q

/-! Q11: short forms for printed texts. -/
namespace Q
open PySem PySem.Spec PyProof.Rows L2
section
variable {X : Cx} {W : WX} {pos pos' : Pos}
theorem qv (i : Nat) {x : Str} (hN : X.N[i]? = some x := by rfl) (hv : Vis X.env.scope x := by first | exact Or.inl rfl | exact Or.inr (Or.inl rfl) | exact Or.inr (Or.inr rfl)) (hd : (x == ("__debug__" : Str)) = false := by decide)
    (hcd : (x == ("__classdict__" : Str)) = false := by decide) : QE X W (eVar i) (.Name x pos) := q_var hN hv hd hcd
theorem qgn {i : Nat} {x : Str} (hN : X.N.Nodup) (hi : X.N[i]? = some x := by rfl) (hx : Loc X.env.scope x := by first | exact Or.inl rfl | exact Or.inr rfl) (hf : X.fn x = true ∨ X.env.scope.names.lookup x = some .local := by first | exact .inl rfl | exact .inr rfl | assumption) : QG X (gSlot i) [i] (.Name x pos) := qg_name hN hi hx hf
theorem qsn {m : M} {i : Nat} {x : Str} {e : Expr} (hN : X.N.Nodup) (hm : QE X W m e) (hi : X.N[i]? = some x := by rfl) (hx : Loc X.env.scope x := by first | exact Or.inl rfl | exact Or.inr rfl) (hs : swapsWith e (some (.Name x pos')) pos.line X.env = pure false := by rfl)
    (hf : X.fn x = true ∨ X.env.scope.names.lookup x = some .local := by first | exact .inl rfl | exact .inr rfl | assumption) : QS X W (sAsg m (gSlot i)) (.Assign [.Name x pos'] e pos) := qs_set hN hi hx hm hs hf
/-! + of any sort -/
def dPlus : F2 := fun x y h => match dAdd x y h with
  | some r => some r
  | none => dCat x y h
theorem opd_plus : OpD X (binaryOp .Add) dPlus := fun pins s σ H v u v' u' Q I rv ru ⟨x, y, μ, h, rh, rx, ry, q⟩ => by
  unfold dPlus at q
  split at q
  · rename_i r e
    exact opd_add pins s σ H v u v' u' Q I rv ru ⟨x, y, μ, h, rh, rx, ry, by rw [e]; exact q⟩
  · exact opd_cat pins s σ H v u v' u' Q I rv ru ⟨x, y, μ, h, rh, rx, ry, q⟩
abbrev dPlusR : F2 := dCatR
theorem opd_plusR : OpD X (binaryOp .Add) dPlusR := opd_catR
def eNeg (a : M) : M := fun σ h => (a σ h).bind fun x h1 => match x with
  | .int i => .ok (.int (-i)) h1
  | _ => .stuck
theorem q_neg {a : M} {ea : Expr} (ha : QE X W a ea) : QE X W (eNeg a) (.UnaryOp .USub ea pos) := QE.of (pe_un un_neg ha) fun τ H Q ⟨σ, h, μ, rs, rh, q⟩ => go rs rh q fun x h1 v H1 μ1 s1 rs1 rh1 rx q1 => by
  split at q1
  · cases rx
    exact ⟨_, rfl, q1.now rh1 (.int _)⟩
  · exact q1.elim
end
theorem fnR_pos {b : Bool} {n N : Nat} {body : MS} {ds : List D} {h : AH} {σ : AS} (hl : ds.length = n) (hs : ds.map some ++ List.replicate (N - n) none = σ) : fnR b n N body ds h = trimR h b (retOf (body σ h)) := by
  rw [fnR, if_pos hl, hs]
theorem hu64 {k : Nat} {A : Around} (r : Room k A) : A.units + 64 < cLine := by have := r.un; omega
/-- a constant of the module -/
def GCm (mg : Str → Option Value) (K : PySem.W.Frag) (x : Str) (d : D) : Prop := ∃ (v : V) (u : Value), mg x = some u ∧ RelV v u ∧ ∀ H μ, RD K H μ d v
theorem Def.calE {P : Program} {w : World} {K : PySem.W.Frag} {mg : Str → Option Value} {base : Heap} {CX : CXT} {X : Cx} {W : WX} {k : Nat} {x : Str} {dfl : List D} {f : List D → AH → Res D} {A : Around} (d : Def P w K mg base CX k x dfl f) (hr : Room k A) (hx : ∀ σ, PassesAt CX X σ (WE W σ))
    (e1 : X.prog = P) (e2 : X.w = w) (e3 : X.K = K) (e4 : X.mg = mg) (e5 : X.base = base) (e6 : X.A = A) : Cal X W x dfl f := by
  subst e1 e2 e3 e4 e5 e6
  exact d.cal hr hx
/-- calls where every parameter is written -/
theorem Def.mk0 {P : Program} {w : World} {K : PySem.W.Frag} {mg : Str → Option Value} {base : Heap} {CX : CXT} {k : Nat} {x qual : Str} {params : Arguments} {body : List Stmt} {scope : Scope} {ps : List Str} {fa : Addr} {fd : FuncData} {f : List D → AH → Res D}
    (F : FunD K x qual params body scope [] [] fa fd) (ok : FnOk P w K mg base CX k fa fd ps (spOf P w K mg f)) (g : mg x = some (.ref fa))
    (h : ∀ (kV doc pm : Value) (an : Option Addr) (cdv ct : Value) (us : List Value), us.length = ps.length → bindArgs (PySem.W.fnOf x qual params body scope .none kV doc pm an cdv ct) ⟨us, []⟩ = pure (ps.zip us)) : Def P w K mg base CX k x [] f :=
  ⟨fa, fd, ps, [], [], ok, g, F.kp, F.bindsN h, .nil, fun _ _ => .nil⟩
/-- a def with defaults: n parameters are written -/
theorem Def.mk1 {P : Program} {w : World} {K : PySem.W.Frag} {mg : Str → Option Value} {base : Heap} {CX : CXT} {k : Nat} {x qual : Str} {params : Arguments} {body : List Stmt} {scope : Scope} {ps : List Str} {fa : Addr} {fd : FuncData} {f : List D → AH → Res D} {dvs : List V} {dfl : List D} (n j : Nat)
    (F : FunD K x qual params body scope dvs [] fa fd) (ok : FnOk P w K mg base CX k fa fd ps (spOf P w K mg f)) (g : mg x = some (.ref fa)) (hd : dvs ≠ []) (hn : n + (dvs.length - j) = ps.length) (hr : ∀ H μ, RDs K H μ dfl (dvs.drop j))
    (h : ∀ (T : Addr) (kV doc pm : Value) (an : Option Addr) (cdv ct : Value) (us its : List Value), us.length = n → its.length = dvs.length →
      ∃ k, bindArgs (PySem.W.fnOf x qual params body scope (.ref T) kV doc pm an cdv ct) ⟨us, []⟩ = seqItems? (.ref T) >>= k ∧ k (some its.toArray) = pure (ps.zip (us ++ its.drop j))) : Def P w K mg base CX k x dfl f := by
  obtain ⟨ds, r, b⟩ := F.binds1 n j hd hn h
  exact ⟨fa, fd, ps, _, ds, ok, g, F.kp, b, r, hr⟩
end Q
namespace Q
open PySem PySem.Spec PyProof.Rows L2
/-- the law's promise at its entry -/
theorem sp_law {P : Program} {w : World} {K : PySem.W.Frag} {mg : Str → Option Value} {f : List D → AH → Res D} {n : Nat} {H : Hp} {a : Addr} {ns : List Int} (hlaw : ∀ ns : List Int, ns.length ≤ n → ∃ h', f [.scr (ns.map .int)] [] = .ok (.bl true) h') (hl : ns.length ≤ n) (hO : Only H) (hS : SqL K H a (ns.map V.int)) :
    spOf P w K mg f [.ref a] H (fun v _ => v = .bl true) fun _ _ _ => False := by
  obtain ⟨h', e⟩ := hlaw ns hl
  refine ⟨[.scr (ns.map .int)], ⟨[], []⟩, [], ⟨rfl, List.nodup_nil, (fun a m => nomatch m), (fun a m => nomatch m), fun n o a e => by simp at e⟩, .cons (.scr ?_ (RDs.of_ints ns)) .nil, ?_⟩
  · rcases hS with h | h
    · exact .inl ⟨h, fun m => m.elim (fun z => nomatch z) fun z => nomatch z⟩
    · exact .inr h
  · rw [e]
    intro v H' μ' _ _ rd
    cases rd
    rfl
end Q

/-! The walk of morethan_k06_whole_translated_sentences: printed by gen.py. -/
namespace G
open PySem PySem.Spec PyProof.Rows L2 Q
def top (i : Nat) : Stmt := PySem.Challenge.pw_morethan_k06_whole_translated_sentences.main.body.getD i (.Pass ⟨0, 0, 0, 0⟩)
def K_MOST_SIGNS : Q.D := .int 12
def K_MOST_SOURCE : Q.D := .int 5
def K_MOST_KINDS : Q.D := .int 30
def K_WORDS : Q.D := .tup [.str "all", .str "many", .str "more", .str "some"]
def K_MOST_PARTS : Q.D := .int 40
def K_MOST_ENTRIES : Q.D := .int 150
/-- the free names, the constants -/
structure Fr (mg : Str → Option Value) (K : PySem.W.Frag) : Prop where
  len : mg "len" = none
  isinstance : mg "isinstance" = none
  int : mg "int" = none
  bool : mg "bool" = none
  str : mg "str" = none
  tuple : mg "tuple" = none
  list : mg "list" = none
  all : mg "all" = none
  sorted : mg "sorted" = none
  range : mg "range" = none
  zip : mg "zip" = none
  abs : mg "abs" = none
  MOST_SIGNS : GCm mg K "MOST_SIGNS" K_MOST_SIGNS
  MOST_SOURCE : GCm mg K "MOST_SOURCE" K_MOST_SOURCE
  MOST_KINDS : GCm mg K "MOST_KINDS" K_MOST_KINDS
  WORDS : GCm mg K "WORDS" K_WORDS
  MOST_PARTS : GCm mg K "MOST_PARTS" K_MOST_PARTS
  MOST_ENTRIES : GCm mg K "MOST_ENTRIES" K_MOST_ENTRIES

/-! ### is_integer (level 1) -/
abbrev s_is_integer : Stmt := top 8
abbrev N_is_integer : List Str := ["value"]
abbrev P_is_integer : List Str := ["value"]
theorem sc_is_integer : FnScope N_is_integer P_is_integer (defScope s_is_integer) := ⟨rfl, rfl, rfl, by decide +kernel, rfl, by decide +kernel, by decide +kernel⟩
noncomputable def m_is_integer : MS :=
  (sCons (sRet (eAnd (eIsi "int" (eVar 0)) (eNot (eIsi "bool" (eVar 0)))))
  sNil)
noncomputable def f_is_integer : List Q.D → AH → Res Q.D := fnR true P_is_integer.length N_is_integer.length m_is_integer

/-! ### is_bit (level 1) -/
abbrev s_is_bit : Stmt := top 9
abbrev N_is_bit : List Str := ["value"]
abbrev P_is_bit : List Str := ["value"]
theorem sc_is_bit : FnScope N_is_bit P_is_bit (defScope s_is_bit) := ⟨rfl, rfl, rfl, by decide +kernel, rfl, by decide +kernel, by decide +kernel⟩
noncomputable def m_is_bit : MS :=
  (sCons (sRet (eIsi "bool" (eVar 0)))
  sNil)
noncomputable def f_is_bit : List Q.D → AH → Res Q.D := fnR true P_is_bit.length N_is_bit.length m_is_bit

/-! ### is_from_to (level 2) -/
abbrev s_is_from_to : Stmt := top 10
abbrev N_is_from_to : List Str := ["value", "least", "most"]
abbrev P_is_from_to : List Str := ["value", "least", "most"]
theorem sc_is_from_to : FnScope N_is_from_to P_is_from_to (defScope s_is_from_to) := ⟨rfl, rfl, rfl, by decide +kernel, rfl, by decide +kernel, by decide +kernel⟩
noncomputable def m_is_from_to : MS :=
  (sCons (sRet (eAnd (eFn f_is_integer [] (aCons (eVar 0) aNil)) (eChain dLe dLe (eVar 1) (eVar 0) (eVar 2))))
  sNil)
noncomputable def f_is_from_to : List Q.D → AH → Res Q.D := fnR true P_is_from_to.length N_is_from_to.length m_is_from_to

/-! ### is_tuple_of (level 1) -/
abbrev s_is_tuple_of : Stmt := top 11
abbrev N_is_tuple_of : List Str := ["value", "least", "most"]
abbrev P_is_tuple_of : List Str := ["value", "least", "most"]
theorem sc_is_tuple_of : FnScope N_is_tuple_of P_is_tuple_of (defScope s_is_tuple_of) := ⟨rfl, rfl, rfl, by decide +kernel, rfl, by decide +kernel, by decide +kernel⟩
noncomputable def m_is_tuple_of : MS :=
  (sCons (sRet (eAnd (eIsi "tuple" (eVar 0)) (eChain dLe dLe (eVar 1) (eCall gLen (aCons (eVar 0) aNil)) (eVar 2))))
  sNil)
noncomputable def f_is_tuple_of : List Q.D → AH → Res Q.D := fnR true P_is_tuple_of.length N_is_tuple_of.length m_is_tuple_of

/-! ### is_ascending (level 1) -/
abbrev s_is_ascending : Stmt := top 12
abbrev N_is_ascending : List Str := ["rows", "at"]
abbrev P_is_ascending : List Str := ["rows"]
theorem sc_is_ascending : FnScope N_is_ascending P_is_ascending (defScope s_is_ascending) := ⟨rfl, rfl, rfl, by decide +kernel, rfl, by decide +kernel, by decide +kernel⟩
noncomputable def m_is_ascending : MS :=
  (sCons (sRet (eCall gAll (aCons (eLc (iRange1 (eOp dSub (eCall gLen (aCons (eVar 0) aNil)) (eC (.int 1)))) (gSlot 1) tYesM (eOp dLt (eOp dIx (eVar 0) (eVar 1)) (eOp dIx (eVar 0) (eOp dPlus (eVar 1) (eC (.int 1))))) [1]) aNil)))
  sNil)
noncomputable def f_is_ascending : List Q.D → AH → Res Q.D := fnR true P_is_ascending.length N_is_ascending.length m_is_ascending

/-! ### without_doubles (level 1) -/
abbrev s_without_doubles : Stmt := top 13
abbrev N_without_doubles : List Str := ["rows", "found", "row"]
abbrev P_without_doubles : List Str := ["rows"]
theorem sc_without_doubles : FnScope N_without_doubles P_without_doubles (defScope s_without_doubles) := ⟨rfl, rfl, rfl, by decide +kernel, rfl, by decide +kernel, by decide +kernel⟩
noncomputable def b_without_doubles_1 : MS :=
  (sCons (sAsg (eC (.bl true)) (gSubD dSet (eVar 1) (eVar 2)))
  sNil)
noncomputable def m_without_doubles : MS :=
  (sCons (sAsg eNewT (gSlot 1))
  (sCons (sFor (iSeq (eVar 0)) (gSlot 2) b_without_doubles_1)
  (sCons (sRet (eCall gListF (aCons (eVar 1) aNil)))
  sNil)))
noncomputable def f_without_doubles : List Q.D → AH → Res Q.D := fnR true P_without_doubles.length N_without_doubles.length m_without_doubles

/-! ### is_kind (level 1) -/
abbrev s_is_kind : Stmt := top 14
abbrev N_is_kind : List Str := ["value", "sign"]
abbrev P_is_kind : List Str := ["value"]
theorem sc_is_kind : FnScope N_is_kind P_is_kind (defScope s_is_kind) := ⟨rfl, rfl, rfl, by decide +kernel, rfl, by decide +kernel, by decide +kernel⟩
noncomputable def m_is_kind : MS :=
  (sCons (sIf (tOrM (tNotM (mB (eIsi "str" (eVar 0)))) (tNotM (mB (eChain dLe dLe (eC (.int 1)) (eCall gLen (aCons (eVar 0) aNil)) (eC K_MOST_SIGNS))))) (sCons (sRet (eC (.bl false)))
  sNil) sNil)
  (sCons (sRet (eAnd (eChain dLe dLe (eC (.str "a")) (eOp dIx (eVar 0) (eC (.int 0))) (eC (.str "z"))) (eCall gAll (aCons (eLc (iSeq (eVar 0)) (gSlot 1) tYesM (eOr (eChain dLe dLe (eC (.str "a")) (eVar 1) (eC (.str "z"))) (eChain dLe dLe (eC (.str "0")) (eVar 1) (eC (.str "9")))) [1]) aNil))))
  sNil))
noncomputable def f_is_kind : List Q.D → AH → Res Q.D := fnR true P_is_kind.length N_is_kind.length m_is_kind

/-! ### is_source (level 3) -/
abbrev s_is_source : Stmt := top 15
abbrev N_is_source : List Str := ["value"]
abbrev P_is_source : List Str := ["value"]
theorem sc_is_source : FnScope N_is_source P_is_source (defScope s_is_source) := ⟨rfl, rfl, rfl, by decide +kernel, rfl, by decide +kernel, by decide +kernel⟩
noncomputable def m_is_source : MS :=
  (sCons (sRet (eFn f_is_from_to [] (aCons (eVar 0) (aCons (eC (.int 0)) (aCons (eC K_MOST_SOURCE) aNil)))))
  sNil)
noncomputable def f_is_source : List Q.D → AH → Res Q.D := fnR true P_is_source.length N_is_source.length m_is_source

/-! ### is_kind_row (level 2) -/
abbrev s_is_kind_row : Stmt := top 16
abbrev N_is_kind_row : List Str := ["value", "least", "one"]
abbrev P_is_kind_row : List Str := ["value", "least"]
theorem sc_is_kind_row : FnScope N_is_kind_row P_is_kind_row (defScope s_is_kind_row) := ⟨rfl, rfl, rfl, by decide +kernel, rfl, by decide +kernel, by decide +kernel⟩
noncomputable def m_is_kind_row : MS :=
  (sCons (sRet (eAnd (eFn f_is_tuple_of [] (aCons (eVar 0) (aCons (eVar 1) (aCons (eC K_MOST_KINDS) aNil)))) (eAnd (eCall gAll (aCons (eLc (iSeq (eVar 0)) (gSlot 2) tYesM (eFn f_is_kind [] (aCons (eVar 2) aNil)) [2]) aNil)) (eFn f_is_ascending [] (aCons (eVar 0) aNil)))))
  sNil)
noncomputable def f_is_kind_row : List Q.D → AH → Res Q.D := fnR true P_is_kind_row.length N_is_kind_row.length m_is_kind_row

/-! ### is_kinds (level 3) -/
abbrev s_is_kinds : Stmt := top 17
abbrev N_is_kinds : List Str := ["value"]
abbrev P_is_kinds : List Str := ["value"]
theorem sc_is_kinds : FnScope N_is_kinds P_is_kinds (defScope s_is_kinds) := ⟨rfl, rfl, rfl, by decide +kernel, rfl, by decide +kernel, by decide +kernel⟩
noncomputable def m_is_kinds : MS :=
  (sCons (sRet (eFn f_is_kind_row [] (aCons (eVar 0) (aCons (eC (.int 1)) aNil))))
  sNil)
noncomputable def f_is_kinds : List Q.D → AH → Res Q.D := fnR true P_is_kinds.length N_is_kinds.length m_is_kinds

/-! ### is_free_term (level 2) -/
abbrev s_is_free_term : Stmt := top 18
abbrev N_is_free_term : List Str := ["value"]
abbrev P_is_free_term : List Str := ["value"]
theorem sc_is_free_term : FnScope N_is_free_term P_is_free_term (defScope s_is_free_term) := ⟨rfl, rfl, rfl, by decide +kernel, rfl, by decide +kernel, by decide +kernel⟩
noncomputable def m_is_free_term : MS :=
  (sCons (sRet (eAnd (eFn f_is_tuple_of [] (aCons (eVar 0) (aCons (eC (.int 2)) (aCons (eC (.int 2)) aNil)))) (eAnd (eFn f_is_kind [] (aCons (eOp dIx (eVar 0) (eC (.int 0))) aNil)) (eFn f_is_bit [] (aCons (eOp dIx (eVar 0) (eC (.int 1))) aNil)))))
  sNil)
noncomputable def f_is_free_term : List Q.D → AH → Res Q.D := fnR true P_is_free_term.length N_is_free_term.length m_is_free_term

/-! ### is_term_over (level 2) -/
abbrev s_is_term_over : Stmt := top 19
abbrev N_is_term_over : List Str := ["kinds", "value"]
abbrev P_is_term_over : List Str := ["kinds", "value"]
theorem sc_is_term_over : FnScope N_is_term_over P_is_term_over (defScope s_is_term_over) := ⟨rfl, rfl, rfl, by decide +kernel, rfl, by decide +kernel, by decide +kernel⟩
noncomputable def m_is_term_over : MS :=
  (sCons (sRet (eAnd (eFn f_is_tuple_of [] (aCons (eVar 1) (aCons (eC (.int 2)) (aCons (eC (.int 2)) aNil)))) (eAnd (eIsi "str" (eOp dIx (eVar 1) (eC (.int 0)))) (eAnd (eOp (dIn false) (eOp dIx (eVar 1) (eC (.int 0))) (eVar 0)) (eFn f_is_bit [] (aCons (eOp dIx (eVar 1) (eC (.int 1))) aNil))))))
  sNil)
noncomputable def f_is_term_over : List Q.D → AH → Res Q.D := fnR true P_is_term_over.length N_is_term_over.length m_is_term_over

/-! ### check_kinds (level 4) -/
abbrev s_check_kinds : Stmt := top 20
abbrev N_check_kinds : List Str := ["kinds", "name"]
abbrev P_check_kinds : List Str := ["kinds", "name"]
theorem sc_check_kinds : FnScope N_check_kinds P_check_kinds (defScope s_check_kinds) := ⟨rfl, rfl, rfl, by decide +kernel, rfl, by decide +kernel, by decide +kernel⟩
noncomputable def m_check_kinds : MS :=
  (sCons (sIf (tNotM (mB (eFn f_is_kinds [] (aCons (eVar 0) aNil)))) (sCons sNever
  sNil) sNil)
  sNil)
noncomputable def f_check_kinds : List Q.D → AH → Res Q.D := fnR true P_check_kinds.length N_check_kinds.length m_check_kinds

/-! ### flip (level 1) -/
abbrev s_flip : Stmt := top 21
abbrev N_flip : List Str := ["term"]
abbrev P_flip : List Str := ["term"]
theorem sc_flip : FnScope N_flip P_flip (defScope s_flip) := ⟨rfl, rfl, rfl, by decide +kernel, rfl, by decide +kernel, by decide +kernel⟩
noncomputable def m_flip : MS :=
  (sCons (sRet (eTup (aCons (eOp dIx (eVar 0) (eC (.int 0))) (aCons (eNot (eOp dIx (eVar 0) (eC (.int 1)))) aNil))))
  sNil)
noncomputable def f_flip : List Q.D → AH → Res Q.D := fnR true P_flip.length N_flip.length m_flip

/-! ### is_word_and (level 2) -/
abbrev s_is_word_and : Stmt := top 25
abbrev N_is_word_and : List Str := ["value", "size"]
abbrev P_is_word_and : List Str := ["value", "size"]
theorem sc_is_word_and : FnScope N_is_word_and P_is_word_and (defScope s_is_word_and) := ⟨rfl, rfl, rfl, by decide +kernel, rfl, by decide +kernel, by decide +kernel⟩
noncomputable def m_is_word_and : MS :=
  (sCons (sRet (eAnd (eFn f_is_tuple_of [] (aCons (eVar 0) (aCons (eVar 1) (aCons (eVar 1) aNil)))) (eAnd (eIsi "str" (eOp dIx (eVar 0) (eC (.int 0)))) (eOp (dIn false) (eOp dIx (eVar 0) (eC (.int 0))) (eC K_WORDS)))))
  sNil)
noncomputable def f_is_word_and : List Q.D → AH → Res Q.D := fnR true P_is_word_and.length N_is_word_and.length m_is_word_and

/-! ### is_free_sentence (level 3) -/
abbrev s_is_free_sentence : Stmt := top 26
abbrev N_is_free_sentence : List Str := ["value"]
abbrev P_is_free_sentence : List Str := ["value"]
theorem sc_is_free_sentence : FnScope N_is_free_sentence P_is_free_sentence (defScope s_is_free_sentence) := ⟨rfl, rfl, rfl, by decide +kernel, rfl, by decide +kernel, by decide +kernel⟩
noncomputable def m_is_free_sentence : MS :=
  (sCons (sRet (eAnd (eFn f_is_word_and [] (aCons (eVar 0) (aCons (eC (.int 3)) aNil))) (eAnd (eFn f_is_free_term [] (aCons (eOp dIx (eVar 0) (eC (.int 1))) aNil)) (eFn f_is_free_term [] (aCons (eOp dIx (eVar 0) (eC (.int 2))) aNil)))))
  sNil)
noncomputable def f_is_free_sentence : List Q.D → AH → Res Q.D := fnR true P_is_free_sentence.length N_is_free_sentence.length m_is_free_sentence

/-! ### is_sentence_over (level 3) -/
abbrev s_is_sentence_over : Stmt := top 27
abbrev N_is_sentence_over : List Str := ["kinds", "value"]
abbrev P_is_sentence_over : List Str := ["kinds", "value"]
theorem sc_is_sentence_over : FnScope N_is_sentence_over P_is_sentence_over (defScope s_is_sentence_over) := ⟨rfl, rfl, rfl, by decide +kernel, rfl, by decide +kernel, by decide +kernel⟩
noncomputable def m_is_sentence_over : MS :=
  (sCons (sRet (eAnd (eFn f_is_word_and [] (aCons (eVar 1) (aCons (eC (.int 3)) aNil))) (eAnd (eFn f_is_term_over [] (aCons (eVar 0) (aCons (eOp dIx (eVar 1) (eC (.int 1))) aNil))) (eFn f_is_term_over [] (aCons (eVar 0) (aCons (eOp dIx (eVar 1) (eC (.int 2))) aNil))))))
  sNil)
noncomputable def f_is_sentence_over : List Q.D → AH → Res Q.D := fnR true P_is_sentence_over.length N_is_sentence_over.length m_is_sentence_over

/-! ### is_question_over (level 4) -/
abbrev s_is_question_over : Stmt := top 28
abbrev N_is_question_over : List Str := ["kinds", "value", "one"]
abbrev P_is_question_over : List Str := ["kinds", "value"]
theorem sc_is_question_over : FnScope N_is_question_over P_is_question_over (defScope s_is_question_over) := ⟨rfl, rfl, rfl, by decide +kernel, rfl, by decide +kernel, by decide +kernel⟩
noncomputable def m_is_question_over : MS :=
  (sCons (sIf (mB (eFn f_is_sentence_over [] (aCons (eVar 0) (aCons (eVar 1) aNil)))) (sCons (sRet (eC (.bl true)))
  sNil) sNil)
  (sCons (sRet (eAnd (eFn f_is_tuple_of [] (aCons (eVar 1) (aCons (eC (.int 1)) (aCons (eC K_MOST_PARTS) aNil)))) (eCall gAll (aCons (eLc (iSeq (eVar 1)) (gSlot 2) tYesM (eFn f_is_sentence_over [] (aCons (eVar 0) (aCons (eVar 2) aNil))) [2]) aNil))))
  sNil))
noncomputable def f_is_question_over : List Q.D → AH → Res Q.D := fnR true P_is_question_over.length N_is_question_over.length m_is_question_over

/-! ### check_question (level 5) -/
abbrev s_check_question : Stmt := top 29
abbrev N_check_question : List Str := ["kinds", "question", "name"]
abbrev P_check_question : List Str := ["kinds", "question", "name"]
theorem sc_check_question : FnScope N_check_question P_check_question (defScope s_check_question) := ⟨rfl, rfl, rfl, by decide +kernel, rfl, by decide +kernel, by decide +kernel⟩
noncomputable def m_check_question : MS :=
  (sCons (sIf (tNotM (mB (eFn f_is_question_over [] (aCons (eVar 0) (aCons (eVar 1) aNil))))) (sCons sNever
  sNil) sNil)
  sNil)
noncomputable def f_check_question : List Q.D → AH → Res Q.D := fnR true P_check_question.length N_check_question.length m_check_question

/-! ### is_question (level 5) -/
abbrev s_is_question : Stmt := top 30
abbrev N_is_question : List Str := ["kinds", "value"]
abbrev P_is_question : List Str := ["kinds", "value"]
theorem sc_is_question : FnScope N_is_question P_is_question (defScope s_is_question) := ⟨rfl, rfl, rfl, by decide +kernel, rfl, by decide +kernel, by decide +kernel⟩
noncomputable def m_is_question : MS :=
  (sCons (sExpr (eFn f_check_kinds [.str "kinds"] (aCons (eVar 0) aNil)))
  (sCons (sRet (eFn f_is_question_over [] (aCons (eVar 0) (aCons (eVar 1) aNil))))
  sNil))
noncomputable def f_is_question : List Q.D → AH → Res Q.D := fnR true P_is_question.length N_is_question.length m_is_question

/-! ### contrary_of (level 2) -/
abbrev s_contrary_of : Stmt := top 31
abbrev N_contrary_of : List Str := ["sentence", "word", "a", "b"]
abbrev P_contrary_of : List Str := ["sentence"]
theorem sc_contrary_of : FnScope N_contrary_of P_contrary_of (defScope s_contrary_of) := ⟨rfl, rfl, rfl, by decide +kernel, rfl, by decide +kernel, by decide +kernel⟩
noncomputable def m_contrary_of : MS :=
  (sCons (sAsg (eVar 0) (gTupD 3 (gsCons (gSlot 1) (gsCons (gSlot 2) (gsCons (gSlot 3) gsNil)))))
  (sCons (sIf (mB (eOp dEq (eVar 1) (eC (.str "all")))) (sCons (sRet (eTup (aCons (eC (.str "some")) (aCons (eVar 2) (aCons (eFn f_flip [] (aCons (eVar 3) aNil)) aNil)))))
  sNil) sNil)
  (sCons (sIf (mB (eOp dEq (eVar 1) (eC (.str "some")))) (sCons (sRet (eTup (aCons (eC (.str "all")) (aCons (eVar 2) (aCons (eFn f_flip [] (aCons (eVar 3) aNil)) aNil)))))
  sNil) sNil)
  (sCons (sRet (eTup (aCons (eIf (mB (eOp dEq (eVar 1) (eC (.str "more")))) (eC (.str "many")) (eC (.str "more"))) (aCons (eVar 3) (aCons (eVar 2) aNil)))))
  sNil))))
noncomputable def f_contrary_of : List Q.D → AH → Res Q.D := fnR true P_contrary_of.length N_contrary_of.length m_contrary_of

/-! ### mirror_of (level 2) -/
abbrev s_mirror_of : Stmt := top 32
abbrev N_mirror_of : List Str := ["sentence", "word", "a", "b"]
abbrev P_mirror_of : List Str := ["sentence"]
theorem sc_mirror_of : FnScope N_mirror_of P_mirror_of (defScope s_mirror_of) := ⟨rfl, rfl, rfl, by decide +kernel, rfl, by decide +kernel, by decide +kernel⟩
noncomputable def m_mirror_of : MS :=
  (sCons (sAsg (eVar 0) (gTupD 3 (gsCons (gSlot 1) (gsCons (gSlot 2) (gsCons (gSlot 3) gsNil)))))
  (sCons (sRet (eIf (mB (eOp dEq (eVar 1) (eC (.str "some")))) (eTup (aCons (eVar 1) (aCons (eVar 3) (aCons (eVar 2) aNil)))) (eTup (aCons (eVar 1) (aCons (eFn f_flip [] (aCons (eVar 3) aNil)) (aCons (eFn f_flip [] (aCons (eVar 2) aNil)) aNil))))))
  sNil))
noncomputable def f_mirror_of : List Q.D → AH → Res Q.D := fnR true P_mirror_of.length N_mirror_of.length m_mirror_of

/-! ### check_free (level 4) -/
abbrev s_check_free : Stmt := top 33
abbrev N_check_free : List Str := ["sentence"]
abbrev P_check_free : List Str := ["sentence"]
theorem sc_check_free : FnScope N_check_free P_check_free (defScope s_check_free) := ⟨rfl, rfl, rfl, by decide +kernel, rfl, by decide +kernel, by decide +kernel⟩
noncomputable def m_check_free : MS :=
  (sCons (sIf (tNotM (mB (eFn f_is_free_sentence [] (aCons (eVar 0) aNil)))) (sCons sNever
  sNil) sNil)
  sNil)
noncomputable def f_check_free : List Q.D → AH → Res Q.D := fnR true P_check_free.length N_check_free.length m_check_free

/-! ### contrary (level 5) -/
abbrev s_contrary : Stmt := top 34
abbrev N_contrary : List Str := ["sentence"]
abbrev P_contrary : List Str := ["sentence"]
theorem sc_contrary : FnScope N_contrary P_contrary (defScope s_contrary) := ⟨rfl, rfl, rfl, by decide +kernel, rfl, by decide +kernel, by decide +kernel⟩
noncomputable def m_contrary : MS :=
  (sCons (sExpr (eFn f_check_free [] (aCons (eVar 0) aNil)))
  (sCons (sRet (eFn f_contrary_of [] (aCons (eVar 0) aNil)))
  sNil))
noncomputable def f_contrary : List Q.D → AH → Res Q.D := fnR true P_contrary.length N_contrary.length m_contrary

/-! ### mirror (level 5) -/
abbrev s_mirror : Stmt := top 35
abbrev N_mirror : List Str := ["sentence"]
abbrev P_mirror : List Str := ["sentence"]
theorem sc_mirror : FnScope N_mirror P_mirror (defScope s_mirror) := ⟨rfl, rfl, rfl, by decide +kernel, rfl, by decide +kernel, by decide +kernel⟩
noncomputable def m_mirror : MS :=
  (sCons (sExpr (eFn f_check_free [] (aCons (eVar 0) aNil)))
  (sCons (sRet (eFn f_mirror_of [] (aCons (eVar 0) aNil)))
  sNil))
noncomputable def f_mirror : List Q.D → AH → Res Q.D := fnR true P_mirror.length N_mirror.length m_mirror

/-! ### always_holds (level 1) -/
abbrev s_always_holds : Stmt := top 36
abbrev N_always_holds : List Str := ["sentence"]
abbrev P_always_holds : List Str := ["sentence"]
theorem sc_always_holds : FnScope N_always_holds P_always_holds (defScope s_always_holds) := ⟨rfl, rfl, rfl, by decide +kernel, rfl, by decide +kernel, by decide +kernel⟩
noncomputable def m_always_holds : MS :=
  (sCons (sRet (eAnd (eOp dEq (eOp dIx (eVar 0) (eC (.int 1))) (eOp dIx (eVar 0) (eC (.int 2)))) (eOr (eOp dEq (eOp dIx (eVar 0) (eC (.int 0))) (eC (.str "all"))) (eOp dEq (eOp dIx (eVar 0) (eC (.int 0))) (eC (.str "many"))))))
  sNil)
noncomputable def f_always_holds : List Q.D → AH → Res Q.D := fnR true P_always_holds.length N_always_holds.length m_always_holds

/-! ### by_itself (level 5) -/
abbrev s_by_itself : Stmt := top 37
abbrev N_by_itself : List Str := ["sentence"]
abbrev P_by_itself : List Str := ["sentence"]
theorem sc_by_itself : FnScope N_by_itself P_by_itself (defScope s_by_itself) := ⟨rfl, rfl, rfl, by decide +kernel, rfl, by decide +kernel, by decide +kernel⟩
noncomputable def m_by_itself : MS :=
  (sCons (sExpr (eFn f_check_free [] (aCons (eVar 0) aNil)))
  (sCons (sIf (mB (eFn f_always_holds [] (aCons (eVar 0) aNil))) (sCons (sRet (eC (.str "always")))
  sNil) sNil)
  (sCons (sRet (eIf (mB (eFn f_always_holds [] (aCons (eFn f_contrary_of [] (aCons (eVar 0) aNil)) aNil))) (eC (.str "never")) (eC (.str "open"))))
  sNil)))
noncomputable def f_by_itself : List Q.D → AH → Res Q.D := fnR true P_by_itself.length N_by_itself.length m_by_itself

/-! ### is_entry (level 4) -/
abbrev s_is_entry : Stmt := top 40
abbrev N_is_entry : List Str := ["kinds", "value"]
abbrev P_is_entry : List Str := ["kinds", "value"]
theorem sc_is_entry : FnScope N_is_entry P_is_entry (defScope s_is_entry) := ⟨rfl, rfl, rfl, by decide +kernel, rfl, by decide +kernel, by decide +kernel⟩
noncomputable def m_is_entry : MS :=
  (sCons (sRet (eAnd (eFn f_is_tuple_of [] (aCons (eVar 1) (aCons (eC (.int 2)) (aCons (eC (.int 2)) aNil)))) (eAnd (eFn f_is_source [] (aCons (eOp dIx (eVar 1) (eC (.int 0))) aNil)) (eFn f_is_sentence_over [] (aCons (eVar 0) (aCons (eOp dIx (eVar 1) (eC (.int 1))) aNil))))))
  sNil)
noncomputable def f_is_entry : List Q.D → AH → Res Q.D := fnR true P_is_entry.length N_is_entry.length m_is_entry

/-! ### is_book (level 5) -/
abbrev s_is_book : Stmt := top 41
abbrev N_is_book : List Str := ["value", "kinds", "entries", "entry"]
abbrev P_is_book : List Str := ["value"]
theorem sc_is_book : FnScope N_is_book P_is_book (defScope s_is_book) := ⟨rfl, rfl, rfl, by decide +kernel, rfl, by decide +kernel, by decide +kernel⟩
noncomputable def m_is_book : MS :=
  (sCons (sIf (tOrM (tNotM (mB (eFn f_is_tuple_of [] (aCons (eVar 0) (aCons (eC (.int 2)) (aCons (eC (.int 2)) aNil)))))) (tNotM (mB (eFn f_is_kinds [] (aCons (eOp dIx (eVar 0) (eC (.int 0))) aNil))))) (sCons (sRet (eC (.bl false)))
  sNil) sNil)
  (sCons (sAsg (eVar 0) (gTupD 2 (gsCons (gSlot 1) (gsCons (gSlot 2) gsNil))))
  (sCons (sIf (tOrM (tNotM (mB (eFn f_is_tuple_of [] (aCons (eVar 2) (aCons (eC (.int 0)) (aCons (eC K_MOST_ENTRIES) aNil)))))) (tNotM (mB (eCall gAll (aCons (eLc (iSeq (eVar 2)) (gSlot 3) tYesM (eFn f_is_entry [] (aCons (eVar 1) (aCons (eVar 3) aNil))) [3]) aNil))))) (sCons (sRet (eC (.bl false)))
  sNil) sNil)
  (sCons (sRet (eOp dEq (eCall gLen (aCons (eFn f_without_doubles [] (aCons (eVar 2) aNil)) aNil)) (eCall gLen (aCons (eVar 2) aNil))))
  sNil))))
noncomputable def f_is_book : List Q.D → AH → Res Q.D := fnR true P_is_book.length N_is_book.length m_is_book

/-! ### check_book (level 6) -/
abbrev s_check_book : Stmt := top 42
abbrev N_check_book : List Str := ["book", "name"]
abbrev P_check_book : List Str := ["book", "name"]
theorem sc_check_book : FnScope N_check_book P_check_book (defScope s_check_book) := ⟨rfl, rfl, rfl, by decide +kernel, rfl, by decide +kernel, by decide +kernel⟩
noncomputable def m_check_book : MS :=
  (sCons (sIf (tNotM (mB (eFn f_is_book [] (aCons (eVar 0) aNil)))) (sCons sNever
  sNil) sNil)
  sNil)
noncomputable def f_check_book : List Q.D → AH → Res Q.D := fnR true P_check_book.length N_check_book.length m_check_book

/-! ### made_book (level 2) -/
abbrev s_made_book : Stmt := top 43
abbrev N_made_book : List Str := ["kinds", "entries", "found"]
abbrev P_made_book : List Str := ["kinds", "entries"]
theorem sc_made_book : FnScope N_made_book P_made_book (defScope s_made_book) := ⟨rfl, rfl, rfl, by decide +kernel, rfl, by decide +kernel, by decide +kernel⟩
noncomputable def m_made_book : MS :=
  (sCons (sAsg (eCall gTuple (aCons (eFn f_without_doubles [] (aCons (eVar 1) aNil)) aNil)) (gSlot 2))
  (sCons (sIf (mB (eOp dGt (eCall gLen (aCons (eVar 2) aNil)) (eC K_MOST_ENTRIES))) (sCons sNever
  sNil) sNil)
  (sCons (sRet (eTup (aCons (eVar 0) (aCons (eVar 2) aNil))))
  sNil)))
noncomputable def f_made_book : List Q.D → AH → Res Q.D := fnR true P_made_book.length N_made_book.length m_made_book

/-! ### check_terms (level 3) -/
abbrev s_check_terms : Stmt := top 45
abbrev N_check_terms : List Str := ["kinds", "others", "terms", "term"]
abbrev P_check_terms : List Str := ["kinds", "others", "terms"]
theorem sc_check_terms : FnScope N_check_terms P_check_terms (defScope s_check_terms) := ⟨rfl, rfl, rfl, by decide +kernel, rfl, by decide +kernel, by decide +kernel⟩
noncomputable def m_check_terms : MS :=
  (sCons (sIf (tOrM (tNotM (mB (eFn f_is_tuple_of [] (aCons (eVar 2) (aCons (eCall gLen (aCons (eVar 0) aNil)) (aCons (eCall gLen (aCons (eVar 0) aNil)) aNil)))))) (tNotM (mB (eCall gAll (aCons (eLc (iSeq (eVar 2)) (gSlot 3) tYesM (eFn f_is_term_over [] (aCons (eVar 1) (aCons (eVar 3) aNil))) [3]) aNil))))) (sCons sNever
  sNil) sNil)
  sNil)
noncomputable def f_check_terms : List Q.D → AH → Res Q.D := fnR true P_check_terms.length N_check_terms.length m_check_terms

/-! ### table_of (level 2) -/
abbrev s_table_of : Stmt := top 46
abbrev N_table_of : List Str := ["kinds", "terms", "table", "kind", "term"]
abbrev P_table_of : List Str := ["kinds", "terms"]
theorem sc_table_of : FnScope N_table_of P_table_of (defScope s_table_of) := ⟨rfl, rfl, rfl, by decide +kernel, rfl, by decide +kernel, by decide +kernel⟩
noncomputable def b_table_of_1 : MS :=
  (sCons (sAsg (eVar 4) (gSubD dSet (eVar 2) (eTup (aCons (eVar 3) (aCons (eC (.bl true)) aNil)))))
  (sCons (sAsg (eFn f_flip [] (aCons (eVar 4) aNil)) (gSubD dSet (eVar 2) (eTup (aCons (eVar 3) (aCons (eC (.bl false)) aNil)))))
  sNil))
noncomputable def m_table_of : MS :=
  (sCons (sAsg eNewT (gSlot 2))
  (sCons (sFor (iZip (eVar 0) (eVar 1)) (gTupD 2 (gsCons (gSlot 3) (gsCons (gSlot 4) gsNil))) b_table_of_1)
  (sCons (sRet (eVar 2))
  sNil)))
noncomputable def f_table_of : List Q.D → AH → Res Q.D := fnR true P_table_of.length N_table_of.length m_table_of

/-! ### translated_by (level 1) -/
abbrev s_translated_by : Stmt := top 47
abbrev N_translated_by : List Str := ["table", "question", "word", "a", "b"]
abbrev P_translated_by : List Str := ["table", "question"]
theorem sc_translated_by : FnScope N_translated_by P_translated_by (defScope s_translated_by) := ⟨rfl, rfl, rfl, by decide +kernel, rfl, by decide +kernel, by decide +kernel⟩
noncomputable def m_translated_by : MS :=
  (sCons (sIf (mB (eIsi "str" (eOp dIx (eVar 1) (eC (.int 0))))) (sCons (sRet (eTup (aCons (eOp dIx (eVar 1) (eC (.int 0))) (aCons (eOp dIx (eVar 0) (eOp dIx (eVar 1) (eC (.int 1)))) (aCons (eOp dIx (eVar 0) (eOp dIx (eVar 1) (eC (.int 2)))) aNil)))))
  sNil) sNil)
  (sCons (sRet (eCall gTuple (aCons (eLc (iSeq (eVar 1)) (gTupD 3 (gsCons (gSlot 2) (gsCons (gSlot 3) (gsCons (gSlot 4) gsNil)))) tYesM (eTup (aCons (eVar 2) (aCons (eOp dIx (eVar 0) (eVar 3)) (aCons (eOp dIx (eVar 0) (eVar 4)) aNil)))) [2, 3, 4]) aNil)))
  sNil))
noncomputable def f_translated_by : List Q.D → AH → Res Q.D := fnR true P_translated_by.length N_translated_by.length m_translated_by

/-! ### translated (level 6) -/
abbrev s_translated : Stmt := top 48
abbrev N_translated : List Str := ["kinds", "others", "terms", "question"]
abbrev P_translated : List Str := ["kinds", "others", "terms", "question"]
theorem sc_translated : FnScope N_translated P_translated (defScope s_translated) := ⟨rfl, rfl, rfl, by decide +kernel, rfl, by decide +kernel, by decide +kernel⟩
noncomputable def m_translated : MS :=
  (sCons (sExpr (eFn f_check_kinds [.str "kinds"] (aCons (eVar 0) aNil)))
  (sCons (sExpr (eFn f_check_kinds [] (aCons (eVar 1) (aCons (eC (.str "others")) aNil))))
  (sCons (sExpr (eFn f_check_terms [] (aCons (eVar 0) (aCons (eVar 1) (aCons (eVar 2) aNil)))))
  (sCons (sExpr (eFn f_check_question [.str "question"] (aCons (eVar 0) (aCons (eVar 3) aNil))))
  (sCons (sRet (eFn f_translated_by [] (aCons (eFn f_table_of [] (aCons (eVar 0) (aCons (eVar 2) aNil))) (aCons (eVar 3) aNil))))
  sNil)))))
noncomputable def f_translated : List Q.D → AH → Res Q.D := fnR true P_translated.length N_translated.length m_translated

/-! ### translated_book (level 7) -/
abbrev s_translated_book : Stmt := top 49
abbrev N_translated_book : List Str := ["book", "others", "terms", "table", "source", "sentence"]
abbrev P_translated_book : List Str := ["book", "others", "terms"]
theorem sc_translated_book : FnScope N_translated_book P_translated_book (defScope s_translated_book) := ⟨rfl, rfl, rfl, by decide +kernel, rfl, by decide +kernel, by decide +kernel⟩
noncomputable def m_translated_book : MS :=
  (sCons (sExpr (eFn f_check_book [.str "book"] (aCons (eVar 0) aNil)))
  (sCons (sExpr (eFn f_check_kinds [] (aCons (eVar 1) (aCons (eC (.str "others")) aNil))))
  (sCons (sExpr (eFn f_check_terms [] (aCons (eOp dIx (eVar 0) (eC (.int 0))) (aCons (eVar 1) (aCons (eVar 2) aNil)))))
  (sCons (sAsg (eFn f_table_of [] (aCons (eOp dIx (eVar 0) (eC (.int 0))) (aCons (eVar 2) aNil))) (gSlot 3))
  (sCons (sRet (eFn f_made_book [] (aCons (eVar 1) (aCons (eLc (iSeq (eOp dIx (eVar 0) (eC (.int 1)))) (gTupD 2 (gsCons (gSlot 4) (gsCons (gSlot 5) gsNil))) tYesM (eTup (aCons (eVar 4) (aCons (eFn f_translated_by [] (aCons (eVar 3) (aCons (eVar 5) aNil))) aNil))) [4, 5]) aNil))))
  sNil)))))
noncomputable def f_translated_book : List Q.D → AH → Res Q.D := fnR true P_translated_book.length N_translated_book.length m_translated_book

/-! ### _law_stream (level 1) -/
abbrev s_n__law_stream : Stmt := top 51
abbrev N_n__law_stream : List Str := ["script"]
abbrev P_n__law_stream : List Str := ["script"]
theorem sc_n__law_stream : FnScope N_n__law_stream P_n__law_stream (defScope s_n__law_stream) := ⟨rfl, rfl, rfl, by decide +kernel, rfl, by decide +kernel, by decide +kernel⟩
noncomputable def m_n__law_stream : MS :=
  (sCons (sRet (eNewL (aCons (eCall gListF (aCons (eVar 0) aNil)) (aCons (eC (.int 0)) (aCons (eC (.int 0)) aNil)))))
  sNil)
noncomputable def f_n__law_stream : List Q.D → AH → Res Q.D := fnR false P_n__law_stream.length N_n__law_stream.length m_n__law_stream

/-! ### _law_next (level 1) -/
abbrev s_n__law_next : Stmt := top 52
abbrev N_n__law_next : List Str := ["stream", "many", "digit", "k", "cell"]
abbrev P_n__law_next : List Str := ["stream", "many"]
theorem sc_n__law_next : FnScope N_n__law_next P_n__law_next (defScope s_n__law_next) := ⟨rfl, rfl, rfl, by decide +kernel, rfl, by decide +kernel, by decide +kernel⟩
noncomputable def m_n__law_next : MS :=
  (sCons (sIf (mB (eOp dEq (eOp dIx (eVar 0) (eC (.int 1))) (eC (.int 0)))) (sCons (sAsg (eOp dIx (eVar 0) (eC (.int 2))) (gSlot 3))
  (sCons (sAsg (eOp dPlus (eC (.int 7)) (eVar 3)) (gSlot 4))
  (sCons (sIf (mB (eOp dLt (eVar 3) (eCall gLen (aCons (eOp dIx (eVar 0) (eC (.int 0))) aNil)))) (sCons (sAsg (eOp dMod (eCall gInt (aCons (eCall gAbs (aCons (eOp dIx (eOp dIx (eVar 0) (eC (.int 0))) (eVar 3)) aNil)) aNil)) (eOp dPow (eC (.int 10)) (eC (.int 60)))) (gSlot 4))
  sNil) sNil)
  (sCons (sIf (mB (eOp dLt (eVar 4) (eOp dPow (eC (.int 10)) (eC (.int 18))))) (sCons (sAsg (eOp dMod (eCall gInt (aCons (eOp dPlus (eOp dPlus (eOp dMul (eVar 4) (eC (.int 48271))) (eOp dMul (eVar 3) (eC (.int 69621)))) (eC (.int 11))) aNil)) (eC (.int 2147483647))) (gSlot 4))
  (sCons (sAsg (eOp dPlus (eOp dMul (eOp dMod (eCall gInt (aCons (eOp dPlus (eOp dMul (eVar 4) (eC (.int 16807))) (eC (.int 13))) aNil)) (eC (.int 2147483647))) (eC (.int 65537))) (eVar 4)) (gSlot 4))
  sNil)) sNil)
  (sCons (sAsg (eVar 4) (gSubD dSet (eVar 0) (eC (.int 1))))
  (sCons (sAsg (eOp dPlus (eVar 3) (eC (.int 1))) (gSubD dSet (eVar 0) (eC (.int 2))))
  sNil)))))) sNil)
  (sCons (sAsg (eOp dMod (eCall gInt (aCons (eOp dIx (eVar 0) (eC (.int 1))) aNil)) (eVar 1)) (gSlot 2))
  (sCons (sAsg (eOp dDiv (eOp dIx (eVar 0) (eC (.int 1))) (eVar 1)) (gSubD dSet (eVar 0) (eC (.int 1))))
  (sCons (sRet (eVar 2))
  sNil))))
noncomputable def f_n__law_next : List Q.D → AH → Res Q.D := fnR true P_n__law_next.length N_n__law_next.length m_n__law_next

/-! ### _law_pick (level 2) -/
abbrev s_n__law_pick : Stmt := top 53
abbrev N_n__law_pick : List Str := ["stream", "rows"]
abbrev P_n__law_pick : List Str := ["stream", "rows"]
theorem sc_n__law_pick : FnScope N_n__law_pick P_n__law_pick (defScope s_n__law_pick) := ⟨rfl, rfl, rfl, by decide +kernel, rfl, by decide +kernel, by decide +kernel⟩
noncomputable def m_n__law_pick : MS :=
  (sCons (sRet (eOp dIx (eVar 1) (eFn f_n__law_next [] (aCons (eVar 0) (aCons (eCall gLen (aCons (eVar 1) aNil)) aNil)))))
  sNil)
noncomputable def f_n__law_pick : List Q.D → AH → Res Q.D := fnR true P_n__law_pick.length N_n__law_pick.length m_n__law_pick

/-! ### _law_same (level 1) -/
abbrev s_n__law_same : Stmt := top 54
abbrev N_n__law_same : List Str := ["actual", "due", "left", "turn", "one", "other", "at"]
abbrev P_n__law_same : List Str := ["actual", "due"]
theorem sc_n__law_same : FnScope N_n__law_same P_n__law_same (defScope s_n__law_same) := ⟨rfl, rfl, rfl, by decide +kernel, rfl, by decide +kernel, by decide +kernel⟩
noncomputable def b_n__law_same_1 : MS :=
  (sCons (sIf (mB (eOp dEq (eCall gLen (aCons (eVar 2) aNil)) (eC (.int 0)))) (sCons (sRet (eC (.bl true)))
  sNil) sNil)
  (sCons (sAsg (eMeth "list" mPop (eVar 2) aNil) (gTupD 2 (gsCons (gSlot 4) (gsCons (gSlot 5) gsNil))))
  (sCons (sIf (tOrM (mB (eIsi "tuple" (eVar 5))) (mB (eIsi "list" (eVar 5)))) (sCons (sIf (tOrM (mB (eOp dNe (eIsi "tuple" (eVar 5)) (eIsi "tuple" (eVar 4)))) (mB (eOp dNe (eIsi "list" (eVar 5)) (eIsi "list" (eVar 4))))) (sCons (sRet (eC (.bl false)))
  sNil) sNil)
  (sCons (sIf (mB (eOp dNe (eCall gLen (aCons (eVar 4) aNil)) (eCall gLen (aCons (eVar 5) aNil)))) (sCons (sRet (eC (.bl false)))
  sNil) sNil)
  (sCons (sExpr (eMeth "list" mExtend (eVar 2) (aCons (eLc (iRange1 (eCall gLen (aCons (eVar 5) aNil))) (gSlot 6) tYesM (eTup (aCons (eOp dIx (eVar 4) (eVar 6)) (aCons (eOp dIx (eVar 5) (eVar 6)) aNil))) [6]) aNil)))
  sNil))) (sCons (sIf (mB (eIsi "bool" (eVar 5))) (sCons (sIf (tOrM (tNotM (mB (eIsi "bool" (eVar 4)))) (mB (eOp dNe (eVar 4) (eVar 5)))) (sCons (sRet (eC (.bl false)))
  sNil) sNil)
  sNil) (sCons (sIf (mB (eIsi "int" (eVar 5))) (sCons (sIf (tOrM (tNotM (mB (eIsi "int" (eVar 4)))) (tOrM (mB (eIsi "bool" (eVar 4))) (mB (eOp dNe (eVar 4) (eVar 5))))) (sCons (sRet (eC (.bl false)))
  sNil) sNil)
  sNil) (sCons (sIf (mB (eIsi "str" (eVar 5))) (sCons (sIf (tOrM (tNotM (mB (eIsi "str" (eVar 4)))) (mB (eOp dNe (eVar 4) (eVar 5)))) (sCons (sRet (eC (.bl false)))
  sNil) sNil)
  sNil) (sCons (sIf (mB (eOp dNotN (eVar 4) (eC .non))) (sCons (sRet (eC (.bl false)))
  sNil) sNil)
  sNil))
  sNil))
  sNil))
  sNil))
  sNil)))
noncomputable def m_n__law_same : MS :=
  (sCons (sAsg (eNewL (aCons (eTup (aCons (eVar 0) (aCons (eVar 1) aNil))) aNil)) (gSlot 2))
  (sCons (sFor (iRange1 (eC (.int 2000000))) (gSlot 3) b_n__law_same_1)
  (sCons (sRet (eC (.bl false)))
  sNil)))
noncomputable def f_n__law_same : List Q.D → AH → Res Q.D := fnR true P_n__law_same.length N_n__law_same.length m_n__law_same

/-! ### _law_kind (level 3) -/
abbrev s_n__law_kind : Stmt := top 55
abbrev N_n__law_kind : List Str := ["stream", "name", "turn", "texts"]
abbrev P_n__law_kind : List Str := ["stream"]
theorem sc_n__law_kind : FnScope N_n__law_kind P_n__law_kind (defScope s_n__law_kind) := ⟨rfl, rfl, rfl, by decide +kernel, rfl, by decide +kernel, by decide +kernel⟩
noncomputable def b_n__law_kind_1 : MS :=
  (sCons (sAsg (eOp dPlus (eVar 1) (eOp dIx (eC (.str "abcdefghijklmnopqrstuvwxyz0123456789")) (eFn f_n__law_next [] (aCons (eVar 0) (aCons (eC (.int 36)) aNil))))) (gSlot 1))
  sNil)
noncomputable def m_n__law_kind : MS :=
  (sCons (sIf (mB (eOp dEq (eFn f_n__law_next [] (aCons (eVar 0) (aCons (eC (.int 5)) aNil))) (eC (.int 0)))) (sCons (sAsg (eC (.str "all some more many none half only not than equal world sort kinds plain a b z a0 az")) (gSlot 3))
  (sCons (sRet (eFn f_n__law_pick [] (aCons (eVar 0) (aCons (eMeth "str" mSplit (eVar 3) (aCons (eC (.str " ")) aNil)) aNil))))
  sNil)) sNil)
  (sCons (sAsg (eOp dIx (eC (.str "abcdefghijklmnopqrstuvwxyz")) (eFn f_n__law_next [] (aCons (eVar 0) (aCons (eC (.int 26)) aNil)))) (gSlot 1))
  (sCons (sFor (iRange1 (eFn f_n__law_pick [] (aCons (eVar 0) (aCons (eLst (aCons (eC (.int 0)) (aCons (eC (.int 1)) (aCons (eC (.int 2)) (aCons (eC (.int 5)) (aCons (eC (.int 11)) aNil)))))) aNil)))) (gSlot 2) b_n__law_kind_1)
  (sCons (sRet (eVar 1))
  sNil))))
noncomputable def f_n__law_kind : List Q.D → AH → Res Q.D := fnR true P_n__law_kind.length N_n__law_kind.length m_n__law_kind

/-! ### _law_kinds (level 4) -/
abbrev s_n__law_kinds : Stmt := top 56
abbrev N_n__law_kinds : List Str := ["stream", "many", "found", "stem", "at", "first", "close", "k", "name", "number"]
abbrev P_n__law_kinds : List Str := ["stream", "many"]
theorem sc_n__law_kinds : FnScope N_n__law_kinds P_n__law_kinds (defScope s_n__law_kinds) := ⟨rfl, rfl, rfl, by decide +kernel, rfl, by decide +kernel, by decide +kernel⟩
noncomputable def b_n__law_kinds_1 : MS :=
  (sCons (sIf (mB (eOp dEq (eCall gLen (aCons (eVar 2) aNil)) (eVar 1))) (sCons sBreak
  sNil) sNil)
  (sCons (sAsg (eIf (tAndM (mB (eOp dEq (eVar 6) (eC (.int 0)))) (mB (eOp dLt (eVar 7) (eOp dMul (eC (.int 3)) (eVar 1))))) (eFn f_n__law_kind [] (aCons (eVar 0) aNil)) (eC (.str "a"))) (gSlot 8))
  (sCons (sIf (tOrM (mB (eOp dEq (eVar 6) (eC (.int 1)))) (mB (eOp dGe (eVar 7) (eOp dMul (eC (.int 3)) (eVar 1))))) (sCons (sAsg (eOp dMod (eCall gInt (aCons (eOp dPlus (eVar 5) (eOp dMul (eVar 7) (eC (.int 7)))) aNil)) (eC (.int 936))) (gSlot 9))
  (sCons (sAsg (eOp dPlus (eOp dPlus (eOp dPlus (eSl dSl (eVar 3) oNil (oSome (eVar 4))) (eOp dIx (eC (.str "abcdefghijklmnopqrstuvwxyz")) (eOp dDiv (eVar 9) (eC (.int 36))))) (eOp dIx (eC (.str "abcdefghijklmnopqrstuvwxyz0123456789")) (eOp dMod (eCall gInt (aCons (eVar 9) aNil)) (eC (.int 36))))) (eSl dSl (eVar 3) (oSome (eVar 4)) oNil)) (gSlot 8))
  sNil)) sNil)
  (sCons (sIf (mB (eOp (dIn true) (eVar 8) (eVar 2))) (sCons (sExpr (eMeth "list" mAppend (eVar 2) (aCons (eVar 8) aNil)))
  sNil) sNil)
  sNil))))
noncomputable def m_n__law_kinds : MS :=
  (sCons (sAsg (eNewL aNil) (gSlot 2))
  (sCons (sAsg (eSl dSl (eFn f_n__law_kind [] (aCons (eVar 0) aNil)) oNil (oSome (eC (.int 10)))) (gSlot 3))
  (sCons (sAsg (eFn f_n__law_next [] (aCons (eVar 0) (aCons (eOp dPlus (eCall gLen (aCons (eVar 3) aNil)) (eC (.int 1))) aNil))) (gSlot 4))
  (sCons (sAsg (eFn f_n__law_next [] (aCons (eVar 0) (aCons (eC (.int 936)) aNil))) (gSlot 5))
  (sCons (sAsg (eFn f_n__law_next [] (aCons (eVar 0) (aCons (eC (.int 2)) aNil))) (gSlot 6))
  (sCons (sFor (iRange1 (eC (.int 2000))) (gSlot 7) b_n__law_kinds_1)
  (sCons (sRet (eCall gTuple (aCons (eCall gSortF (aCons (eVar 2) aNil)) aNil)))
  sNil)))))))
noncomputable def f_n__law_kinds : List Q.D → AH → Res Q.D := fnR true P_n__law_kinds.length N_n__law_kinds.length m_n__law_kinds

/-! ### _law_bit (level 2) -/
abbrev s_n__law_bit : Stmt := top 57
abbrev N_n__law_bit : List Str := ["stream"]
abbrev P_n__law_bit : List Str := ["stream"]
theorem sc_n__law_bit : FnScope N_n__law_bit P_n__law_bit (defScope s_n__law_bit) := ⟨rfl, rfl, rfl, by decide +kernel, rfl, by decide +kernel, by decide +kernel⟩
noncomputable def m_n__law_bit : MS :=
  (sCons (sRet (eOp dEq (eFn f_n__law_next [] (aCons (eVar 0) (aCons (eC (.int 2)) aNil))) (eC (.int 1))))
  sNil)
noncomputable def f_n__law_bit : List Q.D → AH → Res Q.D := fnR true P_n__law_bit.length N_n__law_bit.length m_n__law_bit

/-! ### _law_flip (level 1) -/
abbrev s_n__law_flip : Stmt := top 58
abbrev N_n__law_flip : List Str := ["term"]
abbrev P_n__law_flip : List Str := ["term"]
theorem sc_n__law_flip : FnScope N_n__law_flip P_n__law_flip (defScope s_n__law_flip) := ⟨rfl, rfl, rfl, by decide +kernel, rfl, by decide +kernel, by decide +kernel⟩
noncomputable def m_n__law_flip : MS :=
  (sCons (sRet (eTup (aCons (eOp dIx (eVar 0) (eC (.int 0))) (aCons (eNot (eOp dIx (eVar 0) (eC (.int 1)))) aNil))))
  sNil)
noncomputable def f_n__law_flip : List Q.D → AH → Res Q.D := fnR true P_n__law_flip.length N_n__law_flip.length m_n__law_flip

/-! ### _law_sentence (level 3) -/
abbrev s_n__law_sentence : Stmt := top 59
abbrev N_n__law_sentence : List Str := ["stream", "kinds", "word", "a", "b"]
abbrev P_n__law_sentence : List Str := ["stream", "kinds"]
theorem sc_n__law_sentence : FnScope N_n__law_sentence P_n__law_sentence (defScope s_n__law_sentence) := ⟨rfl, rfl, rfl, by decide +kernel, rfl, by decide +kernel, by decide +kernel⟩
noncomputable def m_n__law_sentence : MS :=
  (sCons (sAsg (eFn f_n__law_pick [] (aCons (eVar 0) (aCons (eLst (aCons (eC (.str "all")) (aCons (eC (.str "some")) (aCons (eC (.str "more")) (aCons (eC (.str "many")) aNil))))) aNil))) (gSlot 2))
  (sCons (sAsg (eTup (aCons (eFn f_n__law_pick [] (aCons (eVar 0) (aCons (eVar 1) aNil))) (aCons (eFn f_n__law_bit [] (aCons (eVar 0) aNil)) aNil))) (gSlot 3))
  (sCons (sAsg (eTup (aCons (eFn f_n__law_pick [] (aCons (eVar 0) (aCons (eVar 1) aNil))) (aCons (eFn f_n__law_bit [] (aCons (eVar 0) aNil)) aNil))) (gSlot 4))
  (sCons (sIf (mB (eOp dEq (eFn f_n__law_next [] (aCons (eVar 0) (aCons (eC (.int 5)) aNil))) (eC (.int 0)))) (sCons (sAsg (eTup (aCons (eOp dIx (eVar 3) (eC (.int 0))) (aCons (eFn f_n__law_bit [] (aCons (eVar 0) aNil)) aNil))) (gSlot 4))
  sNil) sNil)
  (sCons (sRet (eTup (aCons (eVar 2) (aCons (eVar 3) (aCons (eVar 4) aNil)))))
  sNil)))))
noncomputable def f_n__law_sentence : List Q.D → AH → Res Q.D := fnR true P_n__law_sentence.length N_n__law_sentence.length m_n__law_sentence

/-! ### _law_question (level 4) -/
abbrev s_n__law_question : Stmt := top 60
abbrev N_n__law_question : List Str := ["stream", "kinds", "found", "turn", "again"]
abbrev P_n__law_question : List Str := ["stream", "kinds"]
theorem sc_n__law_question : FnScope N_n__law_question P_n__law_question (defScope s_n__law_question) := ⟨rfl, rfl, rfl, by decide +kernel, rfl, by decide +kernel, by decide +kernel⟩
noncomputable def b_n__law_question_1 : MS :=
  (sCons (sAsg (eAnd (eOp dGt (eCall gLen (aCons (eVar 2) aNil)) (eC (.int 0))) (eOp dEq (eFn f_n__law_next [] (aCons (eVar 0) (aCons (eC (.int 6)) aNil))) (eC (.int 0)))) (gSlot 4))
  (sCons (sExpr (eMeth "list" mAppend (eVar 2) (aCons (eIf (mB (eVar 4)) (eFn f_n__law_pick [] (aCons (eVar 0) (aCons (eVar 2) aNil))) (eFn f_n__law_sentence [] (aCons (eVar 0) (aCons (eVar 1) aNil)))) aNil)))
  sNil))
noncomputable def m_n__law_question : MS :=
  (sCons (sIf (mB (eFn f_n__law_bit [] (aCons (eVar 0) aNil))) (sCons (sRet (eFn f_n__law_sentence [] (aCons (eVar 0) (aCons (eVar 1) aNil))))
  sNil) sNil)
  (sCons (sAsg (eNewL aNil) (gSlot 2))
  (sCons (sFor (iRange1 (eFn f_n__law_pick [] (aCons (eVar 0) (aCons (eLst (aCons (eC (.int 1)) (aCons (eC (.int 2)) (aCons (eC (.int 3)) (aCons (eC (.int 5)) (aCons (eC (.int 39)) (aCons (eC (.int 40)) aNil))))))) aNil)))) (gSlot 3) b_n__law_question_1)
  (sCons (sRet (eCall gTuple (aCons (eVar 2) aNil)))
  sNil))))
noncomputable def f_n__law_question : List Q.D → AH → Res Q.D := fnR true P_n__law_question.length N_n__law_question.length m_n__law_question

/-! ### _law_numbered (level 1) -/
abbrev s_n__law_numbered : Stmt := top 61
abbrev N_n__law_numbered : List Str := ["kinds", "number", "terms", "word", "a", "b"]
abbrev P_n__law_numbered : List Str := ["kinds", "number"]
theorem sc_n__law_numbered : FnScope N_n__law_numbered P_n__law_numbered (defScope s_n__law_numbered) := ⟨rfl, rfl, rfl, by decide +kernel, rfl, by decide +kernel, by decide +kernel⟩
noncomputable def m_n__law_numbered : MS :=
  (sCons (sAsg (eOp dMul (eC (.int 2)) (eCall gLen (aCons (eVar 0) aNil))) (gSlot 2))
  (sCons (sAsg (eOp dIx (eLst (aCons (eC (.str "all")) (aCons (eC (.str "some")) (aCons (eC (.str "more")) (aCons (eC (.str "many")) aNil))))) (eOp dMod (eCall gInt (aCons (eVar 1) aNil)) (eC (.int 4)))) (gSlot 3))
  (sCons (sAsg (eOp dMod (eCall gInt (aCons (eOp dDiv (eVar 1) (eC (.int 4))) aNil)) (eVar 2)) (gSlot 4))
  (sCons (sAsg (eOp dMod (eCall gInt (aCons (eOp dDiv (eVar 1) (eOp dMul (eC (.int 4)) (eVar 2))) aNil)) (eVar 2)) (gSlot 5))
  (sCons (sRet (eTup (aCons (eVar 3) (aCons (eTup (aCons (eOp dIx (eVar 0) (eOp dDiv (eVar 4) (eC (.int 2)))) (aCons (eOp dEq (eOp dMod (eCall gInt (aCons (eVar 4) aNil)) (eC (.int 2))) (eC (.int 1))) aNil))) (aCons (eTup (aCons (eOp dIx (eVar 0) (eOp dDiv (eVar 5) (eC (.int 2)))) (aCons (eOp dEq (eOp dMod (eCall gInt (aCons (eVar 5) aNil)) (eC (.int 2))) (eC (.int 1))) aNil))) aNil)))))
  sNil)))))
noncomputable def f_n__law_numbered : List Q.D → AH → Res Q.D := fnR true P_n__law_numbered.length N_n__law_numbered.length m_n__law_numbered

/-! ### _law_entries (level 4) -/
abbrev s_n__law_entries : Stmt := top 62
abbrev N_n__law_entries : List Str := ["stream", "kinds", "most", "found", "known", "turn", "total", "number", "k", "start", "entry", "here"]
abbrev P_n__law_entries : List Str := ["stream", "kinds", "most"]
theorem sc_n__law_entries : FnScope N_n__law_entries P_n__law_entries (defScope s_n__law_entries) := ⟨rfl, rfl, rfl, by decide +kernel, rfl, by decide +kernel, by decide +kernel⟩
noncomputable def b_n__law_entries_1 : MS :=
  (sCons (sAsg (eTup (aCons (eFn f_n__law_next [] (aCons (eVar 0) (aCons (eC (.int 6)) aNil))) (aCons (eFn f_n__law_sentence [] (aCons (eVar 0) (aCons (eVar 1) aNil))) aNil))) (gSlot 10))
  (sCons (sIf (tAndM (mB (eOp (dIn true) (eVar 10) (eVar 4))) (mB (eOp dLt (eCall gLen (aCons (eVar 3) aNil)) (eVar 2)))) (sCons (sAsg (eC (.bl true)) (gSubD dSet (eVar 4) (eVar 10)))
  (sCons (sExpr (eMeth "list" mAppend (eVar 3) (aCons (eVar 10) aNil)))
  sNil)) sNil)
  sNil))
noncomputable def b_n__law_entries_2 : MS :=
  (sCons (sIf (tOrM (mB (eOp dGe (eCall gLen (aCons (eVar 3) aNil)) (eVar 2))) (mB (eOp dGt (eVar 8) (eC (.int 2000))))) (sCons sBreak
  sNil) sNil)
  (sCons (sAsg (eOp dMod (eCall gInt (aCons (eOp dPlus (eVar 7) (eVar 8)) aNil)) (eVar 6)) (gSlot 11))
  (sCons (sAsg (eTup (aCons (eOp dMod (eCall gInt (aCons (eVar 11) aNil)) (eC (.int 6))) (aCons (eFn f_n__law_numbered [] (aCons (eVar 1) (aCons (eOp dDiv (eVar 11) (eC (.int 6))) aNil))) aNil))) (gSlot 10))
  (sCons (sIf (mB (eOp (dIn true) (eVar 10) (eVar 4))) (sCons (sAsg (eC (.bl true)) (gSubD dSet (eVar 4) (eVar 10)))
  (sCons (sExpr (eMeth "list" mAppend (eVar 3) (aCons (eVar 10) aNil)))
  sNil)) sNil)
  sNil))))
noncomputable def m_n__law_entries : MS :=
  (sCons (sAsg (eNewL aNil) (gSlot 3))
  (sCons (sAsg eNewT (gSlot 4))
  (sCons (sFor (iRange1 (eFn f_n__law_pick [] (aCons (eVar 0) (aCons (eLst (aCons (eC (.int 0)) (aCons (eC (.int 2)) (aCons (eC (.int 6)) (aCons (eC (.int 20)) aNil))))) aNil)))) (gSlot 5) b_n__law_entries_1)
  (sCons (sAsg (eOp dMul (eOp dMul (eC (.int 96)) (eCall gLen (aCons (eVar 1) aNil))) (eCall gLen (aCons (eVar 1) aNil))) (gSlot 6))
  (sCons (sAsg (eFn f_n__law_next [] (aCons (eVar 0) (aCons (eVar 6) aNil))) (gSlot 7))
  (sCons (sFor (iRange1 (eVar 6)) (gSlot 8) b_n__law_entries_2)
  (sCons (sAsg (eFn f_n__law_next [] (aCons (eVar 0) (aCons (eOp dPlus (eCall gLen (aCons (eVar 3) aNil)) (eC (.int 1))) aNil))) (gSlot 9))
  (sCons (sRet (eOp dPlus (eSl dSl (eVar 3) (oSome (eVar 9)) oNil) (eSl dSl (eVar 3) oNil (oSome (eVar 9)))))
  sNil))))))))
noncomputable def f_n__law_entries : List Q.D → AH → Res Q.D := fnR true P_n__law_entries.length N_n__law_entries.length m_n__law_entries

/-! ### _law_different (level 1) -/
abbrev s_n__law_different : Stmt := top 63
abbrev N_n__law_different : List Str := ["rows", "found", "known", "row"]
abbrev P_n__law_different : List Str := ["rows"]
theorem sc_n__law_different : FnScope N_n__law_different P_n__law_different (defScope s_n__law_different) := ⟨rfl, rfl, rfl, by decide +kernel, rfl, by decide +kernel, by decide +kernel⟩
noncomputable def b_n__law_different_1 : MS :=
  (sCons (sIf (mB (eOp (dIn true) (eVar 3) (eVar 2))) (sCons (sAsg (eC (.bl true)) (gSubD dSet (eVar 2) (eVar 3)))
  (sCons (sExpr (eMeth "list" mAppend (eVar 1) (aCons (eVar 3) aNil)))
  sNil)) sNil)
  sNil)
noncomputable def m_n__law_different : MS :=
  (sCons (sAsg (eNewL aNil) (gSlot 1))
  (sCons (sAsg eNewT (gSlot 2))
  (sCons (sFor (iSeq (eVar 0)) (gSlot 3) b_n__law_different_1)
  (sCons (sRet (eVar 1))
  sNil))))
noncomputable def f_n__law_different : List Q.D → AH → Res Q.D := fnR true P_n__law_different.length N_n__law_different.length m_n__law_different

/-! ### _law_term_by (level 2) -/
abbrev s_n__law_term_by : Stmt := top 64
abbrev N_n__law_term_by : List Str := ["kinds", "terms", "term", "found", "at"]
abbrev P_n__law_term_by : List Str := ["kinds", "terms", "term"]
theorem sc_n__law_term_by : FnScope N_n__law_term_by P_n__law_term_by (defScope s_n__law_term_by) := ⟨rfl, rfl, rfl, by decide +kernel, rfl, by decide +kernel, by decide +kernel⟩
noncomputable def m_n__law_term_by : MS :=
  (sCons (sAsg (eOp dIx (eVar 1) (eOp dIx (eLc (iRange1 (eCall gLen (aCons (eVar 0) aNil))) (gSlot 4) (mB (eOp dEq (eOp dIx (eVar 0) (eVar 4)) (eOp dIx (eVar 2) (eC (.int 0))))) (eVar 4) [4]) (eC (.int 0)))) (gSlot 3))
  (sCons (sRet (eIf (mB (eOp dIx (eVar 2) (eC (.int 1)))) (eVar 3) (eFn f_n__law_flip [] (aCons (eVar 3) aNil))))
  sNil))
noncomputable def f_n__law_term_by : List Q.D → AH → Res Q.D := fnR true P_n__law_term_by.length N_n__law_term_by.length m_n__law_term_by

/-! ### _law_sentence_by (level 3) -/
abbrev s_n__law_sentence_by : Stmt := top 65
abbrev N_n__law_sentence_by : List Str := ["kinds", "terms", "sentence"]
abbrev P_n__law_sentence_by : List Str := ["kinds", "terms", "sentence"]
theorem sc_n__law_sentence_by : FnScope N_n__law_sentence_by P_n__law_sentence_by (defScope s_n__law_sentence_by) := ⟨rfl, rfl, rfl, by decide +kernel, rfl, by decide +kernel, by decide +kernel⟩
noncomputable def m_n__law_sentence_by : MS :=
  (sCons (sRet (eTup (aCons (eOp dIx (eVar 2) (eC (.int 0))) (aCons (eFn f_n__law_term_by [] (aCons (eVar 0) (aCons (eVar 1) (aCons (eOp dIx (eVar 2) (eC (.int 1))) aNil)))) (aCons (eFn f_n__law_term_by [] (aCons (eVar 0) (aCons (eVar 1) (aCons (eOp dIx (eVar 2) (eC (.int 2))) aNil)))) aNil)))))
  sNil)
noncomputable def f_n__law_sentence_by : List Q.D → AH → Res Q.D := fnR true P_n__law_sentence_by.length N_n__law_sentence_by.length m_n__law_sentence_by

/-! ### _law_by (level 4) -/
abbrev s_n__law_by : Stmt := top 66
abbrev N_n__law_by : List Str := ["kinds", "terms", "question", "sentence"]
abbrev P_n__law_by : List Str := ["kinds", "terms", "question"]
theorem sc_n__law_by : FnScope N_n__law_by P_n__law_by (defScope s_n__law_by) := ⟨rfl, rfl, rfl, by decide +kernel, rfl, by decide +kernel, by decide +kernel⟩
noncomputable def m_n__law_by : MS :=
  (sCons (sIf (mB (eIsi "str" (eOp dIx (eVar 2) (eC (.int 0))))) (sCons (sRet (eFn f_n__law_sentence_by [] (aCons (eVar 0) (aCons (eVar 1) (aCons (eVar 2) aNil)))))
  sNil) sNil)
  (sCons (sRet (eCall gTuple (aCons (eLc (iSeq (eVar 2)) (gSlot 3) tYesM (eFn f_n__law_sentence_by [] (aCons (eVar 0) (aCons (eVar 1) (aCons (eVar 3) aNil)))) [3]) aNil)))
  sNil))
noncomputable def f_n__law_by : List Q.D → AH → Res Q.D := fnR true P_n__law_by.length N_n__law_by.length m_n__law_by

/-! ### _law_target (level 3) -/
abbrev s_n__law_target : Stmt := top 67
abbrev N_n__law_target : List Str := ["stream", "kinds", "others", "way", "one", "start", "kind", "at"]
abbrev P_n__law_target : List Str := ["stream", "kinds", "others"]
theorem sc_n__law_target : FnScope N_n__law_target P_n__law_target (defScope s_n__law_target) := ⟨rfl, rfl, rfl, by decide +kernel, rfl, by decide +kernel, by decide +kernel⟩
noncomputable def m_n__law_target : MS :=
  (sCons (sAsg (eFn f_n__law_next [] (aCons (eVar 0) (aCons (eC (.int 4)) aNil))) (gSlot 3))
  (sCons (sIf (tAndM (mB (eOp dEq (eVar 3) (eC (.int 0)))) (mB (eOp dEq (eVar 1) (eVar 2)))) (sCons (sRet (eCall gTuple (aCons (eLc (iSeq (eVar 1)) (gSlot 6) tYesM (eTup (aCons (eVar 6) (aCons (eOp dGt (eFn f_n__law_next [] (aCons (eVar 0) (aCons (eC (.int 3)) aNil))) (eC (.int 0))) aNil))) [6]) aNil)))
  sNil) sNil)
  (sCons (sIf (mB (eOp dEq (eVar 3) (eC (.int 1)))) (sCons (sAsg (eFn f_n__law_pick [] (aCons (eVar 0) (aCons (eVar 2) aNil))) (gSlot 4))
  (sCons (sRet (eCall gTuple (aCons (eLc (iSeq (eVar 1)) (gSlot 6) tYesM (eTup (aCons (eVar 4) (aCons (eFn f_n__law_bit [] (aCons (eVar 0) aNil)) aNil))) [6]) aNil)))
  sNil)) sNil)
  (sCons (sIf (mB (eOp dEq (eVar 3) (eC (.int 2)))) (sCons (sAsg (eFn f_n__law_next [] (aCons (eVar 0) (aCons (eCall gLen (aCons (eVar 2) aNil)) aNil))) (gSlot 5))
  (sCons (sRet (eCall gTuple (aCons (eLc (iRange1 (eCall gLen (aCons (eVar 1) aNil))) (gSlot 7) tYesM (eTup (aCons (eOp dIx (eVar 2) (eOp dMod (eCall gInt (aCons (eOp dPlus (eVar 7) (eVar 5)) aNil)) (eCall gLen (aCons (eVar 2) aNil)))) (aCons (eFn f_n__law_bit [] (aCons (eVar 0) aNil)) aNil))) [7]) aNil)))
  sNil)) sNil)
  (sCons (sRet (eCall gTuple (aCons (eLc (iSeq (eVar 1)) (gSlot 6) tYesM (eTup (aCons (eFn f_n__law_pick [] (aCons (eVar 0) (aCons (eVar 2) aNil))) (aCons (eFn f_n__law_bit [] (aCons (eVar 0) aNil)) aNil))) [6]) aNil)))
  sNil)))))
noncomputable def f_n__law_target : List Q.D → AH → Res Q.D := fnR true P_n__law_target.length N_n__law_target.length m_n__law_target

/-! ### _law_goes (level 7) -/
abbrev s_n__law_goes : Stmt := top 68
abbrev N_n__law_goes : List Str := ["kinds", "others", "terms", "sentence", "found"]
abbrev P_n__law_goes : List Str := ["kinds", "others", "terms", "sentence"]
theorem sc_n__law_goes : FnScope N_n__law_goes P_n__law_goes (defScope s_n__law_goes) := ⟨rfl, rfl, rfl, by decide +kernel, rfl, by decide +kernel, by decide +kernel⟩
noncomputable def m_n__law_goes : MS :=
  (sCons (sAsg (eFn f_translated [] (aCons (eVar 0) (aCons (eVar 1) (aCons (eVar 2) (aCons (eVar 3) aNil))))) (gSlot 4))
  (sCons (sIf (tNotM (mB (eFn f_n__law_same [] (aCons (eFn f_translated [] (aCons (eVar 0) (aCons (eVar 1) (aCons (eVar 2) (aCons (eFn f_contrary [] (aCons (eVar 3) aNil)) aNil))))) (aCons (eFn f_contrary [] (aCons (eVar 4) aNil)) aNil))))) (sCons (sRet (eC (.bl false)))
  sNil) sNil)
  (sCons (sIf (tNotM (mB (eFn f_n__law_same [] (aCons (eFn f_translated [] (aCons (eVar 0) (aCons (eVar 1) (aCons (eVar 2) (aCons (eFn f_mirror [] (aCons (eVar 3) aNil)) aNil))))) (aCons (eFn f_mirror [] (aCons (eVar 4) aNil)) aNil))))) (sCons (sRet (eC (.bl false)))
  sNil) sNil)
  (sCons (sRet (eOr (eOp dEq (eFn f_by_itself [] (aCons (eVar 3) aNil)) (eC (.str "open"))) (eOp dEq (eFn f_by_itself [] (aCons (eVar 4) aNil)) (eFn f_by_itself [] (aCons (eVar 3) aNil)))))
  sNil))))
noncomputable def f_n__law_goes : List Q.D → AH → Res Q.D := fnR true P_n__law_goes.length N_n__law_goes.length m_n__law_goes

/-! ### _law_twice (level 7) -/
abbrev s_n__law_twice : Stmt := top 69
abbrev N_n__law_twice : List Str := ["stream", "kinds", "others", "terms", "question", "third", "more", "whole", "found", "term"]
abbrev P_n__law_twice : List Str := ["stream", "kinds", "others", "terms", "question"]
theorem sc_n__law_twice : FnScope N_n__law_twice P_n__law_twice (defScope s_n__law_twice) := ⟨rfl, rfl, rfl, by decide +kernel, rfl, by decide +kernel, by decide +kernel⟩
noncomputable def m_n__law_twice : MS :=
  (sCons (sAsg (eFn f_n__law_kinds [] (aCons (eVar 0) (aCons (eFn f_n__law_pick [] (aCons (eVar 0) (aCons (eLst (aCons (eC (.int 1)) (aCons (eC (.int 2)) (aCons (eC (.int 5)) (aCons (eC (.int 30)) aNil))))) aNil))) aNil))) (gSlot 5))
  (sCons (sAsg (eFn f_n__law_target [] (aCons (eVar 0) (aCons (eVar 2) (aCons (eVar 5) aNil)))) (gSlot 6))
  (sCons (sAsg (eCall gTuple (aCons (eLc (iSeq (eVar 3)) (gSlot 9) tYesM (eFn f_n__law_term_by [] (aCons (eVar 2) (aCons (eVar 6) (aCons (eVar 9) aNil)))) [9]) aNil)) (gSlot 7))
  (sCons (sAsg (eFn f_translated [] (aCons (eVar 2) (aCons (eVar 5) (aCons (eVar 6) (aCons (eFn f_translated [] (aCons (eVar 1) (aCons (eVar 2) (aCons (eVar 3) (aCons (eVar 4) aNil))))) aNil))))) (gSlot 8))
  (sCons (sRet (eFn f_n__law_same [] (aCons (eVar 8) (aCons (eFn f_translated [] (aCons (eVar 1) (aCons (eVar 5) (aCons (eVar 7) (aCons (eVar 4) aNil))))) aNil))))
  sNil)))))
noncomputable def f_n__law_twice : List Q.D → AH → Res Q.D := fnR true P_n__law_twice.length N_n__law_twice.length m_n__law_twice

/-! ### law (level 8) -/
abbrev s_law : Stmt := top 70
abbrev N_law : List Str := ["script", "stream", "kinds", "others", "terms", "turn", "a", "sentence", "entries", "due", "book", "same", "question", "found", "entry", "kind"]
abbrev P_law : List Str := ["script"]
theorem sc_law : FnScope N_law P_law (defScope s_law) := ⟨rfl, rfl, rfl, by decide +kernel, rfl, by decide +kernel, by decide +kernel⟩
noncomputable def b_law_1 : MS :=
  (sCons (sAsg (eFn f_n__law_question [] (aCons (eVar 1) (aCons (eVar 2) aNil))) (gSlot 12))
  (sCons (sAsg (eFn f_translated [] (aCons (eVar 2) (aCons (eVar 3) (aCons (eVar 4) (aCons (eVar 12) aNil))))) (gSlot 13))
  (sCons (sIf (tOrM (tNotM (mB (eFn f_n__law_same [] (aCons (eVar 13) (aCons (eFn f_n__law_by [] (aCons (eVar 2) (aCons (eVar 4) (aCons (eVar 12) aNil)))) aNil))))) (mB (eOp dIsNot (eFn f_is_question [] (aCons (eVar 3) (aCons (eVar 13) aNil))) (eC (.bl true))))) (sCons (sRet (eC (.bl false)))
  sNil) sNil)
  (sCons (sIf (tOrM (tNotM (mB (eFn f_n__law_twice [] (aCons (eVar 1) (aCons (eVar 2) (aCons (eVar 3) (aCons (eVar 4) (aCons (eVar 12) aNil)))))))) (tNotM (mB (eFn f_n__law_goes [] (aCons (eVar 2) (aCons (eVar 3) (aCons (eVar 4) (aCons (eFn f_n__law_sentence [] (aCons (eVar 1) (aCons (eVar 2) aNil))) aNil)))))))) (sCons (sRet (eC (.bl false)))
  sNil) sNil)
  sNil))))
noncomputable def b_law_2 : MS :=
  (sCons (sIf (tNotM (mB (eFn f_n__law_goes [] (aCons (eVar 2) (aCons (eVar 3) (aCons (eVar 4) (aCons (eVar 7) aNil))))))) (sCons (sRet (eC (.bl false)))
  sNil) sNil)
  sNil)
noncomputable def m_law : MS :=
  (sCons (sAsg (eFn f_n__law_stream [] (aCons (eVar 0) aNil)) (gSlot 1))
  (sCons (sAsg (eFn f_n__law_kinds [] (aCons (eVar 1) (aCons (eFn f_n__law_pick [] (aCons (eVar 1) (aCons (eLst (aCons (eC (.int 1)) (aCons (eC (.int 2)) (aCons (eC (.int 3)) (aCons (eC (.int 6)) (aCons (eC (.int 30)) aNil)))))) aNil))) aNil))) (gSlot 2))
  (sCons (sAsg (eIf (mB (eOp dEq (eFn f_n__law_next [] (aCons (eVar 1) (aCons (eC (.int 3)) aNil))) (eC (.int 0)))) (eVar 2) (eFn f_n__law_kinds [] (aCons (eVar 1) (aCons (eFn f_n__law_pick [] (aCons (eVar 1) (aCons (eLst (aCons (eC (.int 1)) (aCons (eC (.int 2)) (aCons (eC (.int 4)) (aCons (eC (.int 30)) (aCons (eCall gLen (aCons (eVar 2) aNil)) aNil)))))) aNil))) aNil)))) (gSlot 3))
  (sCons (sAsg (eFn f_n__law_target [] (aCons (eVar 1) (aCons (eVar 2) (aCons (eVar 3) aNil)))) (gSlot 4))
  (sCons (sFor (iRange1 (eC (.int 6))) (gSlot 5) b_law_1)
  (sCons (sAsg (eTup (aCons (eOp dIx (eVar 2) (eC (.int 0))) (aCons (eFn f_n__law_bit [] (aCons (eVar 1) aNil)) aNil))) (gSlot 6))
  (sCons (sFor (iSeq (eLst (aCons (eTup (aCons (eC (.str "all")) (aCons (eVar 6) (aCons (eVar 6) aNil)))) (aCons (eTup (aCons (eC (.str "many")) (aCons (eVar 6) (aCons (eVar 6) aNil)))) (aCons (eTup (aCons (eC (.str "more")) (aCons (eVar 6) (aCons (eVar 6) aNil)))) (aCons (eTup (aCons (eC (.str "some")) (aCons (eVar 6) (aCons (eFn f_n__law_flip [] (aCons (eVar 6) aNil)) aNil)))) aNil)))))) (gSlot 7) b_law_2)
  (sCons (sAsg (eFn f_n__law_entries [] (aCons (eVar 1) (aCons (eVar 2) (aCons (eFn f_n__law_pick [] (aCons (eVar 1) (aCons (eLst (aCons (eC (.int 0)) (aCons (eC (.int 2)) (aCons (eC (.int 30)) (aCons (eC (.int 150)) aNil))))) aNil))) aNil)))) (gSlot 8))
  (sCons (sAsg (eFn f_n__law_different [] (aCons (eLc (iSeq (eVar 8)) (gSlot 14) tYesM (eTup (aCons (eOp dIx (eVar 14) (eC (.int 0))) (aCons (eFn f_n__law_sentence_by [] (aCons (eVar 2) (aCons (eVar 4) (aCons (eOp dIx (eVar 14) (eC (.int 1))) aNil)))) aNil))) [14]) aNil)) (gSlot 9))
  (sCons (sAsg (eFn f_translated_book [] (aCons (eTup (aCons (eVar 2) (aCons (eCall gTuple (aCons (eVar 8) aNil)) aNil))) (aCons (eVar 3) (aCons (eVar 4) aNil)))) (gSlot 10))
  (sCons (sIf (tOrM (tNotM (mB (eFn f_n__law_same [] (aCons (eVar 10) (aCons (eTup (aCons (eVar 3) (aCons (eCall gTuple (aCons (eVar 9) aNil)) aNil))) aNil))))) (mB (eOp dIsNot (eFn f_is_book [] (aCons (eVar 10) aNil)) (eC (.bl true))))) (sCons (sRet (eC (.bl false)))
  sNil) sNil)
  (sCons (sAsg (eCall gTuple (aCons (eLc (iSeq (eVar 2)) (gSlot 15) tYesM (eTup (aCons (eVar 15) (aCons (eC (.bl true)) aNil))) [15]) aNil)) (gSlot 11))
  (sCons (sRet (eFn f_n__law_same [] (aCons (eFn f_translated_book [] (aCons (eTup (aCons (eVar 2) (aCons (eCall gTuple (aCons (eVar 8) aNil)) aNil))) (aCons (eVar 2) (aCons (eVar 11) aNil)))) (aCons (eTup (aCons (eVar 2) (aCons (eCall gTuple (aCons (eVar 8) aNil)) aNil))) aNil))))
  sNil)))))))))))))
noncomputable def f_law : List Q.D → AH → Res Q.D := fnR true P_law.length N_law.length m_law
theorem e_is_integer (a0 : Q.D) (h : AH) : f_is_integer [a0] h = trimR h true (retOf (m_is_integer [some a0] h)) := fnR_pos (b := true) (n := P_is_integer.length) (N := N_is_integer.length) (body := m_is_integer) (σ := [some a0]) rfl rfl
theorem e_is_bit (a0 : Q.D) (h : AH) : f_is_bit [a0] h = trimR h true (retOf (m_is_bit [some a0] h)) := fnR_pos (b := true) (n := P_is_bit.length) (N := N_is_bit.length) (body := m_is_bit) (σ := [some a0]) rfl rfl
theorem e_is_from_to (a0 a1 a2 : Q.D) (h : AH) : f_is_from_to [a0, a1, a2] h = trimR h true (retOf (m_is_from_to [some a0, some a1, some a2] h)) := fnR_pos (b := true) (n := P_is_from_to.length) (N := N_is_from_to.length) (body := m_is_from_to) (σ := [some a0, some a1, some a2]) rfl rfl
theorem e_is_tuple_of (a0 a1 a2 : Q.D) (h : AH) : f_is_tuple_of [a0, a1, a2] h = trimR h true (retOf (m_is_tuple_of [some a0, some a1, some a2] h)) := fnR_pos (b := true) (n := P_is_tuple_of.length) (N := N_is_tuple_of.length) (body := m_is_tuple_of) (σ := [some a0, some a1, some a2]) rfl rfl
theorem e_is_ascending (a0 : Q.D) (h : AH) : f_is_ascending [a0] h = trimR h true (retOf (m_is_ascending [some a0, none] h)) := fnR_pos (b := true) (n := P_is_ascending.length) (N := N_is_ascending.length) (body := m_is_ascending) (σ := [some a0, none]) rfl rfl
theorem e_without_doubles (a0 : Q.D) (h : AH) : f_without_doubles [a0] h = trimR h true (retOf (m_without_doubles [some a0, none, none] h)) := fnR_pos (b := true) (n := P_without_doubles.length) (N := N_without_doubles.length) (body := m_without_doubles) (σ := [some a0, none, none]) rfl rfl
theorem e_is_kind (a0 : Q.D) (h : AH) : f_is_kind [a0] h = trimR h true (retOf (m_is_kind [some a0, none] h)) := fnR_pos (b := true) (n := P_is_kind.length) (N := N_is_kind.length) (body := m_is_kind) (σ := [some a0, none]) rfl rfl
theorem e_is_source (a0 : Q.D) (h : AH) : f_is_source [a0] h = trimR h true (retOf (m_is_source [some a0] h)) := fnR_pos (b := true) (n := P_is_source.length) (N := N_is_source.length) (body := m_is_source) (σ := [some a0]) rfl rfl
theorem e_is_kind_row (a0 a1 : Q.D) (h : AH) : f_is_kind_row [a0, a1] h = trimR h true (retOf (m_is_kind_row [some a0, some a1, none] h)) := fnR_pos (b := true) (n := P_is_kind_row.length) (N := N_is_kind_row.length) (body := m_is_kind_row) (σ := [some a0, some a1, none]) rfl rfl
theorem e_is_kinds (a0 : Q.D) (h : AH) : f_is_kinds [a0] h = trimR h true (retOf (m_is_kinds [some a0] h)) := fnR_pos (b := true) (n := P_is_kinds.length) (N := N_is_kinds.length) (body := m_is_kinds) (σ := [some a0]) rfl rfl
theorem e_is_free_term (a0 : Q.D) (h : AH) : f_is_free_term [a0] h = trimR h true (retOf (m_is_free_term [some a0] h)) := fnR_pos (b := true) (n := P_is_free_term.length) (N := N_is_free_term.length) (body := m_is_free_term) (σ := [some a0]) rfl rfl
theorem e_is_term_over (a0 a1 : Q.D) (h : AH) : f_is_term_over [a0, a1] h = trimR h true (retOf (m_is_term_over [some a0, some a1] h)) := fnR_pos (b := true) (n := P_is_term_over.length) (N := N_is_term_over.length) (body := m_is_term_over) (σ := [some a0, some a1]) rfl rfl
theorem e_check_kinds (a0 a1 : Q.D) (h : AH) : f_check_kinds [a0, a1] h = trimR h true (retOf (m_check_kinds [some a0, some a1] h)) := fnR_pos (b := true) (n := P_check_kinds.length) (N := N_check_kinds.length) (body := m_check_kinds) (σ := [some a0, some a1]) rfl rfl
theorem e_flip (a0 : Q.D) (h : AH) : f_flip [a0] h = trimR h true (retOf (m_flip [some a0] h)) := fnR_pos (b := true) (n := P_flip.length) (N := N_flip.length) (body := m_flip) (σ := [some a0]) rfl rfl
theorem e_is_word_and (a0 a1 : Q.D) (h : AH) : f_is_word_and [a0, a1] h = trimR h true (retOf (m_is_word_and [some a0, some a1] h)) := fnR_pos (b := true) (n := P_is_word_and.length) (N := N_is_word_and.length) (body := m_is_word_and) (σ := [some a0, some a1]) rfl rfl
theorem e_is_free_sentence (a0 : Q.D) (h : AH) : f_is_free_sentence [a0] h = trimR h true (retOf (m_is_free_sentence [some a0] h)) := fnR_pos (b := true) (n := P_is_free_sentence.length) (N := N_is_free_sentence.length) (body := m_is_free_sentence) (σ := [some a0]) rfl rfl
theorem e_is_sentence_over (a0 a1 : Q.D) (h : AH) : f_is_sentence_over [a0, a1] h = trimR h true (retOf (m_is_sentence_over [some a0, some a1] h)) := fnR_pos (b := true) (n := P_is_sentence_over.length) (N := N_is_sentence_over.length) (body := m_is_sentence_over) (σ := [some a0, some a1]) rfl rfl
theorem e_is_question_over (a0 a1 : Q.D) (h : AH) : f_is_question_over [a0, a1] h = trimR h true (retOf (m_is_question_over [some a0, some a1, none] h)) := fnR_pos (b := true) (n := P_is_question_over.length) (N := N_is_question_over.length) (body := m_is_question_over) (σ := [some a0, some a1, none]) rfl rfl
theorem e_check_question (a0 a1 a2 : Q.D) (h : AH) : f_check_question [a0, a1, a2] h = trimR h true (retOf (m_check_question [some a0, some a1, some a2] h)) := fnR_pos (b := true) (n := P_check_question.length) (N := N_check_question.length) (body := m_check_question) (σ := [some a0, some a1, some a2]) rfl rfl
theorem e_is_question (a0 a1 : Q.D) (h : AH) : f_is_question [a0, a1] h = trimR h true (retOf (m_is_question [some a0, some a1] h)) := fnR_pos (b := true) (n := P_is_question.length) (N := N_is_question.length) (body := m_is_question) (σ := [some a0, some a1]) rfl rfl
theorem e_contrary_of (a0 : Q.D) (h : AH) : f_contrary_of [a0] h = trimR h true (retOf (m_contrary_of [some a0, none, none, none] h)) := fnR_pos (b := true) (n := P_contrary_of.length) (N := N_contrary_of.length) (body := m_contrary_of) (σ := [some a0, none, none, none]) rfl rfl
theorem e_mirror_of (a0 : Q.D) (h : AH) : f_mirror_of [a0] h = trimR h true (retOf (m_mirror_of [some a0, none, none, none] h)) := fnR_pos (b := true) (n := P_mirror_of.length) (N := N_mirror_of.length) (body := m_mirror_of) (σ := [some a0, none, none, none]) rfl rfl
theorem e_check_free (a0 : Q.D) (h : AH) : f_check_free [a0] h = trimR h true (retOf (m_check_free [some a0] h)) := fnR_pos (b := true) (n := P_check_free.length) (N := N_check_free.length) (body := m_check_free) (σ := [some a0]) rfl rfl
theorem e_contrary (a0 : Q.D) (h : AH) : f_contrary [a0] h = trimR h true (retOf (m_contrary [some a0] h)) := fnR_pos (b := true) (n := P_contrary.length) (N := N_contrary.length) (body := m_contrary) (σ := [some a0]) rfl rfl
theorem e_mirror (a0 : Q.D) (h : AH) : f_mirror [a0] h = trimR h true (retOf (m_mirror [some a0] h)) := fnR_pos (b := true) (n := P_mirror.length) (N := N_mirror.length) (body := m_mirror) (σ := [some a0]) rfl rfl
theorem e_always_holds (a0 : Q.D) (h : AH) : f_always_holds [a0] h = trimR h true (retOf (m_always_holds [some a0] h)) := fnR_pos (b := true) (n := P_always_holds.length) (N := N_always_holds.length) (body := m_always_holds) (σ := [some a0]) rfl rfl
theorem e_by_itself (a0 : Q.D) (h : AH) : f_by_itself [a0] h = trimR h true (retOf (m_by_itself [some a0] h)) := fnR_pos (b := true) (n := P_by_itself.length) (N := N_by_itself.length) (body := m_by_itself) (σ := [some a0]) rfl rfl
theorem e_is_entry (a0 a1 : Q.D) (h : AH) : f_is_entry [a0, a1] h = trimR h true (retOf (m_is_entry [some a0, some a1] h)) := fnR_pos (b := true) (n := P_is_entry.length) (N := N_is_entry.length) (body := m_is_entry) (σ := [some a0, some a1]) rfl rfl
theorem e_is_book (a0 : Q.D) (h : AH) : f_is_book [a0] h = trimR h true (retOf (m_is_book [some a0, none, none, none] h)) := fnR_pos (b := true) (n := P_is_book.length) (N := N_is_book.length) (body := m_is_book) (σ := [some a0, none, none, none]) rfl rfl
theorem e_check_book (a0 a1 : Q.D) (h : AH) : f_check_book [a0, a1] h = trimR h true (retOf (m_check_book [some a0, some a1] h)) := fnR_pos (b := true) (n := P_check_book.length) (N := N_check_book.length) (body := m_check_book) (σ := [some a0, some a1]) rfl rfl
theorem e_made_book (a0 a1 : Q.D) (h : AH) : f_made_book [a0, a1] h = trimR h true (retOf (m_made_book [some a0, some a1, none] h)) := fnR_pos (b := true) (n := P_made_book.length) (N := N_made_book.length) (body := m_made_book) (σ := [some a0, some a1, none]) rfl rfl
theorem e_check_terms (a0 a1 a2 : Q.D) (h : AH) : f_check_terms [a0, a1, a2] h = trimR h true (retOf (m_check_terms [some a0, some a1, some a2, none] h)) := fnR_pos (b := true) (n := P_check_terms.length) (N := N_check_terms.length) (body := m_check_terms) (σ := [some a0, some a1, some a2, none]) rfl rfl
theorem e_table_of (a0 a1 : Q.D) (h : AH) : f_table_of [a0, a1] h = trimR h true (retOf (m_table_of [some a0, some a1, none, none, none] h)) := fnR_pos (b := true) (n := P_table_of.length) (N := N_table_of.length) (body := m_table_of) (σ := [some a0, some a1, none, none, none]) rfl rfl
theorem e_translated_by (a0 a1 : Q.D) (h : AH) : f_translated_by [a0, a1] h = trimR h true (retOf (m_translated_by [some a0, some a1, none, none, none] h)) := fnR_pos (b := true) (n := P_translated_by.length) (N := N_translated_by.length) (body := m_translated_by) (σ := [some a0, some a1, none, none, none]) rfl rfl
theorem e_translated (a0 a1 a2 a3 : Q.D) (h : AH) : f_translated [a0, a1, a2, a3] h = trimR h true (retOf (m_translated [some a0, some a1, some a2, some a3] h)) := fnR_pos (b := true) (n := P_translated.length) (N := N_translated.length) (body := m_translated) (σ := [some a0, some a1, some a2, some a3]) rfl rfl
theorem e_translated_book (a0 a1 a2 : Q.D) (h : AH) : f_translated_book [a0, a1, a2] h = trimR h true (retOf (m_translated_book [some a0, some a1, some a2, none, none, none] h)) := fnR_pos (b := true) (n := P_translated_book.length) (N := N_translated_book.length) (body := m_translated_book) (σ := [some a0, some a1, some a2, none, none, none]) rfl rfl
theorem e_n__law_stream (a0 : Q.D) (h : AH) : f_n__law_stream [a0] h = trimR h false (retOf (m_n__law_stream [some a0] h)) := fnR_pos (b := false) (n := P_n__law_stream.length) (N := N_n__law_stream.length) (body := m_n__law_stream) (σ := [some a0]) rfl rfl
theorem e_n__law_next (a0 a1 : Q.D) (h : AH) : f_n__law_next [a0, a1] h = trimR h true (retOf (m_n__law_next [some a0, some a1, none, none, none] h)) := fnR_pos (b := true) (n := P_n__law_next.length) (N := N_n__law_next.length) (body := m_n__law_next) (σ := [some a0, some a1, none, none, none]) rfl rfl
theorem e_n__law_pick (a0 a1 : Q.D) (h : AH) : f_n__law_pick [a0, a1] h = trimR h true (retOf (m_n__law_pick [some a0, some a1] h)) := fnR_pos (b := true) (n := P_n__law_pick.length) (N := N_n__law_pick.length) (body := m_n__law_pick) (σ := [some a0, some a1]) rfl rfl
theorem e_n__law_same (a0 a1 : Q.D) (h : AH) : f_n__law_same [a0, a1] h = trimR h true (retOf (m_n__law_same [some a0, some a1, none, none, none, none, none] h)) := fnR_pos (b := true) (n := P_n__law_same.length) (N := N_n__law_same.length) (body := m_n__law_same) (σ := [some a0, some a1, none, none, none, none, none]) rfl rfl
theorem e_n__law_kind (a0 : Q.D) (h : AH) : f_n__law_kind [a0] h = trimR h true (retOf (m_n__law_kind [some a0, none, none, none] h)) := fnR_pos (b := true) (n := P_n__law_kind.length) (N := N_n__law_kind.length) (body := m_n__law_kind) (σ := [some a0, none, none, none]) rfl rfl
theorem e_n__law_kinds (a0 a1 : Q.D) (h : AH) : f_n__law_kinds [a0, a1] h = trimR h true (retOf (m_n__law_kinds [some a0, some a1, none, none, none, none, none, none, none, none] h)) := fnR_pos (b := true) (n := P_n__law_kinds.length) (N := N_n__law_kinds.length) (body := m_n__law_kinds) (σ := [some a0, some a1, none, none, none, none, none, none, none, none]) rfl rfl
theorem e_n__law_bit (a0 : Q.D) (h : AH) : f_n__law_bit [a0] h = trimR h true (retOf (m_n__law_bit [some a0] h)) := fnR_pos (b := true) (n := P_n__law_bit.length) (N := N_n__law_bit.length) (body := m_n__law_bit) (σ := [some a0]) rfl rfl
theorem e_n__law_flip (a0 : Q.D) (h : AH) : f_n__law_flip [a0] h = trimR h true (retOf (m_n__law_flip [some a0] h)) := fnR_pos (b := true) (n := P_n__law_flip.length) (N := N_n__law_flip.length) (body := m_n__law_flip) (σ := [some a0]) rfl rfl
theorem e_n__law_sentence (a0 a1 : Q.D) (h : AH) : f_n__law_sentence [a0, a1] h = trimR h true (retOf (m_n__law_sentence [some a0, some a1, none, none, none] h)) := fnR_pos (b := true) (n := P_n__law_sentence.length) (N := N_n__law_sentence.length) (body := m_n__law_sentence) (σ := [some a0, some a1, none, none, none]) rfl rfl
theorem e_n__law_question (a0 a1 : Q.D) (h : AH) : f_n__law_question [a0, a1] h = trimR h true (retOf (m_n__law_question [some a0, some a1, none, none, none] h)) := fnR_pos (b := true) (n := P_n__law_question.length) (N := N_n__law_question.length) (body := m_n__law_question) (σ := [some a0, some a1, none, none, none]) rfl rfl
theorem e_n__law_numbered (a0 a1 : Q.D) (h : AH) : f_n__law_numbered [a0, a1] h = trimR h true (retOf (m_n__law_numbered [some a0, some a1, none, none, none, none] h)) := fnR_pos (b := true) (n := P_n__law_numbered.length) (N := N_n__law_numbered.length) (body := m_n__law_numbered) (σ := [some a0, some a1, none, none, none, none]) rfl rfl
theorem e_n__law_entries (a0 a1 a2 : Q.D) (h : AH) : f_n__law_entries [a0, a1, a2] h = trimR h true (retOf (m_n__law_entries [some a0, some a1, some a2, none, none, none, none, none, none, none, none, none] h)) := fnR_pos (b := true) (n := P_n__law_entries.length) (N := N_n__law_entries.length) (body := m_n__law_entries) (σ := [some a0, some a1, some a2, none, none, none, none, none, none, none, none, none]) rfl rfl
theorem e_n__law_different (a0 : Q.D) (h : AH) : f_n__law_different [a0] h = trimR h true (retOf (m_n__law_different [some a0, none, none, none] h)) := fnR_pos (b := true) (n := P_n__law_different.length) (N := N_n__law_different.length) (body := m_n__law_different) (σ := [some a0, none, none, none]) rfl rfl
theorem e_n__law_term_by (a0 a1 a2 : Q.D) (h : AH) : f_n__law_term_by [a0, a1, a2] h = trimR h true (retOf (m_n__law_term_by [some a0, some a1, some a2, none, none] h)) := fnR_pos (b := true) (n := P_n__law_term_by.length) (N := N_n__law_term_by.length) (body := m_n__law_term_by) (σ := [some a0, some a1, some a2, none, none]) rfl rfl
theorem e_n__law_sentence_by (a0 a1 a2 : Q.D) (h : AH) : f_n__law_sentence_by [a0, a1, a2] h = trimR h true (retOf (m_n__law_sentence_by [some a0, some a1, some a2] h)) := fnR_pos (b := true) (n := P_n__law_sentence_by.length) (N := N_n__law_sentence_by.length) (body := m_n__law_sentence_by) (σ := [some a0, some a1, some a2]) rfl rfl
theorem e_n__law_by (a0 a1 a2 : Q.D) (h : AH) : f_n__law_by [a0, a1, a2] h = trimR h true (retOf (m_n__law_by [some a0, some a1, some a2, none] h)) := fnR_pos (b := true) (n := P_n__law_by.length) (N := N_n__law_by.length) (body := m_n__law_by) (σ := [some a0, some a1, some a2, none]) rfl rfl
theorem e_n__law_target (a0 a1 a2 : Q.D) (h : AH) : f_n__law_target [a0, a1, a2] h = trimR h true (retOf (m_n__law_target [some a0, some a1, some a2, none, none, none, none, none] h)) := fnR_pos (b := true) (n := P_n__law_target.length) (N := N_n__law_target.length) (body := m_n__law_target) (σ := [some a0, some a1, some a2, none, none, none, none, none]) rfl rfl
theorem e_n__law_goes (a0 a1 a2 a3 : Q.D) (h : AH) : f_n__law_goes [a0, a1, a2, a3] h = trimR h true (retOf (m_n__law_goes [some a0, some a1, some a2, some a3, none] h)) := fnR_pos (b := true) (n := P_n__law_goes.length) (N := N_n__law_goes.length) (body := m_n__law_goes) (σ := [some a0, some a1, some a2, some a3, none]) rfl rfl
theorem e_n__law_twice (a0 a1 a2 a3 a4 : Q.D) (h : AH) : f_n__law_twice [a0, a1, a2, a3, a4] h = trimR h true (retOf (m_n__law_twice [some a0, some a1, some a2, some a3, some a4, none, none, none, none, none] h)) := fnR_pos (b := true) (n := P_n__law_twice.length) (N := N_n__law_twice.length) (body := m_n__law_twice) (σ := [some a0, some a1, some a2, some a3, some a4, none, none, none, none, none]) rfl rfl
theorem e_law (a0 : Q.D) (h : AH) : f_law [a0] h = trimR h true (retOf (m_law [some a0, none, none, none, none, none, none, none, none, none, none, none, none, none, none, none] h)) := fnR_pos (b := true) (n := P_law.length) (N := N_law.length) (body := m_law) (σ := [some a0, none, none, none, none, none, none, none, none, none, none, none, none, none, none, none]) rfl rfl

section
variable {P : Program} {w : World} {K : PySem.W.Frag} {mg : Str → Option Value} {base : Heap} {fa : Addr} {fd : FuncData}
theorem ok_is_integer (fr : Fr mg K)  (F : FunD K "is_integer" "is_integer" (defArgs s_is_integer) (defBody s_is_integer) (defScope s_is_integer) [] [] fa fd) :
    FnOk P w K mg base CX0 1 fa fd P_is_integer (spOf P w K mg f_is_integer) :=
  fn_ok (k := 0) (body := m_is_integer) F sc_is_integer fun cdv A outer s H E hr => by
    have hu := hu64 hr
    exact (qss_cons (qs_ret (q_and (q_isi (T := "int") rfl fr.isinstance (qv 0) rfl fr.int (by decide +kernel)) (q_one (q_not (q_isi (T := "bool") rfl fr.isinstance (qv 0) rfl fr.bool (by decide +kernel))))))
  qss_nil)
theorem ok_is_bit (fr : Fr mg K)  (F : FunD K "is_bit" "is_bit" (defArgs s_is_bit) (defBody s_is_bit) (defScope s_is_bit) [] [] fa fd) :
    FnOk P w K mg base CX0 1 fa fd P_is_bit (spOf P w K mg f_is_bit) :=
  fn_ok (k := 0) (body := m_is_bit) F sc_is_bit fun cdv A outer s H E hr => by
    have hu := hu64 hr
    exact (qss_cons (qs_ret (q_isi (T := "bool") rfl fr.isinstance (qv 0) rfl fr.bool (by decide +kernel)))
  qss_nil)
theorem ok_is_from_to (fr : Fr mg K) (d_is_integer_1 : Def P w K mg base CX0 1 "is_integer" [] f_is_integer) (F : FunD K "is_from_to" "is_from_to" (defArgs s_is_from_to) (defBody s_is_from_to) (defScope s_is_from_to) [] [] fa fd) :
    FnOk P w K mg base CX0 2 fa fd P_is_from_to (spOf P w K mg f_is_from_to) :=
  fn_ok (k := 1) (body := m_is_from_to) F sc_is_from_to fun cdv A outer s H E hr => by
    have hu := hu64 hr
    have c_is_integer_1 : ∀ {X : Cx} {W : WX}, X.prog = P → X.w = w → X.K = K → X.mg = mg → X.base = base → X.A = _ → Cal X W "is_integer" [] f_is_integer := fun e1 e2 e3 e4 e5 e6 => Def.calE d_is_integer_1 (hr.mono (by decide)) pass0At e1 e2 e3 e4 e5 e6
    exact (qss_cons (qs_ret (q_and (q_fn (c_is_integer_1 rfl rfl rfl rfl rfl rfl) rfl (qa_cons (qv 0) qa_nil)) (q_one (q_chain (opd_le hu) (opd_le hu) (qv 1) (qv 0) (qv 2)))))
  qss_nil)
theorem ok_is_tuple_of (fr : Fr mg K)  (F : FunD K "is_tuple_of" "is_tuple_of" (defArgs s_is_tuple_of) (defBody s_is_tuple_of) (defScope s_is_tuple_of) [] [] fa fd) :
    FnOk P w K mg base CX0 1 fa fd P_is_tuple_of (spOf P w K mg f_is_tuple_of) :=
  fn_ok (k := 0) (body := m_is_tuple_of) F sc_is_tuple_of fun cdv A outer s H E hr => by
    have hu := hu64 hr
    exact (qss_cons (qs_ret (q_and (q_isi (T := "tuple") rfl fr.isinstance (qv 0) rfl fr.tuple (by decide +kernel)) (q_one (q_chain (opd_le hu) (opd_le hu) (qv 1) (q_bltn cd_len rfl fr.len (by decide +kernel) (qa_cons (qv 0) qa_nil)) (qv 2)))))
  qss_nil)
theorem ok_is_ascending (fr : Fr mg K)  (F : FunD K "is_ascending" "is_ascending" (defArgs s_is_ascending) (defBody s_is_ascending) (defScope s_is_ascending) [] [] fa fd) :
    FnOk P w K mg base CX0 1 fa fd P_is_ascending (spOf P w K mg f_is_ascending) :=
  fn_ok (k := 0) (body := m_is_ascending) F sc_is_ascending fun cdv A outer s H E hr => by
    have hu := hu64 hr
    exact (qss_cons (qs_ret (q_bltn (cd_all rfl) rfl fr.all (by decide +kernel) (qa_cons (q_lc (own := [("at", 1)]) rfl sc_is_ascending.nd (qi_range1 rfl fr.range (q_op opd_sub (q_bltn cd_len rfl fr.len (by decide +kernel) (qa_cons (qv 0) qa_nil)) q_int)) (blkOk_by (own := [("at", 1)]) (N := N_is_ascending) (sc := defScope s_is_ascending) (by decide +kernel)) (fun _ _ _ _ _ => (qgn (i := 1) sc_is_ascending.nd)) (fun _ _ _ _ _ => qts_nil) (fun _ _ _ _ _ => (q_cmp (opd_lt hu) (q_ix (ixd hu) (qv 0) (qv 1)) (q_ix (ixd hu) (qv 0) (q_op opd_plus (qv 1) q_int)) (by rfl)))) qa_nil)))
  qss_nil)
theorem ok_without_doubles (fr : Fr mg K)  (F : FunD K "without_doubles" "without_doubles" (defArgs s_without_doubles) (defBody s_without_doubles) (defScope s_without_doubles) [] [] fa fd) :
    FnOk P w K mg base CX0 1 fa fd P_without_doubles (spOf P w K mg f_without_doubles) :=
  fn_ok (k := 0) (body := m_without_doubles) F sc_without_doubles fun cdv A outer s H E hr => by
    have hu := hu64 hr
    exact (qss_cons (qsn (i := 1) sc_without_doubles.nd q_newT)
  (qss_cons (qs_for (passes_of rfl) rfl (qi_seq (qv 0)) (qgn (i := 2) sc_without_doubles.nd) (qss_cons (qs_asg q_bl (qg_sub (W := WNever) (setd hu) (qv 1) (qv 2)))
  qss_nil))
  (qss_cons (qs_ret (q_btyp (cd_listF rfl) rfl fr.list (by decide +kernel) (qa_cons (qv 1) qa_nil)))
  qss_nil)))
theorem ok_is_kind (fr : Fr mg K)  (F : FunD K "is_kind" "is_kind" (defArgs s_is_kind) (defBody s_is_kind) (defScope s_is_kind) [] [] fa fd) :
    FnOk P w K mg base CX0 1 fa fd P_is_kind (spOf P w K mg f_is_kind) :=
  fn_ok (k := 0) (body := m_is_kind) F sc_is_kind fun cdv A outer s H E hr => by
    have hu := hu64 hr
    exact (qss_cons (qs_if (QW.qt (qw_or (qt_not (qt_val (q_isi (T := "str") rfl fr.isinstance (qv 0) rfl fr.str (by decide +kernel)))) (qw_or1 (qt_not (qt_chain (opd_le hu) (opd_le hu) q_int (q_bltn cd_len rfl fr.len (by decide +kernel) (qa_cons (qv 0) qa_nil)) (q_glob fr.MOST_SIGNS rfl)))))) (qss_cons (qs_ret q_bl)
  qss_nil) qss_nil)
  (qss_cons (qs_ret (q_and (q_chain (opd_le hu) (opd_le hu) q_str (q_ix (ixd hu) (qv 0) q_int) q_str) (q_one (q_bltn (cd_all rfl) rfl fr.all (by decide +kernel) (qa_cons (q_lc (own := [("sign", 1)]) rfl sc_is_kind.nd (qi_seq (qv 0)) (blkOk_by (own := [("sign", 1)]) (N := N_is_kind) (sc := defScope s_is_kind) (by decide +kernel)) (fun _ _ _ _ _ => (qgn (i := 1) sc_is_kind.nd)) (fun _ _ _ _ _ => qts_nil) (fun _ _ _ _ _ => (q_or (q_chain (opd_le hu) (opd_le hu) q_str (qv 1) q_str) (q_one (q_chain (opd_le hu) (opd_le hu) q_str (qv 1) q_str))))) qa_nil)))))
  qss_nil))
theorem ok_is_source (fr : Fr mg K) (d_is_from_to_3 : Def P w K mg base CX0 2 "is_from_to" [] f_is_from_to) (F : FunD K "is_source" "is_source" (defArgs s_is_source) (defBody s_is_source) (defScope s_is_source) [] [] fa fd) :
    FnOk P w K mg base CX0 3 fa fd P_is_source (spOf P w K mg f_is_source) :=
  fn_ok (k := 2) (body := m_is_source) F sc_is_source fun cdv A outer s H E hr => by
    have hu := hu64 hr
    have c_is_from_to_3 : ∀ {X : Cx} {W : WX}, X.prog = P → X.w = w → X.K = K → X.mg = mg → X.base = base → X.A = _ → Cal X W "is_from_to" [] f_is_from_to := fun e1 e2 e3 e4 e5 e6 => Def.calE d_is_from_to_3 (hr.mono (by decide)) pass0At e1 e2 e3 e4 e5 e6
    exact (qss_cons (qs_ret (q_fn (c_is_from_to_3 rfl rfl rfl rfl rfl rfl) rfl (qa_cons (qv 0) (qa_cons q_int (qa_cons (q_glob fr.MOST_SOURCE rfl) qa_nil)))))
  qss_nil)
theorem ok_is_kind_row (fr : Fr mg K) (d_is_ascending_1 : Def P w K mg base CX0 1 "is_ascending" [] f_is_ascending) (d_is_kind_1 : Def P w K mg base CX0 1 "is_kind" [] f_is_kind) (d_is_tuple_of_3 : Def P w K mg base CX0 1 "is_tuple_of" [] f_is_tuple_of) (F : FunD K "is_kind_row" "is_kind_row" (defArgs s_is_kind_row) (defBody s_is_kind_row) (defScope s_is_kind_row) [] [] fa fd) :
    FnOk P w K mg base CX0 2 fa fd P_is_kind_row (spOf P w K mg f_is_kind_row) :=
  fn_ok (k := 1) (body := m_is_kind_row) F sc_is_kind_row fun cdv A outer s H E hr => by
    have hu := hu64 hr
    have c_is_ascending_1 : ∀ {X : Cx} {W : WX}, X.prog = P → X.w = w → X.K = K → X.mg = mg → X.base = base → X.A = _ → Cal X W "is_ascending" [] f_is_ascending := fun e1 e2 e3 e4 e5 e6 => Def.calE d_is_ascending_1 (hr.mono (by decide)) pass0At e1 e2 e3 e4 e5 e6
    have c_is_kind_1 : ∀ {X : Cx} {W : WX}, X.prog = P → X.w = w → X.K = K → X.mg = mg → X.base = base → X.A = _ → Cal X W "is_kind" [] f_is_kind := fun e1 e2 e3 e4 e5 e6 => Def.calE d_is_kind_1 (hr.mono (by decide)) pass0At e1 e2 e3 e4 e5 e6
    have c_is_tuple_of_3 : ∀ {X : Cx} {W : WX}, X.prog = P → X.w = w → X.K = K → X.mg = mg → X.base = base → X.A = _ → Cal X W "is_tuple_of" [] f_is_tuple_of := fun e1 e2 e3 e4 e5 e6 => Def.calE d_is_tuple_of_3 (hr.mono (by decide)) pass0At e1 e2 e3 e4 e5 e6
    exact (qss_cons (qs_ret (q_and (q_fn (c_is_tuple_of_3 rfl rfl rfl rfl rfl rfl) rfl (qa_cons (qv 0) (qa_cons (qv 1) (qa_cons (q_glob fr.MOST_KINDS rfl) qa_nil)))) (q_and (q_bltn (cd_all rfl) rfl fr.all (by decide +kernel) (qa_cons (q_lc (own := [("one", 2)]) rfl sc_is_kind_row.nd (qi_seq (qv 0)) (blkOk_by (own := [("one", 2)]) (N := N_is_kind_row) (sc := defScope s_is_kind_row) (by decide +kernel)) (fun _ _ _ _ _ => (qgn (i := 2) sc_is_kind_row.nd)) (fun _ _ _ _ _ => qts_nil) (fun _ _ _ _ _ => (q_fn (c_is_kind_1 rfl rfl rfl rfl rfl rfl) rfl (qa_cons (qv 2) qa_nil)))) qa_nil)) (q_one (q_fn (c_is_ascending_1 rfl rfl rfl rfl rfl rfl) rfl (qa_cons (qv 0) qa_nil))))))
  qss_nil)
theorem ok_is_kinds (fr : Fr mg K) (d_is_kind_row_2 : Def P w K mg base CX0 2 "is_kind_row" [] f_is_kind_row) (F : FunD K "is_kinds" "is_kinds" (defArgs s_is_kinds) (defBody s_is_kinds) (defScope s_is_kinds) [] [] fa fd) :
    FnOk P w K mg base CX0 3 fa fd P_is_kinds (spOf P w K mg f_is_kinds) :=
  fn_ok (k := 2) (body := m_is_kinds) F sc_is_kinds fun cdv A outer s H E hr => by
    have hu := hu64 hr
    have c_is_kind_row_2 : ∀ {X : Cx} {W : WX}, X.prog = P → X.w = w → X.K = K → X.mg = mg → X.base = base → X.A = _ → Cal X W "is_kind_row" [] f_is_kind_row := fun e1 e2 e3 e4 e5 e6 => Def.calE d_is_kind_row_2 (hr.mono (by decide)) pass0At e1 e2 e3 e4 e5 e6
    exact (qss_cons (qs_ret (q_fn (c_is_kind_row_2 rfl rfl rfl rfl rfl rfl) rfl (qa_cons (qv 0) (qa_cons q_int qa_nil))))
  qss_nil)
theorem ok_is_free_term (fr : Fr mg K) (d_is_bit_1 : Def P w K mg base CX0 1 "is_bit" [] f_is_bit) (d_is_kind_1 : Def P w K mg base CX0 1 "is_kind" [] f_is_kind) (d_is_tuple_of_3 : Def P w K mg base CX0 1 "is_tuple_of" [] f_is_tuple_of) (F : FunD K "is_free_term" "is_free_term" (defArgs s_is_free_term) (defBody s_is_free_term) (defScope s_is_free_term) [] [] fa fd) :
    FnOk P w K mg base CX0 2 fa fd P_is_free_term (spOf P w K mg f_is_free_term) :=
  fn_ok (k := 1) (body := m_is_free_term) F sc_is_free_term fun cdv A outer s H E hr => by
    have hu := hu64 hr
    have c_is_bit_1 : ∀ {X : Cx} {W : WX}, X.prog = P → X.w = w → X.K = K → X.mg = mg → X.base = base → X.A = _ → Cal X W "is_bit" [] f_is_bit := fun e1 e2 e3 e4 e5 e6 => Def.calE d_is_bit_1 (hr.mono (by decide)) pass0At e1 e2 e3 e4 e5 e6
    have c_is_kind_1 : ∀ {X : Cx} {W : WX}, X.prog = P → X.w = w → X.K = K → X.mg = mg → X.base = base → X.A = _ → Cal X W "is_kind" [] f_is_kind := fun e1 e2 e3 e4 e5 e6 => Def.calE d_is_kind_1 (hr.mono (by decide)) pass0At e1 e2 e3 e4 e5 e6
    have c_is_tuple_of_3 : ∀ {X : Cx} {W : WX}, X.prog = P → X.w = w → X.K = K → X.mg = mg → X.base = base → X.A = _ → Cal X W "is_tuple_of" [] f_is_tuple_of := fun e1 e2 e3 e4 e5 e6 => Def.calE d_is_tuple_of_3 (hr.mono (by decide)) pass0At e1 e2 e3 e4 e5 e6
    exact (qss_cons (qs_ret (q_and (q_fn (c_is_tuple_of_3 rfl rfl rfl rfl rfl rfl) rfl (qa_cons (qv 0) (qa_cons q_int (qa_cons q_int qa_nil)))) (q_and (q_fn (c_is_kind_1 rfl rfl rfl rfl rfl rfl) rfl (qa_cons (q_ix (ixd hu) (qv 0) q_int) qa_nil)) (q_one (q_fn (c_is_bit_1 rfl rfl rfl rfl rfl rfl) rfl (qa_cons (q_ix (ixd hu) (qv 0) q_int) qa_nil))))))
  qss_nil)
theorem ok_is_term_over (fr : Fr mg K) (d_is_bit_1 : Def P w K mg base CX0 1 "is_bit" [] f_is_bit) (d_is_tuple_of_3 : Def P w K mg base CX0 1 "is_tuple_of" [] f_is_tuple_of) (F : FunD K "is_term_over" "is_term_over" (defArgs s_is_term_over) (defBody s_is_term_over) (defScope s_is_term_over) [] [] fa fd) :
    FnOk P w K mg base CX0 2 fa fd P_is_term_over (spOf P w K mg f_is_term_over) :=
  fn_ok (k := 1) (body := m_is_term_over) F sc_is_term_over fun cdv A outer s H E hr => by
    have hu := hu64 hr
    have c_is_bit_1 : ∀ {X : Cx} {W : WX}, X.prog = P → X.w = w → X.K = K → X.mg = mg → X.base = base → X.A = _ → Cal X W "is_bit" [] f_is_bit := fun e1 e2 e3 e4 e5 e6 => Def.calE d_is_bit_1 (hr.mono (by decide)) pass0At e1 e2 e3 e4 e5 e6
    have c_is_tuple_of_3 : ∀ {X : Cx} {W : WX}, X.prog = P → X.w = w → X.K = K → X.mg = mg → X.base = base → X.A = _ → Cal X W "is_tuple_of" [] f_is_tuple_of := fun e1 e2 e3 e4 e5 e6 => Def.calE d_is_tuple_of_3 (hr.mono (by decide)) pass0At e1 e2 e3 e4 e5 e6
    exact (qss_cons (qs_ret (q_and (q_fn (c_is_tuple_of_3 rfl rfl rfl rfl rfl rfl) rfl (qa_cons (qv 1) (qa_cons q_int (qa_cons q_int qa_nil)))) (q_and (q_isi (T := "str") rfl fr.isinstance (q_ix (ixd hu) (qv 1) q_int) rfl fr.str (by decide +kernel)) (q_and (q_cmp (opd_in hu) (q_ix (ixd hu) (qv 1) q_int) (qv 0) (by rfl)) (q_one (q_fn (c_is_bit_1 rfl rfl rfl rfl rfl rfl) rfl (qa_cons (q_ix (ixd hu) (qv 1) q_int) qa_nil)))))))
  qss_nil)
theorem ok_check_kinds (fr : Fr mg K) (d_is_kinds_1 : Def P w K mg base CX0 3 "is_kinds" [] f_is_kinds) (F : FunD K "check_kinds" "check_kinds" (defArgs s_check_kinds) (defBody s_check_kinds) (defScope s_check_kinds) [.str "kinds"] [] fa fd) :
    FnOk P w K mg base CX0 4 fa fd P_check_kinds (spOf P w K mg f_check_kinds) :=
  fn_ok (k := 3) (body := m_check_kinds) F sc_check_kinds fun cdv A outer s H E hr => by
    have hu := hu64 hr
    have c_is_kinds_1 : ∀ {X : Cx} {W : WX}, X.prog = P → X.w = w → X.K = K → X.mg = mg → X.base = base → X.A = _ → Cal X W "is_kinds" [] f_is_kinds := fun e1 e2 e3 e4 e5 e6 => Def.calE d_is_kinds_1 (hr.mono (by decide)) pass0At e1 e2 e3 e4 e5 e6
    exact (qss_cons (qs_if (qt_not (qt_val (q_fn (c_is_kinds_1 rfl rfl rfl rfl rfl rfl) rfl (qa_cons (qv 0) qa_nil)))) (qss_cons qs_never
  qss_nil) qss_nil)
  qss_nil)
theorem ok_flip (fr : Fr mg K)  (F : FunD K "flip" "flip" (defArgs s_flip) (defBody s_flip) (defScope s_flip) [] [] fa fd) :
    FnOk P w K mg base CX0 1 fa fd P_flip (spOf P w K mg f_flip) :=
  fn_ok (k := 0) (body := m_flip) F sc_flip fun cdv A outer s H E hr => by
    have hu := hu64 hr
    exact (qss_cons (qs_ret (q_tup (qa_cons (q_ix (ixd hu) (qv 0) q_int) (qa_cons (q_not (q_ix (ixd hu) (qv 0) q_int)) qa_nil))))
  qss_nil)
theorem ok_is_word_and (fr : Fr mg K) (d_is_tuple_of_3 : Def P w K mg base CX0 1 "is_tuple_of" [] f_is_tuple_of) (F : FunD K "is_word_and" "is_word_and" (defArgs s_is_word_and) (defBody s_is_word_and) (defScope s_is_word_and) [] [] fa fd) :
    FnOk P w K mg base CX0 2 fa fd P_is_word_and (spOf P w K mg f_is_word_and) :=
  fn_ok (k := 1) (body := m_is_word_and) F sc_is_word_and fun cdv A outer s H E hr => by
    have hu := hu64 hr
    have c_is_tuple_of_3 : ∀ {X : Cx} {W : WX}, X.prog = P → X.w = w → X.K = K → X.mg = mg → X.base = base → X.A = _ → Cal X W "is_tuple_of" [] f_is_tuple_of := fun e1 e2 e3 e4 e5 e6 => Def.calE d_is_tuple_of_3 (hr.mono (by decide)) pass0At e1 e2 e3 e4 e5 e6
    exact (qss_cons (qs_ret (q_and (q_fn (c_is_tuple_of_3 rfl rfl rfl rfl rfl rfl) rfl (qa_cons (qv 0) (qa_cons (qv 1) (qa_cons (qv 1) qa_nil)))) (q_and (q_isi (T := "str") rfl fr.isinstance (q_ix (ixd hu) (qv 0) q_int) rfl fr.str (by decide +kernel)) (q_one (q_cmp (opd_in hu) (q_ix (ixd hu) (qv 0) q_int) (q_glob fr.WORDS rfl) (by rfl))))))
  qss_nil)
theorem ok_is_free_sentence (fr : Fr mg K) (d_is_free_term_1 : Def P w K mg base CX0 2 "is_free_term" [] f_is_free_term) (d_is_word_and_2 : Def P w K mg base CX0 2 "is_word_and" [] f_is_word_and) (F : FunD K "is_free_sentence" "is_free_sentence" (defArgs s_is_free_sentence) (defBody s_is_free_sentence) (defScope s_is_free_sentence) [] [] fa fd) :
    FnOk P w K mg base CX0 3 fa fd P_is_free_sentence (spOf P w K mg f_is_free_sentence) :=
  fn_ok (k := 2) (body := m_is_free_sentence) F sc_is_free_sentence fun cdv A outer s H E hr => by
    have hu := hu64 hr
    have c_is_free_term_1 : ∀ {X : Cx} {W : WX}, X.prog = P → X.w = w → X.K = K → X.mg = mg → X.base = base → X.A = _ → Cal X W "is_free_term" [] f_is_free_term := fun e1 e2 e3 e4 e5 e6 => Def.calE d_is_free_term_1 (hr.mono (by decide)) pass0At e1 e2 e3 e4 e5 e6
    have c_is_word_and_2 : ∀ {X : Cx} {W : WX}, X.prog = P → X.w = w → X.K = K → X.mg = mg → X.base = base → X.A = _ → Cal X W "is_word_and" [] f_is_word_and := fun e1 e2 e3 e4 e5 e6 => Def.calE d_is_word_and_2 (hr.mono (by decide)) pass0At e1 e2 e3 e4 e5 e6
    exact (qss_cons (qs_ret (q_and (q_fn (c_is_word_and_2 rfl rfl rfl rfl rfl rfl) rfl (qa_cons (qv 0) (qa_cons q_int qa_nil))) (q_and (q_fn (c_is_free_term_1 rfl rfl rfl rfl rfl rfl) rfl (qa_cons (q_ix (ixd hu) (qv 0) q_int) qa_nil)) (q_one (q_fn (c_is_free_term_1 rfl rfl rfl rfl rfl rfl) rfl (qa_cons (q_ix (ixd hu) (qv 0) q_int) qa_nil))))))
  qss_nil)
theorem ok_is_sentence_over (fr : Fr mg K) (d_is_term_over_2 : Def P w K mg base CX0 2 "is_term_over" [] f_is_term_over) (d_is_word_and_2 : Def P w K mg base CX0 2 "is_word_and" [] f_is_word_and) (F : FunD K "is_sentence_over" "is_sentence_over" (defArgs s_is_sentence_over) (defBody s_is_sentence_over) (defScope s_is_sentence_over) [] [] fa fd) :
    FnOk P w K mg base CX0 3 fa fd P_is_sentence_over (spOf P w K mg f_is_sentence_over) :=
  fn_ok (k := 2) (body := m_is_sentence_over) F sc_is_sentence_over fun cdv A outer s H E hr => by
    have hu := hu64 hr
    have c_is_term_over_2 : ∀ {X : Cx} {W : WX}, X.prog = P → X.w = w → X.K = K → X.mg = mg → X.base = base → X.A = _ → Cal X W "is_term_over" [] f_is_term_over := fun e1 e2 e3 e4 e5 e6 => Def.calE d_is_term_over_2 (hr.mono (by decide)) pass0At e1 e2 e3 e4 e5 e6
    have c_is_word_and_2 : ∀ {X : Cx} {W : WX}, X.prog = P → X.w = w → X.K = K → X.mg = mg → X.base = base → X.A = _ → Cal X W "is_word_and" [] f_is_word_and := fun e1 e2 e3 e4 e5 e6 => Def.calE d_is_word_and_2 (hr.mono (by decide)) pass0At e1 e2 e3 e4 e5 e6
    exact (qss_cons (qs_ret (q_and (q_fn (c_is_word_and_2 rfl rfl rfl rfl rfl rfl) rfl (qa_cons (qv 1) (qa_cons q_int qa_nil))) (q_and (q_fn (c_is_term_over_2 rfl rfl rfl rfl rfl rfl) rfl (qa_cons (qv 0) (qa_cons (q_ix (ixd hu) (qv 1) q_int) qa_nil))) (q_one (q_fn (c_is_term_over_2 rfl rfl rfl rfl rfl rfl) rfl (qa_cons (qv 0) (qa_cons (q_ix (ixd hu) (qv 1) q_int) qa_nil)))))))
  qss_nil)
theorem ok_is_question_over (fr : Fr mg K) (d_is_sentence_over_2 : Def P w K mg base CX0 3 "is_sentence_over" [] f_is_sentence_over) (d_is_tuple_of_3 : Def P w K mg base CX0 1 "is_tuple_of" [] f_is_tuple_of) (F : FunD K "is_question_over" "is_question_over" (defArgs s_is_question_over) (defBody s_is_question_over) (defScope s_is_question_over) [] [] fa fd) :
    FnOk P w K mg base CX0 4 fa fd P_is_question_over (spOf P w K mg f_is_question_over) :=
  fn_ok (k := 3) (body := m_is_question_over) F sc_is_question_over fun cdv A outer s H E hr => by
    have hu := hu64 hr
    have c_is_sentence_over_2 : ∀ {X : Cx} {W : WX}, X.prog = P → X.w = w → X.K = K → X.mg = mg → X.base = base → X.A = _ → Cal X W "is_sentence_over" [] f_is_sentence_over := fun e1 e2 e3 e4 e5 e6 => Def.calE d_is_sentence_over_2 (hr.mono (by decide)) pass0At e1 e2 e3 e4 e5 e6
    have c_is_tuple_of_3 : ∀ {X : Cx} {W : WX}, X.prog = P → X.w = w → X.K = K → X.mg = mg → X.base = base → X.A = _ → Cal X W "is_tuple_of" [] f_is_tuple_of := fun e1 e2 e3 e4 e5 e6 => Def.calE d_is_tuple_of_3 (hr.mono (by decide)) pass0At e1 e2 e3 e4 e5 e6
    exact (qss_cons (qs_if (qt_val (q_fn (c_is_sentence_over_2 rfl rfl rfl rfl rfl rfl) rfl (qa_cons (qv 0) (qa_cons (qv 1) qa_nil)))) (qss_cons (qs_ret q_bl)
  qss_nil) qss_nil)
  (qss_cons (qs_ret (q_and (q_fn (c_is_tuple_of_3 rfl rfl rfl rfl rfl rfl) rfl (qa_cons (qv 1) (qa_cons q_int (qa_cons (q_glob fr.MOST_PARTS rfl) qa_nil)))) (q_one (q_bltn (cd_all rfl) rfl fr.all (by decide +kernel) (qa_cons (q_lc (own := [("one", 2)]) rfl sc_is_question_over.nd (qi_seq (qv 1)) (blkOk_by (own := [("one", 2)]) (N := N_is_question_over) (sc := defScope s_is_question_over) (by decide +kernel)) (fun _ _ _ _ _ => (qgn (i := 2) sc_is_question_over.nd)) (fun _ _ _ _ _ => qts_nil) (fun _ _ _ _ _ => (q_fn (c_is_sentence_over_2 rfl rfl rfl rfl rfl rfl) rfl (qa_cons (qv 0) (qa_cons (qv 2) qa_nil))))) qa_nil)))))
  qss_nil))
theorem ok_check_question (fr : Fr mg K) (d_is_question_over_2 : Def P w K mg base CX0 4 "is_question_over" [] f_is_question_over) (F : FunD K "check_question" "check_question" (defArgs s_check_question) (defBody s_check_question) (defScope s_check_question) [.str "question"] [] fa fd) :
    FnOk P w K mg base CX0 5 fa fd P_check_question (spOf P w K mg f_check_question) :=
  fn_ok (k := 4) (body := m_check_question) F sc_check_question fun cdv A outer s H E hr => by
    have hu := hu64 hr
    have c_is_question_over_2 : ∀ {X : Cx} {W : WX}, X.prog = P → X.w = w → X.K = K → X.mg = mg → X.base = base → X.A = _ → Cal X W "is_question_over" [] f_is_question_over := fun e1 e2 e3 e4 e5 e6 => Def.calE d_is_question_over_2 (hr.mono (by decide)) pass0At e1 e2 e3 e4 e5 e6
    exact (qss_cons (qs_if (qt_not (qt_val (q_fn (c_is_question_over_2 rfl rfl rfl rfl rfl rfl) rfl (qa_cons (qv 0) (qa_cons (qv 1) qa_nil))))) (qss_cons qs_never
  qss_nil) qss_nil)
  qss_nil)
theorem ok_is_question (fr : Fr mg K) (d_check_kinds_1 : Def P w K mg base CX0 4 "check_kinds" [.str "kinds"] f_check_kinds) (d_is_question_over_2 : Def P w K mg base CX0 4 "is_question_over" [] f_is_question_over) (F : FunD K "is_question" "is_question" (defArgs s_is_question) (defBody s_is_question) (defScope s_is_question) [] [] fa fd) :
    FnOk P w K mg base CX0 5 fa fd P_is_question (spOf P w K mg f_is_question) :=
  fn_ok (k := 4) (body := m_is_question) F sc_is_question fun cdv A outer s H E hr => by
    have hu := hu64 hr
    have c_check_kinds_1 : ∀ {X : Cx} {W : WX}, X.prog = P → X.w = w → X.K = K → X.mg = mg → X.base = base → X.A = _ → Cal X W "check_kinds" [.str "kinds"] f_check_kinds := fun e1 e2 e3 e4 e5 e6 => Def.calE d_check_kinds_1 (hr.mono (by decide)) pass0At e1 e2 e3 e4 e5 e6
    have c_is_question_over_2 : ∀ {X : Cx} {W : WX}, X.prog = P → X.w = w → X.K = K → X.mg = mg → X.base = base → X.A = _ → Cal X W "is_question_over" [] f_is_question_over := fun e1 e2 e3 e4 e5 e6 => Def.calE d_is_question_over_2 (hr.mono (by decide)) pass0At e1 e2 e3 e4 e5 e6
    exact (qss_cons (qs_expr (q_fn (c_check_kinds_1 rfl rfl rfl rfl rfl rfl) rfl (qa_cons (qv 0) qa_nil)))
  (qss_cons (qs_ret (q_fn (c_is_question_over_2 rfl rfl rfl rfl rfl rfl) rfl (qa_cons (qv 0) (qa_cons (qv 1) qa_nil))))
  qss_nil))
theorem ok_contrary_of (fr : Fr mg K) (d_flip_1 : Def P w K mg base CX0 1 "flip" [] f_flip) (F : FunD K "contrary_of" "contrary_of" (defArgs s_contrary_of) (defBody s_contrary_of) (defScope s_contrary_of) [] [] fa fd) :
    FnOk P w K mg base CX0 2 fa fd P_contrary_of (spOf P w K mg f_contrary_of) :=
  fn_ok (k := 1) (body := m_contrary_of) F sc_contrary_of fun cdv A outer s H E hr => by
    have hu := hu64 hr
    have c_flip_1 : ∀ {X : Cx} {W : WX}, X.prog = P → X.w = w → X.K = K → X.mg = mg → X.base = base → X.A = _ → Cal X W "flip" [] f_flip := fun e1 e2 e3 e4 e5 e6 => Def.calE d_flip_1 (hr.mono (by decide)) pass0At e1 e2 e3 e4 e5 e6
    exact (qss_cons (qs_asg (qv 0) (qg_tup rfl (qgs_cons (qgn (i := 1) sc_contrary_of.nd) (qgs_cons (qgn (i := 2) sc_contrary_of.nd) (qgs_cons (qgn (i := 3) sc_contrary_of.nd) qgs_nil)))))
  (qss_cons (qs_if (qt_cmp (opd_eq hu) (qv 1) q_str (by rfl)) (qss_cons (qs_ret (q_tup (qa_cons q_str (qa_cons (qv 2) (qa_cons (q_fn (c_flip_1 rfl rfl rfl rfl rfl rfl) rfl (qa_cons (qv 3) qa_nil)) qa_nil)))))
  qss_nil) qss_nil)
  (qss_cons (qs_if (qt_cmp (opd_eq hu) (qv 1) q_str (by rfl)) (qss_cons (qs_ret (q_tup (qa_cons q_str (qa_cons (qv 2) (qa_cons (q_fn (c_flip_1 rfl rfl rfl rfl rfl rfl) rfl (qa_cons (qv 3) qa_nil)) qa_nil)))))
  qss_nil) qss_nil)
  (qss_cons (qs_ret (q_tup (qa_cons (q_if (qt_cmp (opd_eq hu) (qv 1) q_str (by rfl)) q_str q_str) (qa_cons (qv 3) (qa_cons (qv 2) qa_nil)))))
  qss_nil))))
theorem ok_mirror_of (fr : Fr mg K) (d_flip_1 : Def P w K mg base CX0 1 "flip" [] f_flip) (F : FunD K "mirror_of" "mirror_of" (defArgs s_mirror_of) (defBody s_mirror_of) (defScope s_mirror_of) [] [] fa fd) :
    FnOk P w K mg base CX0 2 fa fd P_mirror_of (spOf P w K mg f_mirror_of) :=
  fn_ok (k := 1) (body := m_mirror_of) F sc_mirror_of fun cdv A outer s H E hr => by
    have hu := hu64 hr
    have c_flip_1 : ∀ {X : Cx} {W : WX}, X.prog = P → X.w = w → X.K = K → X.mg = mg → X.base = base → X.A = _ → Cal X W "flip" [] f_flip := fun e1 e2 e3 e4 e5 e6 => Def.calE d_flip_1 (hr.mono (by decide)) pass0At e1 e2 e3 e4 e5 e6
    exact (qss_cons (qs_asg (qv 0) (qg_tup rfl (qgs_cons (qgn (i := 1) sc_mirror_of.nd) (qgs_cons (qgn (i := 2) sc_mirror_of.nd) (qgs_cons (qgn (i := 3) sc_mirror_of.nd) qgs_nil)))))
  (qss_cons (qs_ret (q_if (qt_cmp (opd_eq hu) (qv 1) q_str (by rfl)) (q_tup (qa_cons (qv 1) (qa_cons (qv 3) (qa_cons (qv 2) qa_nil)))) (q_tup (qa_cons (qv 1) (qa_cons (q_fn (c_flip_1 rfl rfl rfl rfl rfl rfl) rfl (qa_cons (qv 3) qa_nil)) (qa_cons (q_fn (c_flip_1 rfl rfl rfl rfl rfl rfl) rfl (qa_cons (qv 2) qa_nil)) qa_nil))))))
  qss_nil))
theorem ok_check_free (fr : Fr mg K) (d_is_free_sentence_1 : Def P w K mg base CX0 3 "is_free_sentence" [] f_is_free_sentence) (F : FunD K "check_free" "check_free" (defArgs s_check_free) (defBody s_check_free) (defScope s_check_free) [] [] fa fd) :
    FnOk P w K mg base CX0 4 fa fd P_check_free (spOf P w K mg f_check_free) :=
  fn_ok (k := 3) (body := m_check_free) F sc_check_free fun cdv A outer s H E hr => by
    have hu := hu64 hr
    have c_is_free_sentence_1 : ∀ {X : Cx} {W : WX}, X.prog = P → X.w = w → X.K = K → X.mg = mg → X.base = base → X.A = _ → Cal X W "is_free_sentence" [] f_is_free_sentence := fun e1 e2 e3 e4 e5 e6 => Def.calE d_is_free_sentence_1 (hr.mono (by decide)) pass0At e1 e2 e3 e4 e5 e6
    exact (qss_cons (qs_if (qt_not (qt_val (q_fn (c_is_free_sentence_1 rfl rfl rfl rfl rfl rfl) rfl (qa_cons (qv 0) qa_nil)))) (qss_cons qs_never
  qss_nil) qss_nil)
  qss_nil)
theorem ok_contrary (fr : Fr mg K) (d_check_free_1 : Def P w K mg base CX0 4 "check_free" [] f_check_free) (d_contrary_of_1 : Def P w K mg base CX0 2 "contrary_of" [] f_contrary_of) (F : FunD K "contrary" "contrary" (defArgs s_contrary) (defBody s_contrary) (defScope s_contrary) [] [] fa fd) :
    FnOk P w K mg base CX0 5 fa fd P_contrary (spOf P w K mg f_contrary) :=
  fn_ok (k := 4) (body := m_contrary) F sc_contrary fun cdv A outer s H E hr => by
    have hu := hu64 hr
    have c_check_free_1 : ∀ {X : Cx} {W : WX}, X.prog = P → X.w = w → X.K = K → X.mg = mg → X.base = base → X.A = _ → Cal X W "check_free" [] f_check_free := fun e1 e2 e3 e4 e5 e6 => Def.calE d_check_free_1 (hr.mono (by decide)) pass0At e1 e2 e3 e4 e5 e6
    have c_contrary_of_1 : ∀ {X : Cx} {W : WX}, X.prog = P → X.w = w → X.K = K → X.mg = mg → X.base = base → X.A = _ → Cal X W "contrary_of" [] f_contrary_of := fun e1 e2 e3 e4 e5 e6 => Def.calE d_contrary_of_1 (hr.mono (by decide)) pass0At e1 e2 e3 e4 e5 e6
    exact (qss_cons (qs_expr (q_fn (c_check_free_1 rfl rfl rfl rfl rfl rfl) rfl (qa_cons (qv 0) qa_nil)))
  (qss_cons (qs_ret (q_fn (c_contrary_of_1 rfl rfl rfl rfl rfl rfl) rfl (qa_cons (qv 0) qa_nil)))
  qss_nil))
theorem ok_mirror (fr : Fr mg K) (d_check_free_1 : Def P w K mg base CX0 4 "check_free" [] f_check_free) (d_mirror_of_1 : Def P w K mg base CX0 2 "mirror_of" [] f_mirror_of) (F : FunD K "mirror" "mirror" (defArgs s_mirror) (defBody s_mirror) (defScope s_mirror) [] [] fa fd) :
    FnOk P w K mg base CX0 5 fa fd P_mirror (spOf P w K mg f_mirror) :=
  fn_ok (k := 4) (body := m_mirror) F sc_mirror fun cdv A outer s H E hr => by
    have hu := hu64 hr
    have c_check_free_1 : ∀ {X : Cx} {W : WX}, X.prog = P → X.w = w → X.K = K → X.mg = mg → X.base = base → X.A = _ → Cal X W "check_free" [] f_check_free := fun e1 e2 e3 e4 e5 e6 => Def.calE d_check_free_1 (hr.mono (by decide)) pass0At e1 e2 e3 e4 e5 e6
    have c_mirror_of_1 : ∀ {X : Cx} {W : WX}, X.prog = P → X.w = w → X.K = K → X.mg = mg → X.base = base → X.A = _ → Cal X W "mirror_of" [] f_mirror_of := fun e1 e2 e3 e4 e5 e6 => Def.calE d_mirror_of_1 (hr.mono (by decide)) pass0At e1 e2 e3 e4 e5 e6
    exact (qss_cons (qs_expr (q_fn (c_check_free_1 rfl rfl rfl rfl rfl rfl) rfl (qa_cons (qv 0) qa_nil)))
  (qss_cons (qs_ret (q_fn (c_mirror_of_1 rfl rfl rfl rfl rfl rfl) rfl (qa_cons (qv 0) qa_nil)))
  qss_nil))
theorem ok_always_holds (fr : Fr mg K)  (F : FunD K "always_holds" "always_holds" (defArgs s_always_holds) (defBody s_always_holds) (defScope s_always_holds) [] [] fa fd) :
    FnOk P w K mg base CX0 1 fa fd P_always_holds (spOf P w K mg f_always_holds) :=
  fn_ok (k := 0) (body := m_always_holds) F sc_always_holds fun cdv A outer s H E hr => by
    have hu := hu64 hr
    exact (qss_cons (qs_ret (q_and (q_cmp (opd_eq hu) (q_ix (ixd hu) (qv 0) q_int) (q_ix (ixd hu) (qv 0) q_int) (by rfl)) (q_one (q_or (q_cmp (opd_eq hu) (q_ix (ixd hu) (qv 0) q_int) q_str (by rfl)) (q_one (q_cmp (opd_eq hu) (q_ix (ixd hu) (qv 0) q_int) q_str (by rfl)))))))
  qss_nil)
theorem ok_by_itself (fr : Fr mg K) (d_always_holds_1 : Def P w K mg base CX0 1 "always_holds" [] f_always_holds) (d_check_free_1 : Def P w K mg base CX0 4 "check_free" [] f_check_free) (d_contrary_of_1 : Def P w K mg base CX0 2 "contrary_of" [] f_contrary_of) (F : FunD K "by_itself" "by_itself" (defArgs s_by_itself) (defBody s_by_itself) (defScope s_by_itself) [] [] fa fd) :
    FnOk P w K mg base CX0 5 fa fd P_by_itself (spOf P w K mg f_by_itself) :=
  fn_ok (k := 4) (body := m_by_itself) F sc_by_itself fun cdv A outer s H E hr => by
    have hu := hu64 hr
    have c_always_holds_1 : ∀ {X : Cx} {W : WX}, X.prog = P → X.w = w → X.K = K → X.mg = mg → X.base = base → X.A = _ → Cal X W "always_holds" [] f_always_holds := fun e1 e2 e3 e4 e5 e6 => Def.calE d_always_holds_1 (hr.mono (by decide)) pass0At e1 e2 e3 e4 e5 e6
    have c_check_free_1 : ∀ {X : Cx} {W : WX}, X.prog = P → X.w = w → X.K = K → X.mg = mg → X.base = base → X.A = _ → Cal X W "check_free" [] f_check_free := fun e1 e2 e3 e4 e5 e6 => Def.calE d_check_free_1 (hr.mono (by decide)) pass0At e1 e2 e3 e4 e5 e6
    have c_contrary_of_1 : ∀ {X : Cx} {W : WX}, X.prog = P → X.w = w → X.K = K → X.mg = mg → X.base = base → X.A = _ → Cal X W "contrary_of" [] f_contrary_of := fun e1 e2 e3 e4 e5 e6 => Def.calE d_contrary_of_1 (hr.mono (by decide)) pass0At e1 e2 e3 e4 e5 e6
    exact (qss_cons (qs_expr (q_fn (c_check_free_1 rfl rfl rfl rfl rfl rfl) rfl (qa_cons (qv 0) qa_nil)))
  (qss_cons (qs_if (qt_val (q_fn (c_always_holds_1 rfl rfl rfl rfl rfl rfl) rfl (qa_cons (qv 0) qa_nil))) (qss_cons (qs_ret q_str)
  qss_nil) qss_nil)
  (qss_cons (qs_ret (q_if (qt_val (q_fn (c_always_holds_1 rfl rfl rfl rfl rfl rfl) rfl (qa_cons (q_fn (c_contrary_of_1 rfl rfl rfl rfl rfl rfl) rfl (qa_cons (qv 0) qa_nil)) qa_nil))) q_str q_str))
  qss_nil)))
theorem ok_is_entry (fr : Fr mg K) (d_is_sentence_over_2 : Def P w K mg base CX0 3 "is_sentence_over" [] f_is_sentence_over) (d_is_source_1 : Def P w K mg base CX0 3 "is_source" [] f_is_source) (d_is_tuple_of_3 : Def P w K mg base CX0 1 "is_tuple_of" [] f_is_tuple_of) (F : FunD K "is_entry" "is_entry" (defArgs s_is_entry) (defBody s_is_entry) (defScope s_is_entry) [] [] fa fd) :
    FnOk P w K mg base CX0 4 fa fd P_is_entry (spOf P w K mg f_is_entry) :=
  fn_ok (k := 3) (body := m_is_entry) F sc_is_entry fun cdv A outer s H E hr => by
    have hu := hu64 hr
    have c_is_sentence_over_2 : ∀ {X : Cx} {W : WX}, X.prog = P → X.w = w → X.K = K → X.mg = mg → X.base = base → X.A = _ → Cal X W "is_sentence_over" [] f_is_sentence_over := fun e1 e2 e3 e4 e5 e6 => Def.calE d_is_sentence_over_2 (hr.mono (by decide)) pass0At e1 e2 e3 e4 e5 e6
    have c_is_source_1 : ∀ {X : Cx} {W : WX}, X.prog = P → X.w = w → X.K = K → X.mg = mg → X.base = base → X.A = _ → Cal X W "is_source" [] f_is_source := fun e1 e2 e3 e4 e5 e6 => Def.calE d_is_source_1 (hr.mono (by decide)) pass0At e1 e2 e3 e4 e5 e6
    have c_is_tuple_of_3 : ∀ {X : Cx} {W : WX}, X.prog = P → X.w = w → X.K = K → X.mg = mg → X.base = base → X.A = _ → Cal X W "is_tuple_of" [] f_is_tuple_of := fun e1 e2 e3 e4 e5 e6 => Def.calE d_is_tuple_of_3 (hr.mono (by decide)) pass0At e1 e2 e3 e4 e5 e6
    exact (qss_cons (qs_ret (q_and (q_fn (c_is_tuple_of_3 rfl rfl rfl rfl rfl rfl) rfl (qa_cons (qv 1) (qa_cons q_int (qa_cons q_int qa_nil)))) (q_and (q_fn (c_is_source_1 rfl rfl rfl rfl rfl rfl) rfl (qa_cons (q_ix (ixd hu) (qv 1) q_int) qa_nil)) (q_one (q_fn (c_is_sentence_over_2 rfl rfl rfl rfl rfl rfl) rfl (qa_cons (qv 0) (qa_cons (q_ix (ixd hu) (qv 1) q_int) qa_nil)))))))
  qss_nil)
theorem ok_is_book (fr : Fr mg K) (d_is_entry_2 : Def P w K mg base CX0 4 "is_entry" [] f_is_entry) (d_is_kinds_1 : Def P w K mg base CX0 3 "is_kinds" [] f_is_kinds) (d_is_tuple_of_3 : Def P w K mg base CX0 1 "is_tuple_of" [] f_is_tuple_of) (d_without_doubles_1 : Def P w K mg base CX0 1 "without_doubles" [] f_without_doubles) (F : FunD K "is_book" "is_book" (defArgs s_is_book) (defBody s_is_book) (defScope s_is_book) [] [] fa fd) :
    FnOk P w K mg base CX0 5 fa fd P_is_book (spOf P w K mg f_is_book) :=
  fn_ok (k := 4) (body := m_is_book) F sc_is_book fun cdv A outer s H E hr => by
    have hu := hu64 hr
    have c_is_entry_2 : ∀ {X : Cx} {W : WX}, X.prog = P → X.w = w → X.K = K → X.mg = mg → X.base = base → X.A = _ → Cal X W "is_entry" [] f_is_entry := fun e1 e2 e3 e4 e5 e6 => Def.calE d_is_entry_2 (hr.mono (by decide)) pass0At e1 e2 e3 e4 e5 e6
    have c_is_kinds_1 : ∀ {X : Cx} {W : WX}, X.prog = P → X.w = w → X.K = K → X.mg = mg → X.base = base → X.A = _ → Cal X W "is_kinds" [] f_is_kinds := fun e1 e2 e3 e4 e5 e6 => Def.calE d_is_kinds_1 (hr.mono (by decide)) pass0At e1 e2 e3 e4 e5 e6
    have c_is_tuple_of_3 : ∀ {X : Cx} {W : WX}, X.prog = P → X.w = w → X.K = K → X.mg = mg → X.base = base → X.A = _ → Cal X W "is_tuple_of" [] f_is_tuple_of := fun e1 e2 e3 e4 e5 e6 => Def.calE d_is_tuple_of_3 (hr.mono (by decide)) pass0At e1 e2 e3 e4 e5 e6
    have c_without_doubles_1 : ∀ {X : Cx} {W : WX}, X.prog = P → X.w = w → X.K = K → X.mg = mg → X.base = base → X.A = _ → Cal X W "without_doubles" [] f_without_doubles := fun e1 e2 e3 e4 e5 e6 => Def.calE d_without_doubles_1 (hr.mono (by decide)) pass0At e1 e2 e3 e4 e5 e6
    exact (qss_cons (qs_if (QW.qt (qw_or (qt_not (qt_val (q_fn (c_is_tuple_of_3 rfl rfl rfl rfl rfl rfl) rfl (qa_cons (qv 0) (qa_cons q_int (qa_cons q_int qa_nil)))))) (qw_or1 (qt_not (qt_val (q_fn (c_is_kinds_1 rfl rfl rfl rfl rfl rfl) rfl (qa_cons (q_ix (ixd hu) (qv 0) q_int) qa_nil))))))) (qss_cons (qs_ret q_bl)
  qss_nil) qss_nil)
  (qss_cons (qs_asg (qv 0) (qg_tup rfl (qgs_cons (qgn (i := 1) sc_is_book.nd) (qgs_cons (qgn (i := 2) sc_is_book.nd) qgs_nil))))
  (qss_cons (qs_if (QW.qt (qw_or (qt_not (qt_val (q_fn (c_is_tuple_of_3 rfl rfl rfl rfl rfl rfl) rfl (qa_cons (qv 2) (qa_cons q_int (qa_cons (q_glob fr.MOST_ENTRIES rfl) qa_nil)))))) (qw_or1 (qt_not (qt_val (q_bltn (cd_all rfl) rfl fr.all (by decide +kernel) (qa_cons (q_lc (own := [("entry", 3)]) rfl sc_is_book.nd (qi_seq (qv 2)) (blkOk_by (own := [("entry", 3)]) (N := N_is_book) (sc := defScope s_is_book) (by decide +kernel)) (fun _ _ _ _ _ => (qgn (i := 3) sc_is_book.nd)) (fun _ _ _ _ _ => qts_nil) (fun _ _ _ _ _ => (q_fn (c_is_entry_2 rfl rfl rfl rfl rfl rfl) rfl (qa_cons (qv 1) (qa_cons (qv 3) qa_nil))))) qa_nil))))))) (qss_cons (qs_ret q_bl)
  qss_nil) qss_nil)
  (qss_cons (qs_ret (q_cmp (opd_eq hu) (q_bltn cd_len rfl fr.len (by decide +kernel) (qa_cons (q_fn (c_without_doubles_1 rfl rfl rfl rfl rfl rfl) rfl (qa_cons (qv 2) qa_nil)) qa_nil)) (q_bltn cd_len rfl fr.len (by decide +kernel) (qa_cons (qv 2) qa_nil)) (by rfl)))
  qss_nil))))
theorem ok_check_book (fr : Fr mg K) (d_is_book_1 : Def P w K mg base CX0 5 "is_book" [] f_is_book) (F : FunD K "check_book" "check_book" (defArgs s_check_book) (defBody s_check_book) (defScope s_check_book) [.str "book"] [] fa fd) :
    FnOk P w K mg base CX0 6 fa fd P_check_book (spOf P w K mg f_check_book) :=
  fn_ok (k := 5) (body := m_check_book) F sc_check_book fun cdv A outer s H E hr => by
    have hu := hu64 hr
    have c_is_book_1 : ∀ {X : Cx} {W : WX}, X.prog = P → X.w = w → X.K = K → X.mg = mg → X.base = base → X.A = _ → Cal X W "is_book" [] f_is_book := fun e1 e2 e3 e4 e5 e6 => Def.calE d_is_book_1 (hr.mono (by decide)) pass0At e1 e2 e3 e4 e5 e6
    exact (qss_cons (qs_if (qt_not (qt_val (q_fn (c_is_book_1 rfl rfl rfl rfl rfl rfl) rfl (qa_cons (qv 0) qa_nil)))) (qss_cons qs_never
  qss_nil) qss_nil)
  qss_nil)
theorem ok_made_book (fr : Fr mg K) (d_without_doubles_1 : Def P w K mg base CX0 1 "without_doubles" [] f_without_doubles) (F : FunD K "made_book" "made_book" (defArgs s_made_book) (defBody s_made_book) (defScope s_made_book) [] [] fa fd) :
    FnOk P w K mg base CX0 2 fa fd P_made_book (spOf P w K mg f_made_book) :=
  fn_ok (k := 1) (body := m_made_book) F sc_made_book fun cdv A outer s H E hr => by
    have hu := hu64 hr
    have c_without_doubles_1 : ∀ {X : Cx} {W : WX}, X.prog = P → X.w = w → X.K = K → X.mg = mg → X.base = base → X.A = _ → Cal X W "without_doubles" [] f_without_doubles := fun e1 e2 e3 e4 e5 e6 => Def.calE d_without_doubles_1 (hr.mono (by decide)) pass0At e1 e2 e3 e4 e5 e6
    exact (qss_cons (qsn (i := 2) sc_made_book.nd (q_btyp cd_tuple rfl fr.tuple (by decide +kernel) (qa_cons (q_fn (c_without_doubles_1 rfl rfl rfl rfl rfl rfl) rfl (qa_cons (qv 1) qa_nil)) qa_nil)))
  (qss_cons (qs_if (qt_cmp (opd_gt hu) (q_bltn cd_len rfl fr.len (by decide +kernel) (qa_cons (qv 2) qa_nil)) (q_glob fr.MOST_ENTRIES rfl) (by rfl)) (qss_cons qs_never
  qss_nil) qss_nil)
  (qss_cons (qs_ret (q_tup (qa_cons (qv 0) (qa_cons (qv 2) qa_nil))))
  qss_nil)))
theorem ok_check_terms (fr : Fr mg K) (d_is_term_over_2 : Def P w K mg base CX0 2 "is_term_over" [] f_is_term_over) (d_is_tuple_of_3 : Def P w K mg base CX0 1 "is_tuple_of" [] f_is_tuple_of) (F : FunD K "check_terms" "check_terms" (defArgs s_check_terms) (defBody s_check_terms) (defScope s_check_terms) [] [] fa fd) :
    FnOk P w K mg base CX0 3 fa fd P_check_terms (spOf P w K mg f_check_terms) :=
  fn_ok (k := 2) (body := m_check_terms) F sc_check_terms fun cdv A outer s H E hr => by
    have hu := hu64 hr
    have c_is_term_over_2 : ∀ {X : Cx} {W : WX}, X.prog = P → X.w = w → X.K = K → X.mg = mg → X.base = base → X.A = _ → Cal X W "is_term_over" [] f_is_term_over := fun e1 e2 e3 e4 e5 e6 => Def.calE d_is_term_over_2 (hr.mono (by decide)) pass0At e1 e2 e3 e4 e5 e6
    have c_is_tuple_of_3 : ∀ {X : Cx} {W : WX}, X.prog = P → X.w = w → X.K = K → X.mg = mg → X.base = base → X.A = _ → Cal X W "is_tuple_of" [] f_is_tuple_of := fun e1 e2 e3 e4 e5 e6 => Def.calE d_is_tuple_of_3 (hr.mono (by decide)) pass0At e1 e2 e3 e4 e5 e6
    exact (qss_cons (qs_if (QW.qt (qw_or (qt_not (qt_val (q_fn (c_is_tuple_of_3 rfl rfl rfl rfl rfl rfl) rfl (qa_cons (qv 2) (qa_cons (q_bltn cd_len rfl fr.len (by decide +kernel) (qa_cons (qv 0) qa_nil)) (qa_cons (q_bltn cd_len rfl fr.len (by decide +kernel) (qa_cons (qv 0) qa_nil)) qa_nil)))))) (qw_or1 (qt_not (qt_val (q_bltn (cd_all rfl) rfl fr.all (by decide +kernel) (qa_cons (q_lc (own := [("term", 3)]) rfl sc_check_terms.nd (qi_seq (qv 2)) (blkOk_by (own := [("term", 3)]) (N := N_check_terms) (sc := defScope s_check_terms) (by decide +kernel)) (fun _ _ _ _ _ => (qgn (i := 3) sc_check_terms.nd)) (fun _ _ _ _ _ => qts_nil) (fun _ _ _ _ _ => (q_fn (c_is_term_over_2 rfl rfl rfl rfl rfl rfl) rfl (qa_cons (qv 1) (qa_cons (qv 3) qa_nil))))) qa_nil))))))) (qss_cons qs_never
  qss_nil) qss_nil)
  qss_nil)
theorem ok_table_of (fr : Fr mg K) (d_flip_1 : Def P w K mg base CX0 1 "flip" [] f_flip) (F : FunD K "table_of" "table_of" (defArgs s_table_of) (defBody s_table_of) (defScope s_table_of) [] [] fa fd) :
    FnOk P w K mg base CX0 2 fa fd P_table_of (spOf P w K mg f_table_of) :=
  fn_ok (k := 1) (body := m_table_of) F sc_table_of fun cdv A outer s H E hr => by
    have hu := hu64 hr
    have c_flip_1 : ∀ {X : Cx} {W : WX}, X.prog = P → X.w = w → X.K = K → X.mg = mg → X.base = base → X.A = _ → Cal X W "flip" [] f_flip := fun e1 e2 e3 e4 e5 e6 => Def.calE d_flip_1 (hr.mono (by decide)) pass0At e1 e2 e3 e4 e5 e6
    exact (qss_cons (qsn (i := 2) sc_table_of.nd q_newT)
  (qss_cons (qs_for (passes_of rfl) rfl (qi_zip rfl fr.zip (qv 0) (qv 1)) (qg_tup rfl (qgs_cons (qgn (i := 3) sc_table_of.nd) (qgs_cons (qgn (i := 4) sc_table_of.nd) qgs_nil))) (qss_cons (qs_asg (qv 4) (qg_sub (W := WNever) (setd hu) (qv 2) (q_tup (qa_cons (qv 3) (qa_cons q_bl qa_nil)))))
  (qss_cons (qs_asg (q_fn (c_flip_1 rfl rfl rfl rfl rfl rfl) rfl (qa_cons (qv 4) qa_nil)) (qg_sub (W := WNever) (setd hu) (qv 2) (q_tup (qa_cons (qv 3) (qa_cons q_bl qa_nil)))))
  qss_nil)))
  (qss_cons (qs_ret (qv 2))
  qss_nil)))
theorem ok_translated_by (fr : Fr mg K)  (F : FunD K "translated_by" "translated_by" (defArgs s_translated_by) (defBody s_translated_by) (defScope s_translated_by) [] [] fa fd) :
    FnOk P w K mg base CX0 1 fa fd P_translated_by (spOf P w K mg f_translated_by) :=
  fn_ok (k := 0) (body := m_translated_by) F sc_translated_by fun cdv A outer s H E hr => by
    have hu := hu64 hr
    exact (qss_cons (qs_if (qt_val (q_isi (T := "str") rfl fr.isinstance (q_ix (ixd hu) (qv 1) q_int) rfl fr.str (by decide +kernel))) (qss_cons (qs_ret (q_tup (qa_cons (q_ix (ixd hu) (qv 1) q_int) (qa_cons (q_ix (ixd hu) (qv 0) (q_ix (ixd hu) (qv 1) q_int)) (qa_cons (q_ix (ixd hu) (qv 0) (q_ix (ixd hu) (qv 1) q_int)) qa_nil)))))
  qss_nil) qss_nil)
  (qss_cons (qs_ret (q_btyp cd_tuple rfl fr.tuple (by decide +kernel) (qa_cons (q_lc (own := [("word", 2), ("a", 3), ("b", 4)]) rfl sc_translated_by.nd (qi_seq (qv 1)) (blkOk_by (own := [("word", 2), ("a", 3), ("b", 4)]) (N := N_translated_by) (sc := defScope s_translated_by) (by decide +kernel)) (fun _ _ _ _ _ => (qg_tup rfl (qgs_cons (qgn (i := 2) sc_translated_by.nd) (qgs_cons (qgn (i := 3) sc_translated_by.nd) (qgs_cons (qgn (i := 4) sc_translated_by.nd) qgs_nil))))) (fun _ _ _ _ _ => qts_nil) (fun _ _ _ _ _ => (q_tup (qa_cons (qv 2) (qa_cons (q_ix (ixd hu) (qv 0) (qv 3)) (qa_cons (q_ix (ixd hu) (qv 0) (qv 4)) qa_nil)))))) qa_nil)))
  qss_nil))
theorem ok_translated (fr : Fr mg K) (d_check_kinds_1 : Def P w K mg base CX0 4 "check_kinds" [.str "kinds"] f_check_kinds) (d_check_kinds_2 : Def P w K mg base CX0 4 "check_kinds" [] f_check_kinds) (d_check_question_2 : Def P w K mg base CX0 5 "check_question" [.str "question"] f_check_question) (d_check_terms_3 : Def P w K mg base CX0 3 "check_terms" [] f_check_terms) (d_table_of_2 : Def P w K mg base CX0 2 "table_of" [] f_table_of) (d_translated_by_2 : Def P w K mg base CX0 1 "translated_by" [] f_translated_by) (F : FunD K "translated" "translated" (defArgs s_translated) (defBody s_translated) (defScope s_translated) [] [] fa fd) :
    FnOk P w K mg base CX0 6 fa fd P_translated (spOf P w K mg f_translated) :=
  fn_ok (k := 5) (body := m_translated) F sc_translated fun cdv A outer s H E hr => by
    have hu := hu64 hr
    have c_check_kinds_1 : ∀ {X : Cx} {W : WX}, X.prog = P → X.w = w → X.K = K → X.mg = mg → X.base = base → X.A = _ → Cal X W "check_kinds" [.str "kinds"] f_check_kinds := fun e1 e2 e3 e4 e5 e6 => Def.calE d_check_kinds_1 (hr.mono (by decide)) pass0At e1 e2 e3 e4 e5 e6
    have c_check_kinds_2 : ∀ {X : Cx} {W : WX}, X.prog = P → X.w = w → X.K = K → X.mg = mg → X.base = base → X.A = _ → Cal X W "check_kinds" [] f_check_kinds := fun e1 e2 e3 e4 e5 e6 => Def.calE d_check_kinds_2 (hr.mono (by decide)) pass0At e1 e2 e3 e4 e5 e6
    have c_check_question_2 : ∀ {X : Cx} {W : WX}, X.prog = P → X.w = w → X.K = K → X.mg = mg → X.base = base → X.A = _ → Cal X W "check_question" [.str "question"] f_check_question := fun e1 e2 e3 e4 e5 e6 => Def.calE d_check_question_2 (hr.mono (by decide)) pass0At e1 e2 e3 e4 e5 e6
    have c_check_terms_3 : ∀ {X : Cx} {W : WX}, X.prog = P → X.w = w → X.K = K → X.mg = mg → X.base = base → X.A = _ → Cal X W "check_terms" [] f_check_terms := fun e1 e2 e3 e4 e5 e6 => Def.calE d_check_terms_3 (hr.mono (by decide)) pass0At e1 e2 e3 e4 e5 e6
    have c_table_of_2 : ∀ {X : Cx} {W : WX}, X.prog = P → X.w = w → X.K = K → X.mg = mg → X.base = base → X.A = _ → Cal X W "table_of" [] f_table_of := fun e1 e2 e3 e4 e5 e6 => Def.calE d_table_of_2 (hr.mono (by decide)) pass0At e1 e2 e3 e4 e5 e6
    have c_translated_by_2 : ∀ {X : Cx} {W : WX}, X.prog = P → X.w = w → X.K = K → X.mg = mg → X.base = base → X.A = _ → Cal X W "translated_by" [] f_translated_by := fun e1 e2 e3 e4 e5 e6 => Def.calE d_translated_by_2 (hr.mono (by decide)) pass0At e1 e2 e3 e4 e5 e6
    exact (qss_cons (qs_expr (q_fn (c_check_kinds_1 rfl rfl rfl rfl rfl rfl) rfl (qa_cons (qv 0) qa_nil)))
  (qss_cons (qs_expr (q_fn (c_check_kinds_2 rfl rfl rfl rfl rfl rfl) rfl (qa_cons (qv 1) (qa_cons q_str qa_nil))))
  (qss_cons (qs_expr (q_fn (c_check_terms_3 rfl rfl rfl rfl rfl rfl) rfl (qa_cons (qv 0) (qa_cons (qv 1) (qa_cons (qv 2) qa_nil)))))
  (qss_cons (qs_expr (q_fn (c_check_question_2 rfl rfl rfl rfl rfl rfl) rfl (qa_cons (qv 0) (qa_cons (qv 3) qa_nil))))
  (qss_cons (qs_ret (q_fn (c_translated_by_2 rfl rfl rfl rfl rfl rfl) rfl (qa_cons (q_fn (c_table_of_2 rfl rfl rfl rfl rfl rfl) rfl (qa_cons (qv 0) (qa_cons (qv 2) qa_nil))) (qa_cons (qv 3) qa_nil))))
  qss_nil)))))
theorem ok_translated_book (fr : Fr mg K) (d_check_book_1 : Def P w K mg base CX0 6 "check_book" [.str "book"] f_check_book) (d_check_kinds_2 : Def P w K mg base CX0 4 "check_kinds" [] f_check_kinds) (d_check_terms_3 : Def P w K mg base CX0 3 "check_terms" [] f_check_terms) (d_made_book_2 : Def P w K mg base CX0 2 "made_book" [] f_made_book) (d_table_of_2 : Def P w K mg base CX0 2 "table_of" [] f_table_of) (d_translated_by_2 : Def P w K mg base CX0 1 "translated_by" [] f_translated_by) (F : FunD K "translated_book" "translated_book" (defArgs s_translated_book) (defBody s_translated_book) (defScope s_translated_book) [] [] fa fd) :
    FnOk P w K mg base CX0 7 fa fd P_translated_book (spOf P w K mg f_translated_book) :=
  fn_ok (k := 6) (body := m_translated_book) F sc_translated_book fun cdv A outer s H E hr => by
    have hu := hu64 hr
    have c_check_book_1 : ∀ {X : Cx} {W : WX}, X.prog = P → X.w = w → X.K = K → X.mg = mg → X.base = base → X.A = _ → Cal X W "check_book" [.str "book"] f_check_book := fun e1 e2 e3 e4 e5 e6 => Def.calE d_check_book_1 (hr.mono (by decide)) pass0At e1 e2 e3 e4 e5 e6
    have c_check_kinds_2 : ∀ {X : Cx} {W : WX}, X.prog = P → X.w = w → X.K = K → X.mg = mg → X.base = base → X.A = _ → Cal X W "check_kinds" [] f_check_kinds := fun e1 e2 e3 e4 e5 e6 => Def.calE d_check_kinds_2 (hr.mono (by decide)) pass0At e1 e2 e3 e4 e5 e6
    have c_check_terms_3 : ∀ {X : Cx} {W : WX}, X.prog = P → X.w = w → X.K = K → X.mg = mg → X.base = base → X.A = _ → Cal X W "check_terms" [] f_check_terms := fun e1 e2 e3 e4 e5 e6 => Def.calE d_check_terms_3 (hr.mono (by decide)) pass0At e1 e2 e3 e4 e5 e6
    have c_made_book_2 : ∀ {X : Cx} {W : WX}, X.prog = P → X.w = w → X.K = K → X.mg = mg → X.base = base → X.A = _ → Cal X W "made_book" [] f_made_book := fun e1 e2 e3 e4 e5 e6 => Def.calE d_made_book_2 (hr.mono (by decide)) pass0At e1 e2 e3 e4 e5 e6
    have c_table_of_2 : ∀ {X : Cx} {W : WX}, X.prog = P → X.w = w → X.K = K → X.mg = mg → X.base = base → X.A = _ → Cal X W "table_of" [] f_table_of := fun e1 e2 e3 e4 e5 e6 => Def.calE d_table_of_2 (hr.mono (by decide)) pass0At e1 e2 e3 e4 e5 e6
    have c_translated_by_2 : ∀ {X : Cx} {W : WX}, X.prog = P → X.w = w → X.K = K → X.mg = mg → X.base = base → X.A = _ → Cal X W "translated_by" [] f_translated_by := fun e1 e2 e3 e4 e5 e6 => Def.calE d_translated_by_2 (hr.mono (by decide)) pass0At e1 e2 e3 e4 e5 e6
    exact (qss_cons (qs_expr (q_fn (c_check_book_1 rfl rfl rfl rfl rfl rfl) rfl (qa_cons (qv 0) qa_nil)))
  (qss_cons (qs_expr (q_fn (c_check_kinds_2 rfl rfl rfl rfl rfl rfl) rfl (qa_cons (qv 1) (qa_cons q_str qa_nil))))
  (qss_cons (qs_expr (q_fn (c_check_terms_3 rfl rfl rfl rfl rfl rfl) rfl (qa_cons (q_ix (ixd hu) (qv 0) q_int) (qa_cons (qv 1) (qa_cons (qv 2) qa_nil)))))
  (qss_cons (qsn (i := 3) sc_translated_book.nd (q_fn (c_table_of_2 rfl rfl rfl rfl rfl rfl) rfl (qa_cons (q_ix (ixd hu) (qv 0) q_int) (qa_cons (qv 2) qa_nil))))
  (qss_cons (qs_ret (q_fn (c_made_book_2 rfl rfl rfl rfl rfl rfl) rfl (qa_cons (qv 1) (qa_cons (q_lc (own := [("source", 4), ("sentence", 5)]) rfl sc_translated_book.nd (qi_seq (q_ix (ixd hu) (qv 0) q_int)) (blkOk_by (own := [("source", 4), ("sentence", 5)]) (N := N_translated_book) (sc := defScope s_translated_book) (by decide +kernel)) (fun _ _ _ _ _ => (qg_tup rfl (qgs_cons (qgn (i := 4) sc_translated_book.nd) (qgs_cons (qgn (i := 5) sc_translated_book.nd) qgs_nil)))) (fun _ _ _ _ _ => qts_nil) (fun _ _ _ _ _ => (q_tup (qa_cons (qv 4) (qa_cons (q_fn (c_translated_by_2 rfl rfl rfl rfl rfl rfl) rfl (qa_cons (qv 3) (qa_cons (qv 5) qa_nil))) qa_nil))))) qa_nil))))
  qss_nil)))))
theorem ok_n__law_stream (fr : Fr mg K)  (F : FunD K "_law_stream" "_law_stream" (defArgs s_n__law_stream) (defBody s_n__law_stream) (defScope s_n__law_stream) [] [] fa fd) :
    FnOk P w K mg base CX0 1 fa fd P_n__law_stream (spOf P w K mg f_n__law_stream) :=
  fn_ok (k := 0) (body := m_n__law_stream) F sc_n__law_stream fun cdv A outer s H E hr => by
    have hu := hu64 hr
    exact (qss_cons (qs_ret (q_newL (qa_cons (q_btyp (cd_listF rfl) rfl fr.list (by decide +kernel) (qa_cons (qv 0) qa_nil)) (qa_cons q_int (qa_cons q_int qa_nil)))))
  qss_nil)
theorem ok_n__law_next (fr : Fr mg K)  (F : FunD K "_law_next" "_law_next" (defArgs s_n__law_next) (defBody s_n__law_next) (defScope s_n__law_next) [] [] fa fd) :
    FnOk P w K mg base CX0 1 fa fd P_n__law_next (spOf P w K mg f_n__law_next) :=
  fn_ok (k := 0) (body := m_n__law_next) F sc_n__law_next fun cdv A outer s H E hr => by
    have hu := hu64 hr
    exact (qss_cons (qs_if (qt_cmp (opd_eq hu) (q_ix (ixd hu) (qv 0) q_int) q_int (by rfl)) (qss_cons (qsn (i := 3) sc_n__law_next.nd (q_ix (ixd hu) (qv 0) q_int))
  (qss_cons (qsn (i := 4) sc_n__law_next.nd (q_op opd_plus q_int (qv 3)))
  (qss_cons (qs_if (qt_cmp (opd_lt hu) (qv 3) (q_bltn cd_len rfl fr.len (by decide +kernel) (qa_cons (q_ix (ixd hu) (qv 0) q_int) qa_nil)) (by rfl)) (qss_cons (qsn (i := 4) sc_n__law_next.nd (q_op opd_mod (q_btyp cd_int rfl fr.int (by decide +kernel) (qa_cons (q_bltn cd_abs rfl fr.abs (by decide +kernel) (qa_cons (q_ix (ixd hu) (q_ix (ixd hu) (qv 0) q_int) (qv 3)) qa_nil)) qa_nil)) (q_op opd_pow q_int q_int)))
  qss_nil) qss_nil)
  (qss_cons (qs_if (qt_cmp (opd_lt hu) (qv 4) (q_op opd_pow q_int q_int) (by rfl)) (qss_cons (qsn (i := 4) sc_n__law_next.nd (q_op opd_mod (q_btyp cd_int rfl fr.int (by decide +kernel) (qa_cons (q_op opd_plus (q_op opd_plus (q_op opd_mul (qv 4) q_int) (q_op opd_mul (qv 3) q_int)) q_int) qa_nil)) q_int))
  (qss_cons (qsn (i := 4) sc_n__law_next.nd (q_op opd_plus (q_op opd_mul (q_op opd_mod (q_btyp cd_int rfl fr.int (by decide +kernel) (qa_cons (q_op opd_plus (q_op opd_mul (qv 4) q_int) q_int) qa_nil)) q_int) q_int) (qv 4)))
  qss_nil)) qss_nil)
  (qss_cons (qs_asg (qv 4) (qg_sub (W := WNever) (setd hu) (qv 0) q_int))
  (qss_cons (qs_asg (q_op opd_plus (qv 3) q_int) (qg_sub (W := WNever) (setd hu) (qv 0) q_int))
  qss_nil)))))) qss_nil)
  (qss_cons (qsn (i := 2) sc_n__law_next.nd (q_op opd_mod (q_btyp cd_int rfl fr.int (by decide +kernel) (qa_cons (q_ix (ixd hu) (qv 0) q_int) qa_nil)) (qv 1)))
  (qss_cons (qs_asg (q_op opd_div (q_ix (ixd hu) (qv 0) q_int) (qv 1)) (qg_sub (W := WNever) (setd hu) (qv 0) q_int))
  (qss_cons (qs_ret (qv 2))
  qss_nil))))
theorem ok_n__law_pick (fr : Fr mg K) (d_n__law_next_2 : Def P w K mg base CX0 1 "_law_next" [] f_n__law_next) (F : FunD K "_law_pick" "_law_pick" (defArgs s_n__law_pick) (defBody s_n__law_pick) (defScope s_n__law_pick) [] [] fa fd) :
    FnOk P w K mg base CX0 2 fa fd P_n__law_pick (spOf P w K mg f_n__law_pick) :=
  fn_ok (k := 1) (body := m_n__law_pick) F sc_n__law_pick fun cdv A outer s H E hr => by
    have hu := hu64 hr
    have c_n__law_next_2 : ∀ {X : Cx} {W : WX}, X.prog = P → X.w = w → X.K = K → X.mg = mg → X.base = base → X.A = _ → Cal X W "_law_next" [] f_n__law_next := fun e1 e2 e3 e4 e5 e6 => Def.calE d_n__law_next_2 (hr.mono (by decide)) pass0At e1 e2 e3 e4 e5 e6
    exact (qss_cons (qs_ret (q_ix (ixd hu) (qv 1) (q_fn (c_n__law_next_2 rfl rfl rfl rfl rfl rfl) rfl (qa_cons (qv 0) (qa_cons (q_bltn cd_len rfl fr.len (by decide +kernel) (qa_cons (qv 1) qa_nil)) qa_nil)))))
  qss_nil)
theorem ok_n__law_same (fr : Fr mg K)  (F : FunD K "_law_same" "_law_same" (defArgs s_n__law_same) (defBody s_n__law_same) (defScope s_n__law_same) [] [] fa fd) :
    FnOk P w K mg base CX0 1 fa fd P_n__law_same (spOf P w K mg f_n__law_same) :=
  fn_ok (k := 0) (body := m_n__law_same) F sc_n__law_same fun cdv A outer s H E hr => by
    have hu := hu64 hr
    exact (qss_cons (qsn (i := 2) sc_n__law_same.nd (q_newL (qa_cons (q_tup (qa_cons (qv 0) (qa_cons (qv 1) qa_nil))) qa_nil)))
  (qss_cons (qs_for (passes_of rfl) rfl (qi_range1 rfl fr.range q_int) (qgn (i := 3) sc_n__law_same.nd) (qss_cons (qs_if (qt_cmp (opd_eq hu) (q_bltn cd_len rfl fr.len (by decide +kernel) (qa_cons (qv 2) qa_nil)) q_int (by rfl)) (qss_cons (qs_ret q_bl)
  qss_nil) qss_nil)
  (qss_cons (qs_asg (q_meth0 PySem.F.plainAttrs_list PySem.F.slot_list_pop PySem.F.type_list_pop md_pop (qv 2)) (qg_tup rfl (qgs_cons (qgn (i := 4) sc_n__law_same.nd) (qgs_cons (qgn (i := 5) sc_n__law_same.nd) qgs_nil))))
  (qss_cons (qs_if (QW.qt (qw_or (qt_val (q_isi (T := "tuple") rfl fr.isinstance (qv 5) rfl fr.tuple (by decide +kernel))) (qw_or1 (qt_val (q_isi (T := "list") rfl fr.isinstance (qv 5) rfl fr.list (by decide +kernel)))))) (qss_cons (qs_if (QW.qt (qw_or (qt_cmp (opd_ne hu) (q_isi (T := "tuple") rfl fr.isinstance (qv 5) rfl fr.tuple (by decide +kernel)) (q_isi (T := "tuple") rfl fr.isinstance (qv 4) rfl fr.tuple (by decide +kernel)) (by rfl)) (qw_or1 (qt_cmp (opd_ne hu) (q_isi (T := "list") rfl fr.isinstance (qv 5) rfl fr.list (by decide +kernel)) (q_isi (T := "list") rfl fr.isinstance (qv 4) rfl fr.list (by decide +kernel)) (by rfl))))) (qss_cons (qs_ret q_bl)
  qss_nil) qss_nil)
  (qss_cons (qs_if (qt_cmp (opd_ne hu) (q_bltn cd_len rfl fr.len (by decide +kernel) (qa_cons (qv 4) qa_nil)) (q_bltn cd_len rfl fr.len (by decide +kernel) (qa_cons (qv 5) qa_nil)) (by rfl)) (qss_cons (qs_ret q_bl)
  qss_nil) qss_nil)
  (qss_cons (qs_expr (q_meth PySem.F.plainAttrs_list PySem.F.slot_list_extend PySem.F.type_list_extend md_extend (qv 2) (qa_cons (q_lc (own := [("at", 6)]) rfl sc_n__law_same.nd (qi_range1 rfl fr.range (q_bltn cd_len rfl fr.len (by decide +kernel) (qa_cons (qv 5) qa_nil))) (blkOk_by (own := [("at", 6)]) (N := N_n__law_same) (sc := defScope s_n__law_same) (by decide +kernel)) (fun _ _ _ _ _ => (qgn (i := 6) sc_n__law_same.nd)) (fun _ _ _ _ _ => qts_nil) (fun _ _ _ _ _ => (q_tup (qa_cons (q_ix (ixd hu) (qv 4) (qv 6)) (qa_cons (q_ix (ixd hu) (qv 5) (qv 6)) qa_nil))))) qa_nil)))
  qss_nil))) (qss_cons (qs_if (qt_val (q_isi (T := "bool") rfl fr.isinstance (qv 5) rfl fr.bool (by decide +kernel))) (qss_cons (qs_if (QW.qt (qw_or (qt_not (qt_val (q_isi (T := "bool") rfl fr.isinstance (qv 4) rfl fr.bool (by decide +kernel)))) (qw_or1 (qt_cmp (opd_ne hu) (qv 4) (qv 5) (by rfl))))) (qss_cons (qs_ret q_bl)
  qss_nil) qss_nil)
  qss_nil) (qss_cons (qs_if (qt_val (q_isi (T := "int") rfl fr.isinstance (qv 5) rfl fr.int (by decide +kernel))) (qss_cons (qs_if (QW.qt (qw_or (qt_not (qt_val (q_isi (T := "int") rfl fr.isinstance (qv 4) rfl fr.int (by decide +kernel)))) (qw_or (qt_val (q_isi (T := "bool") rfl fr.isinstance (qv 4) rfl fr.bool (by decide +kernel))) (qw_or1 (qt_cmp (opd_ne hu) (qv 4) (qv 5) (by rfl)))))) (qss_cons (qs_ret q_bl)
  qss_nil) qss_nil)
  qss_nil) (qss_cons (qs_if (qt_val (q_isi (T := "str") rfl fr.isinstance (qv 5) rfl fr.str (by decide +kernel))) (qss_cons (qs_if (QW.qt (qw_or (qt_not (qt_val (q_isi (T := "str") rfl fr.isinstance (qv 4) rfl fr.str (by decide +kernel)))) (qw_or1 (qt_cmp (opd_ne hu) (qv 4) (qv 5) (by rfl))))) (qss_cons (qs_ret q_bl)
  qss_nil) qss_nil)
  qss_nil) (qss_cons (qs_if (qt_cmp opd_notN (qv 4) q_non (by rfl)) (qss_cons (qs_ret q_bl)
  qss_nil) qss_nil)
  qss_nil))
  qss_nil))
  qss_nil))
  qss_nil))
  qss_nil))))
  (qss_cons (qs_ret q_bl)
  qss_nil)))
theorem ok_n__law_kind (fr : Fr mg K) (d_n__law_next_2 : Def P w K mg base CX0 1 "_law_next" [] f_n__law_next) (d_n__law_pick_2 : Def P w K mg base CX0 2 "_law_pick" [] f_n__law_pick) (F : FunD K "_law_kind" "_law_kind" (defArgs s_n__law_kind) (defBody s_n__law_kind) (defScope s_n__law_kind) [] [] fa fd) :
    FnOk P w K mg base CX0 3 fa fd P_n__law_kind (spOf P w K mg f_n__law_kind) :=
  fn_ok (k := 2) (body := m_n__law_kind) F sc_n__law_kind fun cdv A outer s H E hr => by
    have hu := hu64 hr
    have c_n__law_next_2 : ∀ {X : Cx} {W : WX}, X.prog = P → X.w = w → X.K = K → X.mg = mg → X.base = base → X.A = _ → Cal X W "_law_next" [] f_n__law_next := fun e1 e2 e3 e4 e5 e6 => Def.calE d_n__law_next_2 (hr.mono (by decide)) pass0At e1 e2 e3 e4 e5 e6
    have c_n__law_pick_2 : ∀ {X : Cx} {W : WX}, X.prog = P → X.w = w → X.K = K → X.mg = mg → X.base = base → X.A = _ → Cal X W "_law_pick" [] f_n__law_pick := fun e1 e2 e3 e4 e5 e6 => Def.calE d_n__law_pick_2 (hr.mono (by decide)) pass0At e1 e2 e3 e4 e5 e6
    exact (qss_cons (qs_if (qt_cmp (opd_eq hu) (q_fn (c_n__law_next_2 rfl rfl rfl rfl rfl rfl) rfl (qa_cons (qv 0) (qa_cons q_int qa_nil))) q_int (by rfl)) (qss_cons (qsn (i := 3) sc_n__law_kind.nd q_str)
  (qss_cons (qs_ret (q_fn (c_n__law_pick_2 rfl rfl rfl rfl rfl rfl) rfl (qa_cons (qv 0) (qa_cons (q_meth PySem.F.plainAttrs_str PySem.F.slot_str_split PySem.F.type_str_split md_split (qv 3) (qa_cons q_str qa_nil)) qa_nil))))
  qss_nil)) qss_nil)
  (qss_cons (qsn (i := 1) sc_n__law_kind.nd (q_ix (ixd hu) q_str (q_fn (c_n__law_next_2 rfl rfl rfl rfl rfl rfl) rfl (qa_cons (qv 0) (qa_cons q_int qa_nil)))))
  (qss_cons (qs_for (passes_of rfl) rfl (qi_range1 rfl fr.range (q_fn (c_n__law_pick_2 rfl rfl rfl rfl rfl rfl) rfl (qa_cons (qv 0) (qa_cons (q_lst (qa_cons q_int (qa_cons q_int (qa_cons q_int (qa_cons q_int (qa_cons q_int qa_nil)))))) qa_nil)))) (qgn (i := 2) sc_n__law_kind.nd) (qss_cons (qsn (i := 1) sc_n__law_kind.nd (q_op opd_plus (qv 1) (q_ix (ixd hu) q_str (q_fn (c_n__law_next_2 rfl rfl rfl rfl rfl rfl) rfl (qa_cons (qv 0) (qa_cons q_int qa_nil))))))
  qss_nil))
  (qss_cons (qs_ret (qv 1))
  qss_nil))))
theorem ok_n__law_kinds (fr : Fr mg K) (d_n__law_kind_1 : Def P w K mg base CX0 3 "_law_kind" [] f_n__law_kind) (d_n__law_next_2 : Def P w K mg base CX0 1 "_law_next" [] f_n__law_next) (F : FunD K "_law_kinds" "_law_kinds" (defArgs s_n__law_kinds) (defBody s_n__law_kinds) (defScope s_n__law_kinds) [] [] fa fd) :
    FnOk P w K mg base CX0 4 fa fd P_n__law_kinds (spOf P w K mg f_n__law_kinds) :=
  fn_ok (k := 3) (body := m_n__law_kinds) F sc_n__law_kinds fun cdv A outer s H E hr => by
    have hu := hu64 hr
    have c_n__law_kind_1 : ∀ {X : Cx} {W : WX}, X.prog = P → X.w = w → X.K = K → X.mg = mg → X.base = base → X.A = _ → Cal X W "_law_kind" [] f_n__law_kind := fun e1 e2 e3 e4 e5 e6 => Def.calE d_n__law_kind_1 (hr.mono (by decide)) pass0At e1 e2 e3 e4 e5 e6
    have c_n__law_next_2 : ∀ {X : Cx} {W : WX}, X.prog = P → X.w = w → X.K = K → X.mg = mg → X.base = base → X.A = _ → Cal X W "_law_next" [] f_n__law_next := fun e1 e2 e3 e4 e5 e6 => Def.calE d_n__law_next_2 (hr.mono (by decide)) pass0At e1 e2 e3 e4 e5 e6
    exact (qss_cons (qsn (i := 2) sc_n__law_kinds.nd (q_newL qa_nil))
  (qss_cons (qsn (i := 3) sc_n__law_kinds.nd (q_sl sld (q_fn (c_n__law_kind_1 rfl rfl rfl rfl rfl rfl) rfl (qa_cons (qv 0) qa_nil)) qo_nil (qo_some q_int)))
  (qss_cons (qsn (i := 4) sc_n__law_kinds.nd (q_fn (c_n__law_next_2 rfl rfl rfl rfl rfl rfl) rfl (qa_cons (qv 0) (qa_cons (q_op opd_plus (q_bltn cd_len rfl fr.len (by decide +kernel) (qa_cons (qv 3) qa_nil)) q_int) qa_nil))))
  (qss_cons (qsn (i := 5) sc_n__law_kinds.nd (q_fn (c_n__law_next_2 rfl rfl rfl rfl rfl rfl) rfl (qa_cons (qv 0) (qa_cons q_int qa_nil))))
  (qss_cons (qsn (i := 6) sc_n__law_kinds.nd (q_fn (c_n__law_next_2 rfl rfl rfl rfl rfl rfl) rfl (qa_cons (qv 0) (qa_cons q_int qa_nil))))
  (qss_cons (qs_for (passes_of rfl) rfl (qi_range1 rfl fr.range q_int) (qgn (i := 7) sc_n__law_kinds.nd) (qss_cons (qs_if (qt_cmp (opd_eq hu) (q_bltn cd_len rfl fr.len (by decide +kernel) (qa_cons (qv 2) qa_nil)) (qv 1) (by rfl)) (qss_cons qs_break
  qss_nil) qss_nil)
  (qss_cons (qsn (i := 8) sc_n__law_kinds.nd (q_if (QW.qt (qw_and (qt_cmp (opd_eq hu) (qv 6) q_int (by rfl)) (qw_and1 (qt_cmp (opd_lt hu) (qv 7) (q_op opd_mul q_int (qv 1)) (by rfl))))) (q_fn (c_n__law_kind_1 rfl rfl rfl rfl rfl rfl) rfl (qa_cons (qv 0) qa_nil)) q_str))
  (qss_cons (qs_if (QW.qt (qw_or (qt_cmp (opd_eq hu) (qv 6) q_int (by rfl)) (qw_or1 (qt_cmp (opd_ge hu) (qv 7) (q_op opd_mul q_int (qv 1)) (by rfl))))) (qss_cons (qsn (i := 9) sc_n__law_kinds.nd (q_op opd_mod (q_btyp cd_int rfl fr.int (by decide +kernel) (qa_cons (q_op opd_plus (qv 5) (q_op opd_mul (qv 7) q_int)) qa_nil)) q_int))
  (qss_cons (qsn (i := 8) sc_n__law_kinds.nd (q_op opd_plus (q_op opd_plus (q_op opd_plus (q_sl sld (qv 3) qo_nil (qo_some (qv 4))) (q_ix (ixd hu) q_str (q_op opd_div (qv 9) q_int))) (q_ix (ixd hu) q_str (q_op opd_mod (q_btyp cd_int rfl fr.int (by decide +kernel) (qa_cons (qv 9) qa_nil)) q_int))) (q_sl sld (qv 3) (qo_some (qv 4)) qo_nil)))
  qss_nil)) qss_nil)
  (qss_cons (qs_if (qt_cmp (opd_notIn hu) (qv 8) (qv 2) (by rfl)) (qss_cons (qs_expr (q_meth PySem.F.plainAttrs_list PySem.F.slot_list_append PySem.F.type_list_append md_append (qv 2) (qa_cons (qv 8) qa_nil)))
  qss_nil) qss_nil)
  qss_nil)))))
  (qss_cons (qs_ret (q_btyp cd_tuple rfl fr.tuple (by decide +kernel) (qa_cons (q_bltn (cd_sortF hu) rfl fr.sorted (by decide +kernel) (qa_cons (qv 2) qa_nil)) qa_nil)))
  qss_nil)))))))
theorem ok_n__law_bit (fr : Fr mg K) (d_n__law_next_2 : Def P w K mg base CX0 1 "_law_next" [] f_n__law_next) (F : FunD K "_law_bit" "_law_bit" (defArgs s_n__law_bit) (defBody s_n__law_bit) (defScope s_n__law_bit) [] [] fa fd) :
    FnOk P w K mg base CX0 2 fa fd P_n__law_bit (spOf P w K mg f_n__law_bit) :=
  fn_ok (k := 1) (body := m_n__law_bit) F sc_n__law_bit fun cdv A outer s H E hr => by
    have hu := hu64 hr
    have c_n__law_next_2 : ∀ {X : Cx} {W : WX}, X.prog = P → X.w = w → X.K = K → X.mg = mg → X.base = base → X.A = _ → Cal X W "_law_next" [] f_n__law_next := fun e1 e2 e3 e4 e5 e6 => Def.calE d_n__law_next_2 (hr.mono (by decide)) pass0At e1 e2 e3 e4 e5 e6
    exact (qss_cons (qs_ret (q_cmp (opd_eq hu) (q_fn (c_n__law_next_2 rfl rfl rfl rfl rfl rfl) rfl (qa_cons (qv 0) (qa_cons q_int qa_nil))) q_int (by rfl)))
  qss_nil)
theorem ok_n__law_flip (fr : Fr mg K)  (F : FunD K "_law_flip" "_law_flip" (defArgs s_n__law_flip) (defBody s_n__law_flip) (defScope s_n__law_flip) [] [] fa fd) :
    FnOk P w K mg base CX0 1 fa fd P_n__law_flip (spOf P w K mg f_n__law_flip) :=
  fn_ok (k := 0) (body := m_n__law_flip) F sc_n__law_flip fun cdv A outer s H E hr => by
    have hu := hu64 hr
    exact (qss_cons (qs_ret (q_tup (qa_cons (q_ix (ixd hu) (qv 0) q_int) (qa_cons (q_not (q_ix (ixd hu) (qv 0) q_int)) qa_nil))))
  qss_nil)
theorem ok_n__law_sentence (fr : Fr mg K) (d_n__law_bit_1 : Def P w K mg base CX0 2 "_law_bit" [] f_n__law_bit) (d_n__law_next_2 : Def P w K mg base CX0 1 "_law_next" [] f_n__law_next) (d_n__law_pick_2 : Def P w K mg base CX0 2 "_law_pick" [] f_n__law_pick) (F : FunD K "_law_sentence" "_law_sentence" (defArgs s_n__law_sentence) (defBody s_n__law_sentence) (defScope s_n__law_sentence) [] [] fa fd) :
    FnOk P w K mg base CX0 3 fa fd P_n__law_sentence (spOf P w K mg f_n__law_sentence) :=
  fn_ok (k := 2) (body := m_n__law_sentence) F sc_n__law_sentence fun cdv A outer s H E hr => by
    have hu := hu64 hr
    have c_n__law_bit_1 : ∀ {X : Cx} {W : WX}, X.prog = P → X.w = w → X.K = K → X.mg = mg → X.base = base → X.A = _ → Cal X W "_law_bit" [] f_n__law_bit := fun e1 e2 e3 e4 e5 e6 => Def.calE d_n__law_bit_1 (hr.mono (by decide)) pass0At e1 e2 e3 e4 e5 e6
    have c_n__law_next_2 : ∀ {X : Cx} {W : WX}, X.prog = P → X.w = w → X.K = K → X.mg = mg → X.base = base → X.A = _ → Cal X W "_law_next" [] f_n__law_next := fun e1 e2 e3 e4 e5 e6 => Def.calE d_n__law_next_2 (hr.mono (by decide)) pass0At e1 e2 e3 e4 e5 e6
    have c_n__law_pick_2 : ∀ {X : Cx} {W : WX}, X.prog = P → X.w = w → X.K = K → X.mg = mg → X.base = base → X.A = _ → Cal X W "_law_pick" [] f_n__law_pick := fun e1 e2 e3 e4 e5 e6 => Def.calE d_n__law_pick_2 (hr.mono (by decide)) pass0At e1 e2 e3 e4 e5 e6
    exact (qss_cons (qsn (i := 2) sc_n__law_sentence.nd (q_fn (c_n__law_pick_2 rfl rfl rfl rfl rfl rfl) rfl (qa_cons (qv 0) (qa_cons (q_lst (qa_cons q_str (qa_cons q_str (qa_cons q_str (qa_cons q_str qa_nil))))) qa_nil))))
  (qss_cons (qsn (i := 3) sc_n__law_sentence.nd (q_tup (qa_cons (q_fn (c_n__law_pick_2 rfl rfl rfl rfl rfl rfl) rfl (qa_cons (qv 0) (qa_cons (qv 1) qa_nil))) (qa_cons (q_fn (c_n__law_bit_1 rfl rfl rfl rfl rfl rfl) rfl (qa_cons (qv 0) qa_nil)) qa_nil))))
  (qss_cons (qsn (i := 4) sc_n__law_sentence.nd (q_tup (qa_cons (q_fn (c_n__law_pick_2 rfl rfl rfl rfl rfl rfl) rfl (qa_cons (qv 0) (qa_cons (qv 1) qa_nil))) (qa_cons (q_fn (c_n__law_bit_1 rfl rfl rfl rfl rfl rfl) rfl (qa_cons (qv 0) qa_nil)) qa_nil))))
  (qss_cons (qs_if (qt_cmp (opd_eq hu) (q_fn (c_n__law_next_2 rfl rfl rfl rfl rfl rfl) rfl (qa_cons (qv 0) (qa_cons q_int qa_nil))) q_int (by rfl)) (qss_cons (qsn (i := 4) sc_n__law_sentence.nd (q_tup (qa_cons (q_ix (ixd hu) (qv 3) q_int) (qa_cons (q_fn (c_n__law_bit_1 rfl rfl rfl rfl rfl rfl) rfl (qa_cons (qv 0) qa_nil)) qa_nil))))
  qss_nil) qss_nil)
  (qss_cons (qs_ret (q_tup (qa_cons (qv 2) (qa_cons (qv 3) (qa_cons (qv 4) qa_nil)))))
  qss_nil)))))
theorem ok_n__law_question (fr : Fr mg K) (d_n__law_bit_1 : Def P w K mg base CX0 2 "_law_bit" [] f_n__law_bit) (d_n__law_next_2 : Def P w K mg base CX0 1 "_law_next" [] f_n__law_next) (d_n__law_pick_2 : Def P w K mg base CX0 2 "_law_pick" [] f_n__law_pick) (d_n__law_sentence_2 : Def P w K mg base CX0 3 "_law_sentence" [] f_n__law_sentence) (F : FunD K "_law_question" "_law_question" (defArgs s_n__law_question) (defBody s_n__law_question) (defScope s_n__law_question) [] [] fa fd) :
    FnOk P w K mg base CX0 4 fa fd P_n__law_question (spOf P w K mg f_n__law_question) :=
  fn_ok (k := 3) (body := m_n__law_question) F sc_n__law_question fun cdv A outer s H E hr => by
    have hu := hu64 hr
    have c_n__law_bit_1 : ∀ {X : Cx} {W : WX}, X.prog = P → X.w = w → X.K = K → X.mg = mg → X.base = base → X.A = _ → Cal X W "_law_bit" [] f_n__law_bit := fun e1 e2 e3 e4 e5 e6 => Def.calE d_n__law_bit_1 (hr.mono (by decide)) pass0At e1 e2 e3 e4 e5 e6
    have c_n__law_next_2 : ∀ {X : Cx} {W : WX}, X.prog = P → X.w = w → X.K = K → X.mg = mg → X.base = base → X.A = _ → Cal X W "_law_next" [] f_n__law_next := fun e1 e2 e3 e4 e5 e6 => Def.calE d_n__law_next_2 (hr.mono (by decide)) pass0At e1 e2 e3 e4 e5 e6
    have c_n__law_pick_2 : ∀ {X : Cx} {W : WX}, X.prog = P → X.w = w → X.K = K → X.mg = mg → X.base = base → X.A = _ → Cal X W "_law_pick" [] f_n__law_pick := fun e1 e2 e3 e4 e5 e6 => Def.calE d_n__law_pick_2 (hr.mono (by decide)) pass0At e1 e2 e3 e4 e5 e6
    have c_n__law_sentence_2 : ∀ {X : Cx} {W : WX}, X.prog = P → X.w = w → X.K = K → X.mg = mg → X.base = base → X.A = _ → Cal X W "_law_sentence" [] f_n__law_sentence := fun e1 e2 e3 e4 e5 e6 => Def.calE d_n__law_sentence_2 (hr.mono (by decide)) pass0At e1 e2 e3 e4 e5 e6
    exact (qss_cons (qs_if (qt_val (q_fn (c_n__law_bit_1 rfl rfl rfl rfl rfl rfl) rfl (qa_cons (qv 0) qa_nil))) (qss_cons (qs_ret (q_fn (c_n__law_sentence_2 rfl rfl rfl rfl rfl rfl) rfl (qa_cons (qv 0) (qa_cons (qv 1) qa_nil))))
  qss_nil) qss_nil)
  (qss_cons (qsn (i := 2) sc_n__law_question.nd (q_newL qa_nil))
  (qss_cons (qs_for (passes_of rfl) rfl (qi_range1 rfl fr.range (q_fn (c_n__law_pick_2 rfl rfl rfl rfl rfl rfl) rfl (qa_cons (qv 0) (qa_cons (q_lst (qa_cons q_int (qa_cons q_int (qa_cons q_int (qa_cons q_int (qa_cons q_int (qa_cons q_int qa_nil))))))) qa_nil)))) (qgn (i := 3) sc_n__law_question.nd) (qss_cons (qsn (i := 4) sc_n__law_question.nd (q_and (q_cmp (opd_gt hu) (q_bltn cd_len rfl fr.len (by decide +kernel) (qa_cons (qv 2) qa_nil)) q_int (by rfl)) (q_one (q_cmp (opd_eq hu) (q_fn (c_n__law_next_2 rfl rfl rfl rfl rfl rfl) rfl (qa_cons (qv 0) (qa_cons q_int qa_nil))) q_int (by rfl)))))
  (qss_cons (qs_expr (q_meth PySem.F.plainAttrs_list PySem.F.slot_list_append PySem.F.type_list_append md_append (qv 2) (qa_cons (q_if (qt_val (qv 4)) (q_fn (c_n__law_pick_2 rfl rfl rfl rfl rfl rfl) rfl (qa_cons (qv 0) (qa_cons (qv 2) qa_nil))) (q_fn (c_n__law_sentence_2 rfl rfl rfl rfl rfl rfl) rfl (qa_cons (qv 0) (qa_cons (qv 1) qa_nil)))) qa_nil)))
  qss_nil)))
  (qss_cons (qs_ret (q_btyp cd_tuple rfl fr.tuple (by decide +kernel) (qa_cons (qv 2) qa_nil)))
  qss_nil))))
theorem ok_n__law_numbered (fr : Fr mg K)  (F : FunD K "_law_numbered" "_law_numbered" (defArgs s_n__law_numbered) (defBody s_n__law_numbered) (defScope s_n__law_numbered) [] [] fa fd) :
    FnOk P w K mg base CX0 1 fa fd P_n__law_numbered (spOf P w K mg f_n__law_numbered) :=
  fn_ok (k := 0) (body := m_n__law_numbered) F sc_n__law_numbered fun cdv A outer s H E hr => by
    have hu := hu64 hr
    exact (qss_cons (qsn (i := 2) sc_n__law_numbered.nd (q_op opd_mul q_int (q_bltn cd_len rfl fr.len (by decide +kernel) (qa_cons (qv 0) qa_nil))))
  (qss_cons (qsn (i := 3) sc_n__law_numbered.nd (q_ix (ixd hu) (q_lst (qa_cons q_str (qa_cons q_str (qa_cons q_str (qa_cons q_str qa_nil))))) (q_op opd_mod (q_btyp cd_int rfl fr.int (by decide +kernel) (qa_cons (qv 1) qa_nil)) q_int)))
  (qss_cons (qsn (i := 4) sc_n__law_numbered.nd (q_op opd_mod (q_btyp cd_int rfl fr.int (by decide +kernel) (qa_cons (q_op opd_div (qv 1) q_int) qa_nil)) (qv 2)))
  (qss_cons (qsn (i := 5) sc_n__law_numbered.nd (q_op opd_mod (q_btyp cd_int rfl fr.int (by decide +kernel) (qa_cons (q_op opd_div (qv 1) (q_op opd_mul q_int (qv 2))) qa_nil)) (qv 2)))
  (qss_cons (qs_ret (q_tup (qa_cons (qv 3) (qa_cons (q_tup (qa_cons (q_ix (ixd hu) (qv 0) (q_op opd_div (qv 4) q_int)) (qa_cons (q_cmp (opd_eq hu) (q_op opd_mod (q_btyp cd_int rfl fr.int (by decide +kernel) (qa_cons (qv 4) qa_nil)) q_int) q_int (by rfl)) qa_nil))) (qa_cons (q_tup (qa_cons (q_ix (ixd hu) (qv 0) (q_op opd_div (qv 5) q_int)) (qa_cons (q_cmp (opd_eq hu) (q_op opd_mod (q_btyp cd_int rfl fr.int (by decide +kernel) (qa_cons (qv 5) qa_nil)) q_int) q_int (by rfl)) qa_nil))) qa_nil)))))
  qss_nil)))))
theorem ok_n__law_entries (fr : Fr mg K) (d_n__law_next_2 : Def P w K mg base CX0 1 "_law_next" [] f_n__law_next) (d_n__law_numbered_2 : Def P w K mg base CX0 1 "_law_numbered" [] f_n__law_numbered) (d_n__law_pick_2 : Def P w K mg base CX0 2 "_law_pick" [] f_n__law_pick) (d_n__law_sentence_2 : Def P w K mg base CX0 3 "_law_sentence" [] f_n__law_sentence) (F : FunD K "_law_entries" "_law_entries" (defArgs s_n__law_entries) (defBody s_n__law_entries) (defScope s_n__law_entries) [] [] fa fd) :
    FnOk P w K mg base CX0 4 fa fd P_n__law_entries (spOf P w K mg f_n__law_entries) :=
  fn_ok (k := 3) (body := m_n__law_entries) F sc_n__law_entries fun cdv A outer s H E hr => by
    have hu := hu64 hr
    have c_n__law_next_2 : ∀ {X : Cx} {W : WX}, X.prog = P → X.w = w → X.K = K → X.mg = mg → X.base = base → X.A = _ → Cal X W "_law_next" [] f_n__law_next := fun e1 e2 e3 e4 e5 e6 => Def.calE d_n__law_next_2 (hr.mono (by decide)) pass0At e1 e2 e3 e4 e5 e6
    have c_n__law_numbered_2 : ∀ {X : Cx} {W : WX}, X.prog = P → X.w = w → X.K = K → X.mg = mg → X.base = base → X.A = _ → Cal X W "_law_numbered" [] f_n__law_numbered := fun e1 e2 e3 e4 e5 e6 => Def.calE d_n__law_numbered_2 (hr.mono (by decide)) pass0At e1 e2 e3 e4 e5 e6
    have c_n__law_pick_2 : ∀ {X : Cx} {W : WX}, X.prog = P → X.w = w → X.K = K → X.mg = mg → X.base = base → X.A = _ → Cal X W "_law_pick" [] f_n__law_pick := fun e1 e2 e3 e4 e5 e6 => Def.calE d_n__law_pick_2 (hr.mono (by decide)) pass0At e1 e2 e3 e4 e5 e6
    have c_n__law_sentence_2 : ∀ {X : Cx} {W : WX}, X.prog = P → X.w = w → X.K = K → X.mg = mg → X.base = base → X.A = _ → Cal X W "_law_sentence" [] f_n__law_sentence := fun e1 e2 e3 e4 e5 e6 => Def.calE d_n__law_sentence_2 (hr.mono (by decide)) pass0At e1 e2 e3 e4 e5 e6
    exact (qss_cons (qsn (i := 3) sc_n__law_entries.nd (q_newL qa_nil))
  (qss_cons (qsn (i := 4) sc_n__law_entries.nd q_newT)
  (qss_cons (qs_for (passes_of rfl) rfl (qi_range1 rfl fr.range (q_fn (c_n__law_pick_2 rfl rfl rfl rfl rfl rfl) rfl (qa_cons (qv 0) (qa_cons (q_lst (qa_cons q_int (qa_cons q_int (qa_cons q_int (qa_cons q_int qa_nil))))) qa_nil)))) (qgn (i := 5) sc_n__law_entries.nd) (qss_cons (qsn (i := 10) sc_n__law_entries.nd (q_tup (qa_cons (q_fn (c_n__law_next_2 rfl rfl rfl rfl rfl rfl) rfl (qa_cons (qv 0) (qa_cons q_int qa_nil))) (qa_cons (q_fn (c_n__law_sentence_2 rfl rfl rfl rfl rfl rfl) rfl (qa_cons (qv 0) (qa_cons (qv 1) qa_nil))) qa_nil))))
  (qss_cons (qs_if (QW.qt (qw_and (qt_cmp (opd_notIn hu) (qv 10) (qv 4) (by rfl)) (qw_and1 (qt_cmp (opd_lt hu) (q_bltn cd_len rfl fr.len (by decide +kernel) (qa_cons (qv 3) qa_nil)) (qv 2) (by rfl))))) (qss_cons (qs_asg q_bl (qg_sub (W := WNever) (setd hu) (qv 4) (qv 10)))
  (qss_cons (qs_expr (q_meth PySem.F.plainAttrs_list PySem.F.slot_list_append PySem.F.type_list_append md_append (qv 3) (qa_cons (qv 10) qa_nil)))
  qss_nil)) qss_nil)
  qss_nil)))
  (qss_cons (qsn (i := 6) sc_n__law_entries.nd (q_op opd_mul (q_op opd_mul q_int (q_bltn cd_len rfl fr.len (by decide +kernel) (qa_cons (qv 1) qa_nil))) (q_bltn cd_len rfl fr.len (by decide +kernel) (qa_cons (qv 1) qa_nil))))
  (qss_cons (qsn (i := 7) sc_n__law_entries.nd (q_fn (c_n__law_next_2 rfl rfl rfl rfl rfl rfl) rfl (qa_cons (qv 0) (qa_cons (qv 6) qa_nil))))
  (qss_cons (qs_for (passes_of rfl) rfl (qi_range1 rfl fr.range (qv 6)) (qgn (i := 8) sc_n__law_entries.nd) (qss_cons (qs_if (QW.qt (qw_or (qt_cmp (opd_ge hu) (q_bltn cd_len rfl fr.len (by decide +kernel) (qa_cons (qv 3) qa_nil)) (qv 2) (by rfl)) (qw_or1 (qt_cmp (opd_gt hu) (qv 8) q_int (by rfl))))) (qss_cons qs_break
  qss_nil) qss_nil)
  (qss_cons (qsn (i := 11) sc_n__law_entries.nd (q_op opd_mod (q_btyp cd_int rfl fr.int (by decide +kernel) (qa_cons (q_op opd_plus (qv 7) (qv 8)) qa_nil)) (qv 6)))
  (qss_cons (qsn (i := 10) sc_n__law_entries.nd (q_tup (qa_cons (q_op opd_mod (q_btyp cd_int rfl fr.int (by decide +kernel) (qa_cons (qv 11) qa_nil)) q_int) (qa_cons (q_fn (c_n__law_numbered_2 rfl rfl rfl rfl rfl rfl) rfl (qa_cons (qv 1) (qa_cons (q_op opd_div (qv 11) q_int) qa_nil))) qa_nil))))
  (qss_cons (qs_if (qt_cmp (opd_notIn hu) (qv 10) (qv 4) (by rfl)) (qss_cons (qs_asg q_bl (qg_sub (W := WNever) (setd hu) (qv 4) (qv 10)))
  (qss_cons (qs_expr (q_meth PySem.F.plainAttrs_list PySem.F.slot_list_append PySem.F.type_list_append md_append (qv 3) (qa_cons (qv 10) qa_nil)))
  qss_nil)) qss_nil)
  qss_nil)))))
  (qss_cons (qsn (i := 9) sc_n__law_entries.nd (q_fn (c_n__law_next_2 rfl rfl rfl rfl rfl rfl) rfl (qa_cons (qv 0) (qa_cons (q_op opd_plus (q_bltn cd_len rfl fr.len (by decide +kernel) (qa_cons (qv 3) qa_nil)) q_int) qa_nil))))
  (qss_cons (qs_ret (q_op opd_plus (q_sl sld (qv 3) (qo_some (qv 9)) qo_nil) (q_sl sld (qv 3) qo_nil (qo_some (qv 9)))))
  qss_nil))))))))
theorem ok_n__law_different (fr : Fr mg K)  (F : FunD K "_law_different" "_law_different" (defArgs s_n__law_different) (defBody s_n__law_different) (defScope s_n__law_different) [] [] fa fd) :
    FnOk P w K mg base CX0 1 fa fd P_n__law_different (spOf P w K mg f_n__law_different) :=
  fn_ok (k := 0) (body := m_n__law_different) F sc_n__law_different fun cdv A outer s H E hr => by
    have hu := hu64 hr
    exact (qss_cons (qsn (i := 1) sc_n__law_different.nd (q_newL qa_nil))
  (qss_cons (qsn (i := 2) sc_n__law_different.nd q_newT)
  (qss_cons (qs_for (passes_of rfl) rfl (qi_seq (qv 0)) (qgn (i := 3) sc_n__law_different.nd) (qss_cons (qs_if (qt_cmp (opd_notIn hu) (qv 3) (qv 2) (by rfl)) (qss_cons (qs_asg q_bl (qg_sub (W := WNever) (setd hu) (qv 2) (qv 3)))
  (qss_cons (qs_expr (q_meth PySem.F.plainAttrs_list PySem.F.slot_list_append PySem.F.type_list_append md_append (qv 1) (qa_cons (qv 3) qa_nil)))
  qss_nil)) qss_nil)
  qss_nil))
  (qss_cons (qs_ret (qv 1))
  qss_nil))))
theorem ok_n__law_term_by (fr : Fr mg K) (d_n__law_flip_1 : Def P w K mg base CX0 1 "_law_flip" [] f_n__law_flip) (F : FunD K "_law_term_by" "_law_term_by" (defArgs s_n__law_term_by) (defBody s_n__law_term_by) (defScope s_n__law_term_by) [] [] fa fd) :
    FnOk P w K mg base CX0 2 fa fd P_n__law_term_by (spOf P w K mg f_n__law_term_by) :=
  fn_ok (k := 1) (body := m_n__law_term_by) F sc_n__law_term_by fun cdv A outer s H E hr => by
    have hu := hu64 hr
    have c_n__law_flip_1 : ∀ {X : Cx} {W : WX}, X.prog = P → X.w = w → X.K = K → X.mg = mg → X.base = base → X.A = _ → Cal X W "_law_flip" [] f_n__law_flip := fun e1 e2 e3 e4 e5 e6 => Def.calE d_n__law_flip_1 (hr.mono (by decide)) pass0At e1 e2 e3 e4 e5 e6
    exact (qss_cons (qsn (i := 3) sc_n__law_term_by.nd (q_ix (ixd hu) (qv 1) (q_ix (ixd hu) (q_lc (own := [("at", 4)]) rfl sc_n__law_term_by.nd (qi_range1 rfl fr.range (q_bltn cd_len rfl fr.len (by decide +kernel) (qa_cons (qv 0) qa_nil))) (blkOk_by (own := [("at", 4)]) (N := N_n__law_term_by) (sc := defScope s_n__law_term_by) (by decide +kernel)) (fun _ _ _ _ _ => (qgn (i := 4) sc_n__law_term_by.nd)) (fun _ _ _ _ _ => (qts_one (qt_cmp (opd_eq hu) (q_ix (ixd hu) (qv 0) (qv 4)) (q_ix (ixd hu) (qv 2) q_int) (by rfl)))) (fun _ _ _ _ _ => (qv 4))) q_int)))
  (qss_cons (qs_ret (q_if (qt_val (q_ix (ixd hu) (qv 2) q_int)) (qv 3) (q_fn (c_n__law_flip_1 rfl rfl rfl rfl rfl rfl) rfl (qa_cons (qv 3) qa_nil))))
  qss_nil))
theorem ok_n__law_sentence_by (fr : Fr mg K) (d_n__law_term_by_3 : Def P w K mg base CX0 2 "_law_term_by" [] f_n__law_term_by) (F : FunD K "_law_sentence_by" "_law_sentence_by" (defArgs s_n__law_sentence_by) (defBody s_n__law_sentence_by) (defScope s_n__law_sentence_by) [] [] fa fd) :
    FnOk P w K mg base CX0 3 fa fd P_n__law_sentence_by (spOf P w K mg f_n__law_sentence_by) :=
  fn_ok (k := 2) (body := m_n__law_sentence_by) F sc_n__law_sentence_by fun cdv A outer s H E hr => by
    have hu := hu64 hr
    have c_n__law_term_by_3 : ∀ {X : Cx} {W : WX}, X.prog = P → X.w = w → X.K = K → X.mg = mg → X.base = base → X.A = _ → Cal X W "_law_term_by" [] f_n__law_term_by := fun e1 e2 e3 e4 e5 e6 => Def.calE d_n__law_term_by_3 (hr.mono (by decide)) pass0At e1 e2 e3 e4 e5 e6
    exact (qss_cons (qs_ret (q_tup (qa_cons (q_ix (ixd hu) (qv 2) q_int) (qa_cons (q_fn (c_n__law_term_by_3 rfl rfl rfl rfl rfl rfl) rfl (qa_cons (qv 0) (qa_cons (qv 1) (qa_cons (q_ix (ixd hu) (qv 2) q_int) qa_nil)))) (qa_cons (q_fn (c_n__law_term_by_3 rfl rfl rfl rfl rfl rfl) rfl (qa_cons (qv 0) (qa_cons (qv 1) (qa_cons (q_ix (ixd hu) (qv 2) q_int) qa_nil)))) qa_nil)))))
  qss_nil)
theorem ok_n__law_by (fr : Fr mg K) (d_n__law_sentence_by_3 : Def P w K mg base CX0 3 "_law_sentence_by" [] f_n__law_sentence_by) (F : FunD K "_law_by" "_law_by" (defArgs s_n__law_by) (defBody s_n__law_by) (defScope s_n__law_by) [] [] fa fd) :
    FnOk P w K mg base CX0 4 fa fd P_n__law_by (spOf P w K mg f_n__law_by) :=
  fn_ok (k := 3) (body := m_n__law_by) F sc_n__law_by fun cdv A outer s H E hr => by
    have hu := hu64 hr
    have c_n__law_sentence_by_3 : ∀ {X : Cx} {W : WX}, X.prog = P → X.w = w → X.K = K → X.mg = mg → X.base = base → X.A = _ → Cal X W "_law_sentence_by" [] f_n__law_sentence_by := fun e1 e2 e3 e4 e5 e6 => Def.calE d_n__law_sentence_by_3 (hr.mono (by decide)) pass0At e1 e2 e3 e4 e5 e6
    exact (qss_cons (qs_if (qt_val (q_isi (T := "str") rfl fr.isinstance (q_ix (ixd hu) (qv 2) q_int) rfl fr.str (by decide +kernel))) (qss_cons (qs_ret (q_fn (c_n__law_sentence_by_3 rfl rfl rfl rfl rfl rfl) rfl (qa_cons (qv 0) (qa_cons (qv 1) (qa_cons (qv 2) qa_nil)))))
  qss_nil) qss_nil)
  (qss_cons (qs_ret (q_btyp cd_tuple rfl fr.tuple (by decide +kernel) (qa_cons (q_lc (own := [("sentence", 3)]) rfl sc_n__law_by.nd (qi_seq (qv 2)) (blkOk_by (own := [("sentence", 3)]) (N := N_n__law_by) (sc := defScope s_n__law_by) (by decide +kernel)) (fun _ _ _ _ _ => (qgn (i := 3) sc_n__law_by.nd)) (fun _ _ _ _ _ => qts_nil) (fun _ _ _ _ _ => (q_fn (c_n__law_sentence_by_3 rfl rfl rfl rfl rfl rfl) rfl (qa_cons (qv 0) (qa_cons (qv 1) (qa_cons (qv 3) qa_nil)))))) qa_nil)))
  qss_nil))
theorem ok_n__law_target (fr : Fr mg K) (d_n__law_bit_1 : Def P w K mg base CX0 2 "_law_bit" [] f_n__law_bit) (d_n__law_next_2 : Def P w K mg base CX0 1 "_law_next" [] f_n__law_next) (d_n__law_pick_2 : Def P w K mg base CX0 2 "_law_pick" [] f_n__law_pick) (F : FunD K "_law_target" "_law_target" (defArgs s_n__law_target) (defBody s_n__law_target) (defScope s_n__law_target) [] [] fa fd) :
    FnOk P w K mg base CX0 3 fa fd P_n__law_target (spOf P w K mg f_n__law_target) :=
  fn_ok (k := 2) (body := m_n__law_target) F sc_n__law_target fun cdv A outer s H E hr => by
    have hu := hu64 hr
    have c_n__law_bit_1 : ∀ {X : Cx} {W : WX}, X.prog = P → X.w = w → X.K = K → X.mg = mg → X.base = base → X.A = _ → Cal X W "_law_bit" [] f_n__law_bit := fun e1 e2 e3 e4 e5 e6 => Def.calE d_n__law_bit_1 (hr.mono (by decide)) pass0At e1 e2 e3 e4 e5 e6
    have c_n__law_next_2 : ∀ {X : Cx} {W : WX}, X.prog = P → X.w = w → X.K = K → X.mg = mg → X.base = base → X.A = _ → Cal X W "_law_next" [] f_n__law_next := fun e1 e2 e3 e4 e5 e6 => Def.calE d_n__law_next_2 (hr.mono (by decide)) pass0At e1 e2 e3 e4 e5 e6
    have c_n__law_pick_2 : ∀ {X : Cx} {W : WX}, X.prog = P → X.w = w → X.K = K → X.mg = mg → X.base = base → X.A = _ → Cal X W "_law_pick" [] f_n__law_pick := fun e1 e2 e3 e4 e5 e6 => Def.calE d_n__law_pick_2 (hr.mono (by decide)) pass0At e1 e2 e3 e4 e5 e6
    exact (qss_cons (qsn (i := 3) sc_n__law_target.nd (q_fn (c_n__law_next_2 rfl rfl rfl rfl rfl rfl) rfl (qa_cons (qv 0) (qa_cons q_int qa_nil))))
  (qss_cons (qs_if (QW.qt (qw_and (qt_cmp (opd_eq hu) (qv 3) q_int (by rfl)) (qw_and1 (qt_cmp (opd_eq hu) (qv 1) (qv 2) (by rfl))))) (qss_cons (qs_ret (q_btyp cd_tuple rfl fr.tuple (by decide +kernel) (qa_cons (q_lc (own := [("kind", 6)]) rfl sc_n__law_target.nd (qi_seq (qv 1)) (blkOk_by (own := [("kind", 6)]) (N := N_n__law_target) (sc := defScope s_n__law_target) (by decide +kernel)) (fun _ _ _ _ _ => (qgn (i := 6) sc_n__law_target.nd)) (fun _ _ _ _ _ => qts_nil) (fun _ _ _ _ _ => (q_tup (qa_cons (qv 6) (qa_cons (q_cmp (opd_gt hu) (q_fn (c_n__law_next_2 rfl rfl rfl rfl rfl rfl) rfl (qa_cons (qv 0) (qa_cons q_int qa_nil))) q_int (by rfl)) qa_nil))))) qa_nil)))
  qss_nil) qss_nil)
  (qss_cons (qs_if (qt_cmp (opd_eq hu) (qv 3) q_int (by rfl)) (qss_cons (qsn (i := 4) sc_n__law_target.nd (q_fn (c_n__law_pick_2 rfl rfl rfl rfl rfl rfl) rfl (qa_cons (qv 0) (qa_cons (qv 2) qa_nil))))
  (qss_cons (qs_ret (q_btyp cd_tuple rfl fr.tuple (by decide +kernel) (qa_cons (q_lc (own := [("kind", 6)]) rfl sc_n__law_target.nd (qi_seq (qv 1)) (blkOk_by (own := [("kind", 6)]) (N := N_n__law_target) (sc := defScope s_n__law_target) (by decide +kernel)) (fun _ _ _ _ _ => (qgn (i := 6) sc_n__law_target.nd)) (fun _ _ _ _ _ => qts_nil) (fun _ _ _ _ _ => (q_tup (qa_cons (qv 4) (qa_cons (q_fn (c_n__law_bit_1 rfl rfl rfl rfl rfl rfl) rfl (qa_cons (qv 0) qa_nil)) qa_nil))))) qa_nil)))
  qss_nil)) qss_nil)
  (qss_cons (qs_if (qt_cmp (opd_eq hu) (qv 3) q_int (by rfl)) (qss_cons (qsn (i := 5) sc_n__law_target.nd (q_fn (c_n__law_next_2 rfl rfl rfl rfl rfl rfl) rfl (qa_cons (qv 0) (qa_cons (q_bltn cd_len rfl fr.len (by decide +kernel) (qa_cons (qv 2) qa_nil)) qa_nil))))
  (qss_cons (qs_ret (q_btyp cd_tuple rfl fr.tuple (by decide +kernel) (qa_cons (q_lc (own := [("at", 7)]) rfl sc_n__law_target.nd (qi_range1 rfl fr.range (q_bltn cd_len rfl fr.len (by decide +kernel) (qa_cons (qv 1) qa_nil))) (blkOk_by (own := [("at", 7)]) (N := N_n__law_target) (sc := defScope s_n__law_target) (by decide +kernel)) (fun _ _ _ _ _ => (qgn (i := 7) sc_n__law_target.nd)) (fun _ _ _ _ _ => qts_nil) (fun _ _ _ _ _ => (q_tup (qa_cons (q_ix (ixd hu) (qv 2) (q_op opd_mod (q_btyp cd_int rfl fr.int (by decide +kernel) (qa_cons (q_op opd_plus (qv 7) (qv 5)) qa_nil)) (q_bltn cd_len rfl fr.len (by decide +kernel) (qa_cons (qv 2) qa_nil)))) (qa_cons (q_fn (c_n__law_bit_1 rfl rfl rfl rfl rfl rfl) rfl (qa_cons (qv 0) qa_nil)) qa_nil))))) qa_nil)))
  qss_nil)) qss_nil)
  (qss_cons (qs_ret (q_btyp cd_tuple rfl fr.tuple (by decide +kernel) (qa_cons (q_lc (own := [("kind", 6)]) rfl sc_n__law_target.nd (qi_seq (qv 1)) (blkOk_by (own := [("kind", 6)]) (N := N_n__law_target) (sc := defScope s_n__law_target) (by decide +kernel)) (fun _ _ _ _ _ => (qgn (i := 6) sc_n__law_target.nd)) (fun _ _ _ _ _ => qts_nil) (fun _ _ _ _ _ => (q_tup (qa_cons (q_fn (c_n__law_pick_2 rfl rfl rfl rfl rfl rfl) rfl (qa_cons (qv 0) (qa_cons (qv 2) qa_nil))) (qa_cons (q_fn (c_n__law_bit_1 rfl rfl rfl rfl rfl rfl) rfl (qa_cons (qv 0) qa_nil)) qa_nil))))) qa_nil)))
  qss_nil)))))
theorem ok_n__law_goes (fr : Fr mg K) (d_n__law_same_2 : Def P w K mg base CX0 1 "_law_same" [] f_n__law_same) (d_by_itself_1 : Def P w K mg base CX0 5 "by_itself" [] f_by_itself) (d_contrary_1 : Def P w K mg base CX0 5 "contrary" [] f_contrary) (d_mirror_1 : Def P w K mg base CX0 5 "mirror" [] f_mirror) (d_translated_4 : Def P w K mg base CX0 6 "translated" [] f_translated) (F : FunD K "_law_goes" "_law_goes" (defArgs s_n__law_goes) (defBody s_n__law_goes) (defScope s_n__law_goes) [] [] fa fd) :
    FnOk P w K mg base CX0 7 fa fd P_n__law_goes (spOf P w K mg f_n__law_goes) :=
  fn_ok (k := 6) (body := m_n__law_goes) F sc_n__law_goes fun cdv A outer s H E hr => by
    have hu := hu64 hr
    have c_n__law_same_2 : ∀ {X : Cx} {W : WX}, X.prog = P → X.w = w → X.K = K → X.mg = mg → X.base = base → X.A = _ → Cal X W "_law_same" [] f_n__law_same := fun e1 e2 e3 e4 e5 e6 => Def.calE d_n__law_same_2 (hr.mono (by decide)) pass0At e1 e2 e3 e4 e5 e6
    have c_by_itself_1 : ∀ {X : Cx} {W : WX}, X.prog = P → X.w = w → X.K = K → X.mg = mg → X.base = base → X.A = _ → Cal X W "by_itself" [] f_by_itself := fun e1 e2 e3 e4 e5 e6 => Def.calE d_by_itself_1 (hr.mono (by decide)) pass0At e1 e2 e3 e4 e5 e6
    have c_contrary_1 : ∀ {X : Cx} {W : WX}, X.prog = P → X.w = w → X.K = K → X.mg = mg → X.base = base → X.A = _ → Cal X W "contrary" [] f_contrary := fun e1 e2 e3 e4 e5 e6 => Def.calE d_contrary_1 (hr.mono (by decide)) pass0At e1 e2 e3 e4 e5 e6
    have c_mirror_1 : ∀ {X : Cx} {W : WX}, X.prog = P → X.w = w → X.K = K → X.mg = mg → X.base = base → X.A = _ → Cal X W "mirror" [] f_mirror := fun e1 e2 e3 e4 e5 e6 => Def.calE d_mirror_1 (hr.mono (by decide)) pass0At e1 e2 e3 e4 e5 e6
    have c_translated_4 : ∀ {X : Cx} {W : WX}, X.prog = P → X.w = w → X.K = K → X.mg = mg → X.base = base → X.A = _ → Cal X W "translated" [] f_translated := fun e1 e2 e3 e4 e5 e6 => Def.calE d_translated_4 (hr.mono (by decide)) pass0At e1 e2 e3 e4 e5 e6
    exact (qss_cons (qsn (i := 4) sc_n__law_goes.nd (q_fn (c_translated_4 rfl rfl rfl rfl rfl rfl) rfl (qa_cons (qv 0) (qa_cons (qv 1) (qa_cons (qv 2) (qa_cons (qv 3) qa_nil))))))
  (qss_cons (qs_if (qt_not (qt_val (q_fn (c_n__law_same_2 rfl rfl rfl rfl rfl rfl) rfl (qa_cons (q_fn (c_translated_4 rfl rfl rfl rfl rfl rfl) rfl (qa_cons (qv 0) (qa_cons (qv 1) (qa_cons (qv 2) (qa_cons (q_fn (c_contrary_1 rfl rfl rfl rfl rfl rfl) rfl (qa_cons (qv 3) qa_nil)) qa_nil))))) (qa_cons (q_fn (c_contrary_1 rfl rfl rfl rfl rfl rfl) rfl (qa_cons (qv 4) qa_nil)) qa_nil))))) (qss_cons (qs_ret q_bl)
  qss_nil) qss_nil)
  (qss_cons (qs_if (qt_not (qt_val (q_fn (c_n__law_same_2 rfl rfl rfl rfl rfl rfl) rfl (qa_cons (q_fn (c_translated_4 rfl rfl rfl rfl rfl rfl) rfl (qa_cons (qv 0) (qa_cons (qv 1) (qa_cons (qv 2) (qa_cons (q_fn (c_mirror_1 rfl rfl rfl rfl rfl rfl) rfl (qa_cons (qv 3) qa_nil)) qa_nil))))) (qa_cons (q_fn (c_mirror_1 rfl rfl rfl rfl rfl rfl) rfl (qa_cons (qv 4) qa_nil)) qa_nil))))) (qss_cons (qs_ret q_bl)
  qss_nil) qss_nil)
  (qss_cons (qs_ret (q_or (q_cmp (opd_eq hu) (q_fn (c_by_itself_1 rfl rfl rfl rfl rfl rfl) rfl (qa_cons (qv 3) qa_nil)) q_str (by rfl)) (q_one (q_cmp (opd_eq hu) (q_fn (c_by_itself_1 rfl rfl rfl rfl rfl rfl) rfl (qa_cons (qv 4) qa_nil)) (q_fn (c_by_itself_1 rfl rfl rfl rfl rfl rfl) rfl (qa_cons (qv 3) qa_nil)) (by rfl)))))
  qss_nil))))
theorem ok_n__law_twice (fr : Fr mg K) (d_n__law_kinds_2 : Def P w K mg base CX0 4 "_law_kinds" [] f_n__law_kinds) (d_n__law_pick_2 : Def P w K mg base CX0 2 "_law_pick" [] f_n__law_pick) (d_n__law_same_2 : Def P w K mg base CX0 1 "_law_same" [] f_n__law_same) (d_n__law_target_3 : Def P w K mg base CX0 3 "_law_target" [] f_n__law_target) (d_n__law_term_by_3 : Def P w K mg base CX0 2 "_law_term_by" [] f_n__law_term_by) (d_translated_4 : Def P w K mg base CX0 6 "translated" [] f_translated) (F : FunD K "_law_twice" "_law_twice" (defArgs s_n__law_twice) (defBody s_n__law_twice) (defScope s_n__law_twice) [] [] fa fd) :
    FnOk P w K mg base CX0 7 fa fd P_n__law_twice (spOf P w K mg f_n__law_twice) :=
  fn_ok (k := 6) (body := m_n__law_twice) F sc_n__law_twice fun cdv A outer s H E hr => by
    have hu := hu64 hr
    have c_n__law_kinds_2 : ∀ {X : Cx} {W : WX}, X.prog = P → X.w = w → X.K = K → X.mg = mg → X.base = base → X.A = _ → Cal X W "_law_kinds" [] f_n__law_kinds := fun e1 e2 e3 e4 e5 e6 => Def.calE d_n__law_kinds_2 (hr.mono (by decide)) pass0At e1 e2 e3 e4 e5 e6
    have c_n__law_pick_2 : ∀ {X : Cx} {W : WX}, X.prog = P → X.w = w → X.K = K → X.mg = mg → X.base = base → X.A = _ → Cal X W "_law_pick" [] f_n__law_pick := fun e1 e2 e3 e4 e5 e6 => Def.calE d_n__law_pick_2 (hr.mono (by decide)) pass0At e1 e2 e3 e4 e5 e6
    have c_n__law_same_2 : ∀ {X : Cx} {W : WX}, X.prog = P → X.w = w → X.K = K → X.mg = mg → X.base = base → X.A = _ → Cal X W "_law_same" [] f_n__law_same := fun e1 e2 e3 e4 e5 e6 => Def.calE d_n__law_same_2 (hr.mono (by decide)) pass0At e1 e2 e3 e4 e5 e6
    have c_n__law_target_3 : ∀ {X : Cx} {W : WX}, X.prog = P → X.w = w → X.K = K → X.mg = mg → X.base = base → X.A = _ → Cal X W "_law_target" [] f_n__law_target := fun e1 e2 e3 e4 e5 e6 => Def.calE d_n__law_target_3 (hr.mono (by decide)) pass0At e1 e2 e3 e4 e5 e6
    have c_n__law_term_by_3 : ∀ {X : Cx} {W : WX}, X.prog = P → X.w = w → X.K = K → X.mg = mg → X.base = base → X.A = _ → Cal X W "_law_term_by" [] f_n__law_term_by := fun e1 e2 e3 e4 e5 e6 => Def.calE d_n__law_term_by_3 (hr.mono (by decide)) pass0At e1 e2 e3 e4 e5 e6
    have c_translated_4 : ∀ {X : Cx} {W : WX}, X.prog = P → X.w = w → X.K = K → X.mg = mg → X.base = base → X.A = _ → Cal X W "translated" [] f_translated := fun e1 e2 e3 e4 e5 e6 => Def.calE d_translated_4 (hr.mono (by decide)) pass0At e1 e2 e3 e4 e5 e6
    exact (qss_cons (qsn (i := 5) sc_n__law_twice.nd (q_fn (c_n__law_kinds_2 rfl rfl rfl rfl rfl rfl) rfl (qa_cons (qv 0) (qa_cons (q_fn (c_n__law_pick_2 rfl rfl rfl rfl rfl rfl) rfl (qa_cons (qv 0) (qa_cons (q_lst (qa_cons q_int (qa_cons q_int (qa_cons q_int (qa_cons q_int qa_nil))))) qa_nil))) qa_nil))))
  (qss_cons (qsn (i := 6) sc_n__law_twice.nd (q_fn (c_n__law_target_3 rfl rfl rfl rfl rfl rfl) rfl (qa_cons (qv 0) (qa_cons (qv 2) (qa_cons (qv 5) qa_nil)))))
  (qss_cons (qsn (i := 7) sc_n__law_twice.nd (q_btyp cd_tuple rfl fr.tuple (by decide +kernel) (qa_cons (q_lc (own := [("term", 9)]) rfl sc_n__law_twice.nd (qi_seq (qv 3)) (blkOk_by (own := [("term", 9)]) (N := N_n__law_twice) (sc := defScope s_n__law_twice) (by decide +kernel)) (fun _ _ _ _ _ => (qgn (i := 9) sc_n__law_twice.nd)) (fun _ _ _ _ _ => qts_nil) (fun _ _ _ _ _ => (q_fn (c_n__law_term_by_3 rfl rfl rfl rfl rfl rfl) rfl (qa_cons (qv 2) (qa_cons (qv 6) (qa_cons (qv 9) qa_nil)))))) qa_nil)))
  (qss_cons (qsn (i := 8) sc_n__law_twice.nd (q_fn (c_translated_4 rfl rfl rfl rfl rfl rfl) rfl (qa_cons (qv 2) (qa_cons (qv 5) (qa_cons (qv 6) (qa_cons (q_fn (c_translated_4 rfl rfl rfl rfl rfl rfl) rfl (qa_cons (qv 1) (qa_cons (qv 2) (qa_cons (qv 3) (qa_cons (qv 4) qa_nil))))) qa_nil))))))
  (qss_cons (qs_ret (q_fn (c_n__law_same_2 rfl rfl rfl rfl rfl rfl) rfl (qa_cons (qv 8) (qa_cons (q_fn (c_translated_4 rfl rfl rfl rfl rfl rfl) rfl (qa_cons (qv 1) (qa_cons (qv 5) (qa_cons (qv 7) (qa_cons (qv 4) qa_nil))))) qa_nil))))
  qss_nil)))))
theorem ok_law (fr : Fr mg K) (d_n__law_bit_1 : Def P w K mg base CX0 2 "_law_bit" [] f_n__law_bit) (d_n__law_by_3 : Def P w K mg base CX0 4 "_law_by" [] f_n__law_by) (d_n__law_different_1 : Def P w K mg base CX0 1 "_law_different" [] f_n__law_different) (d_n__law_entries_3 : Def P w K mg base CX0 4 "_law_entries" [] f_n__law_entries) (d_n__law_flip_1 : Def P w K mg base CX0 1 "_law_flip" [] f_n__law_flip) (d_n__law_goes_4 : Def P w K mg base CX0 7 "_law_goes" [] f_n__law_goes) (d_n__law_kinds_2 : Def P w K mg base CX0 4 "_law_kinds" [] f_n__law_kinds) (d_n__law_next_2 : Def P w K mg base CX0 1 "_law_next" [] f_n__law_next) (d_n__law_pick_2 : Def P w K mg base CX0 2 "_law_pick" [] f_n__law_pick) (d_n__law_question_2 : Def P w K mg base CX0 4 "_law_question" [] f_n__law_question) (d_n__law_same_2 : Def P w K mg base CX0 1 "_law_same" [] f_n__law_same) (d_n__law_sentence_2 : Def P w K mg base CX0 3 "_law_sentence" [] f_n__law_sentence) (d_n__law_sentence_by_3 : Def P w K mg base CX0 3 "_law_sentence_by" [] f_n__law_sentence_by) (d_n__law_stream_1 : Def P w K mg base CX0 1 "_law_stream" [] f_n__law_stream) (d_n__law_target_3 : Def P w K mg base CX0 3 "_law_target" [] f_n__law_target) (d_n__law_twice_5 : Def P w K mg base CX0 7 "_law_twice" [] f_n__law_twice) (d_is_book_1 : Def P w K mg base CX0 5 "is_book" [] f_is_book) (d_is_question_2 : Def P w K mg base CX0 5 "is_question" [] f_is_question) (d_translated_4 : Def P w K mg base CX0 6 "translated" [] f_translated) (d_translated_book_3 : Def P w K mg base CX0 7 "translated_book" [] f_translated_book) (F : FunD K "law" "law" (defArgs s_law) (defBody s_law) (defScope s_law) [] [] fa fd) :
    FnOk P w K mg base CX0 8 fa fd P_law (spOf P w K mg f_law) :=
  fn_ok (k := 7) (body := m_law) F sc_law fun cdv A outer s H E hr => by
    have hu := hu64 hr
    have c_n__law_bit_1 : ∀ {X : Cx} {W : WX}, X.prog = P → X.w = w → X.K = K → X.mg = mg → X.base = base → X.A = _ → Cal X W "_law_bit" [] f_n__law_bit := fun e1 e2 e3 e4 e5 e6 => Def.calE d_n__law_bit_1 (hr.mono (by decide)) pass0At e1 e2 e3 e4 e5 e6
    have c_n__law_by_3 : ∀ {X : Cx} {W : WX}, X.prog = P → X.w = w → X.K = K → X.mg = mg → X.base = base → X.A = _ → Cal X W "_law_by" [] f_n__law_by := fun e1 e2 e3 e4 e5 e6 => Def.calE d_n__law_by_3 (hr.mono (by decide)) pass0At e1 e2 e3 e4 e5 e6
    have c_n__law_different_1 : ∀ {X : Cx} {W : WX}, X.prog = P → X.w = w → X.K = K → X.mg = mg → X.base = base → X.A = _ → Cal X W "_law_different" [] f_n__law_different := fun e1 e2 e3 e4 e5 e6 => Def.calE d_n__law_different_1 (hr.mono (by decide)) pass0At e1 e2 e3 e4 e5 e6
    have c_n__law_entries_3 : ∀ {X : Cx} {W : WX}, X.prog = P → X.w = w → X.K = K → X.mg = mg → X.base = base → X.A = _ → Cal X W "_law_entries" [] f_n__law_entries := fun e1 e2 e3 e4 e5 e6 => Def.calE d_n__law_entries_3 (hr.mono (by decide)) pass0At e1 e2 e3 e4 e5 e6
    have c_n__law_flip_1 : ∀ {X : Cx} {W : WX}, X.prog = P → X.w = w → X.K = K → X.mg = mg → X.base = base → X.A = _ → Cal X W "_law_flip" [] f_n__law_flip := fun e1 e2 e3 e4 e5 e6 => Def.calE d_n__law_flip_1 (hr.mono (by decide)) pass0At e1 e2 e3 e4 e5 e6
    have c_n__law_goes_4 : ∀ {X : Cx} {W : WX}, X.prog = P → X.w = w → X.K = K → X.mg = mg → X.base = base → X.A = _ → Cal X W "_law_goes" [] f_n__law_goes := fun e1 e2 e3 e4 e5 e6 => Def.calE d_n__law_goes_4 (hr.mono (by decide)) pass0At e1 e2 e3 e4 e5 e6
    have c_n__law_kinds_2 : ∀ {X : Cx} {W : WX}, X.prog = P → X.w = w → X.K = K → X.mg = mg → X.base = base → X.A = _ → Cal X W "_law_kinds" [] f_n__law_kinds := fun e1 e2 e3 e4 e5 e6 => Def.calE d_n__law_kinds_2 (hr.mono (by decide)) pass0At e1 e2 e3 e4 e5 e6
    have c_n__law_next_2 : ∀ {X : Cx} {W : WX}, X.prog = P → X.w = w → X.K = K → X.mg = mg → X.base = base → X.A = _ → Cal X W "_law_next" [] f_n__law_next := fun e1 e2 e3 e4 e5 e6 => Def.calE d_n__law_next_2 (hr.mono (by decide)) pass0At e1 e2 e3 e4 e5 e6
    have c_n__law_pick_2 : ∀ {X : Cx} {W : WX}, X.prog = P → X.w = w → X.K = K → X.mg = mg → X.base = base → X.A = _ → Cal X W "_law_pick" [] f_n__law_pick := fun e1 e2 e3 e4 e5 e6 => Def.calE d_n__law_pick_2 (hr.mono (by decide)) pass0At e1 e2 e3 e4 e5 e6
    have c_n__law_question_2 : ∀ {X : Cx} {W : WX}, X.prog = P → X.w = w → X.K = K → X.mg = mg → X.base = base → X.A = _ → Cal X W "_law_question" [] f_n__law_question := fun e1 e2 e3 e4 e5 e6 => Def.calE d_n__law_question_2 (hr.mono (by decide)) pass0At e1 e2 e3 e4 e5 e6
    have c_n__law_same_2 : ∀ {X : Cx} {W : WX}, X.prog = P → X.w = w → X.K = K → X.mg = mg → X.base = base → X.A = _ → Cal X W "_law_same" [] f_n__law_same := fun e1 e2 e3 e4 e5 e6 => Def.calE d_n__law_same_2 (hr.mono (by decide)) pass0At e1 e2 e3 e4 e5 e6
    have c_n__law_sentence_2 : ∀ {X : Cx} {W : WX}, X.prog = P → X.w = w → X.K = K → X.mg = mg → X.base = base → X.A = _ → Cal X W "_law_sentence" [] f_n__law_sentence := fun e1 e2 e3 e4 e5 e6 => Def.calE d_n__law_sentence_2 (hr.mono (by decide)) pass0At e1 e2 e3 e4 e5 e6
    have c_n__law_sentence_by_3 : ∀ {X : Cx} {W : WX}, X.prog = P → X.w = w → X.K = K → X.mg = mg → X.base = base → X.A = _ → Cal X W "_law_sentence_by" [] f_n__law_sentence_by := fun e1 e2 e3 e4 e5 e6 => Def.calE d_n__law_sentence_by_3 (hr.mono (by decide)) pass0At e1 e2 e3 e4 e5 e6
    have c_n__law_stream_1 : ∀ {X : Cx} {W : WX}, X.prog = P → X.w = w → X.K = K → X.mg = mg → X.base = base → X.A = _ → Cal X W "_law_stream" [] f_n__law_stream := fun e1 e2 e3 e4 e5 e6 => Def.calE d_n__law_stream_1 (hr.mono (by decide)) pass0At e1 e2 e3 e4 e5 e6
    have c_n__law_target_3 : ∀ {X : Cx} {W : WX}, X.prog = P → X.w = w → X.K = K → X.mg = mg → X.base = base → X.A = _ → Cal X W "_law_target" [] f_n__law_target := fun e1 e2 e3 e4 e5 e6 => Def.calE d_n__law_target_3 (hr.mono (by decide)) pass0At e1 e2 e3 e4 e5 e6
    have c_n__law_twice_5 : ∀ {X : Cx} {W : WX}, X.prog = P → X.w = w → X.K = K → X.mg = mg → X.base = base → X.A = _ → Cal X W "_law_twice" [] f_n__law_twice := fun e1 e2 e3 e4 e5 e6 => Def.calE d_n__law_twice_5 (hr.mono (by decide)) pass0At e1 e2 e3 e4 e5 e6
    have c_is_book_1 : ∀ {X : Cx} {W : WX}, X.prog = P → X.w = w → X.K = K → X.mg = mg → X.base = base → X.A = _ → Cal X W "is_book" [] f_is_book := fun e1 e2 e3 e4 e5 e6 => Def.calE d_is_book_1 (hr.mono (by decide)) pass0At e1 e2 e3 e4 e5 e6
    have c_is_question_2 : ∀ {X : Cx} {W : WX}, X.prog = P → X.w = w → X.K = K → X.mg = mg → X.base = base → X.A = _ → Cal X W "is_question" [] f_is_question := fun e1 e2 e3 e4 e5 e6 => Def.calE d_is_question_2 (hr.mono (by decide)) pass0At e1 e2 e3 e4 e5 e6
    have c_translated_4 : ∀ {X : Cx} {W : WX}, X.prog = P → X.w = w → X.K = K → X.mg = mg → X.base = base → X.A = _ → Cal X W "translated" [] f_translated := fun e1 e2 e3 e4 e5 e6 => Def.calE d_translated_4 (hr.mono (by decide)) pass0At e1 e2 e3 e4 e5 e6
    have c_translated_book_3 : ∀ {X : Cx} {W : WX}, X.prog = P → X.w = w → X.K = K → X.mg = mg → X.base = base → X.A = _ → Cal X W "translated_book" [] f_translated_book := fun e1 e2 e3 e4 e5 e6 => Def.calE d_translated_book_3 (hr.mono (by decide)) pass0At e1 e2 e3 e4 e5 e6
    exact (qss_cons (qsn (i := 1) sc_law.nd (q_fn (c_n__law_stream_1 rfl rfl rfl rfl rfl rfl) rfl (qa_cons (qv 0) qa_nil)))
  (qss_cons (qsn (i := 2) sc_law.nd (q_fn (c_n__law_kinds_2 rfl rfl rfl rfl rfl rfl) rfl (qa_cons (qv 1) (qa_cons (q_fn (c_n__law_pick_2 rfl rfl rfl rfl rfl rfl) rfl (qa_cons (qv 1) (qa_cons (q_lst (qa_cons q_int (qa_cons q_int (qa_cons q_int (qa_cons q_int (qa_cons q_int qa_nil)))))) qa_nil))) qa_nil))))
  (qss_cons (qsn (i := 3) sc_law.nd (q_if (qt_cmp (opd_eq hu) (q_fn (c_n__law_next_2 rfl rfl rfl rfl rfl rfl) rfl (qa_cons (qv 1) (qa_cons q_int qa_nil))) q_int (by rfl)) (qv 2) (q_fn (c_n__law_kinds_2 rfl rfl rfl rfl rfl rfl) rfl (qa_cons (qv 1) (qa_cons (q_fn (c_n__law_pick_2 rfl rfl rfl rfl rfl rfl) rfl (qa_cons (qv 1) (qa_cons (q_lst (qa_cons q_int (qa_cons q_int (qa_cons q_int (qa_cons q_int (qa_cons (q_bltn cd_len rfl fr.len (by decide +kernel) (qa_cons (qv 2) qa_nil)) qa_nil)))))) qa_nil))) qa_nil)))))
  (qss_cons (qsn (i := 4) sc_law.nd (q_fn (c_n__law_target_3 rfl rfl rfl rfl rfl rfl) rfl (qa_cons (qv 1) (qa_cons (qv 2) (qa_cons (qv 3) qa_nil)))))
  (qss_cons (qs_for (passes_of rfl) rfl (qi_range1 rfl fr.range q_int) (qgn (i := 5) sc_law.nd) (qss_cons (qsn (i := 12) sc_law.nd (q_fn (c_n__law_question_2 rfl rfl rfl rfl rfl rfl) rfl (qa_cons (qv 1) (qa_cons (qv 2) qa_nil))))
  (qss_cons (qsn (i := 13) sc_law.nd (q_fn (c_translated_4 rfl rfl rfl rfl rfl rfl) rfl (qa_cons (qv 2) (qa_cons (qv 3) (qa_cons (qv 4) (qa_cons (qv 12) qa_nil))))))
  (qss_cons (qs_if (QW.qt (qw_or (qt_not (qt_val (q_fn (c_n__law_same_2 rfl rfl rfl rfl rfl rfl) rfl (qa_cons (qv 13) (qa_cons (q_fn (c_n__law_by_3 rfl rfl rfl rfl rfl rfl) rfl (qa_cons (qv 2) (qa_cons (qv 4) (qa_cons (qv 12) qa_nil)))) qa_nil))))) (qw_or1 (qt_cmp opd_isNot (q_fn (c_is_question_2 rfl rfl rfl rfl rfl rfl) rfl (qa_cons (qv 3) (qa_cons (qv 13) qa_nil))) q_bl (by rfl))))) (qss_cons (qs_ret q_bl)
  qss_nil) qss_nil)
  (qss_cons (qs_if (QW.qt (qw_or (qt_not (qt_val (q_fn (c_n__law_twice_5 rfl rfl rfl rfl rfl rfl) rfl (qa_cons (qv 1) (qa_cons (qv 2) (qa_cons (qv 3) (qa_cons (qv 4) (qa_cons (qv 12) qa_nil)))))))) (qw_or1 (qt_not (qt_val (q_fn (c_n__law_goes_4 rfl rfl rfl rfl rfl rfl) rfl (qa_cons (qv 2) (qa_cons (qv 3) (qa_cons (qv 4) (qa_cons (q_fn (c_n__law_sentence_2 rfl rfl rfl rfl rfl rfl) rfl (qa_cons (qv 1) (qa_cons (qv 2) qa_nil))) qa_nil)))))))))) (qss_cons (qs_ret q_bl)
  qss_nil) qss_nil)
  qss_nil)))))
  (qss_cons (qsn (i := 6) sc_law.nd (q_tup (qa_cons (q_ix (ixd hu) (qv 2) q_int) (qa_cons (q_fn (c_n__law_bit_1 rfl rfl rfl rfl rfl rfl) rfl (qa_cons (qv 1) qa_nil)) qa_nil))))
  (qss_cons (qs_for (passes_of rfl) rfl (qi_seq (q_lst (qa_cons (q_tup (qa_cons q_str (qa_cons (qv 6) (qa_cons (qv 6) qa_nil)))) (qa_cons (q_tup (qa_cons q_str (qa_cons (qv 6) (qa_cons (qv 6) qa_nil)))) (qa_cons (q_tup (qa_cons q_str (qa_cons (qv 6) (qa_cons (qv 6) qa_nil)))) (qa_cons (q_tup (qa_cons q_str (qa_cons (qv 6) (qa_cons (q_fn (c_n__law_flip_1 rfl rfl rfl rfl rfl rfl) rfl (qa_cons (qv 6) qa_nil)) qa_nil)))) qa_nil)))))) (qgn (i := 7) sc_law.nd) (qss_cons (qs_if (qt_not (qt_val (q_fn (c_n__law_goes_4 rfl rfl rfl rfl rfl rfl) rfl (qa_cons (qv 2) (qa_cons (qv 3) (qa_cons (qv 4) (qa_cons (qv 7) qa_nil))))))) (qss_cons (qs_ret q_bl)
  qss_nil) qss_nil)
  qss_nil))
  (qss_cons (qsn (i := 8) sc_law.nd (q_fn (c_n__law_entries_3 rfl rfl rfl rfl rfl rfl) rfl (qa_cons (qv 1) (qa_cons (qv 2) (qa_cons (q_fn (c_n__law_pick_2 rfl rfl rfl rfl rfl rfl) rfl (qa_cons (qv 1) (qa_cons (q_lst (qa_cons q_int (qa_cons q_int (qa_cons q_int (qa_cons q_int qa_nil))))) qa_nil))) qa_nil)))))
  (qss_cons (qsn (i := 9) sc_law.nd (q_fn (c_n__law_different_1 rfl rfl rfl rfl rfl rfl) rfl (qa_cons (q_lc (own := [("entry", 14)]) rfl sc_law.nd (qi_seq (qv 8)) (blkOk_by (own := [("entry", 14)]) (N := N_law) (sc := defScope s_law) (by decide +kernel)) (fun _ _ _ _ _ => (qgn (i := 14) sc_law.nd)) (fun _ _ _ _ _ => qts_nil) (fun _ _ _ _ _ => (q_tup (qa_cons (q_ix (ixd hu) (qv 14) q_int) (qa_cons (q_fn (c_n__law_sentence_by_3 rfl rfl rfl rfl rfl rfl) rfl (qa_cons (qv 2) (qa_cons (qv 4) (qa_cons (q_ix (ixd hu) (qv 14) q_int) qa_nil)))) qa_nil))))) qa_nil)))
  (qss_cons (qsn (i := 10) sc_law.nd (q_fn (c_translated_book_3 rfl rfl rfl rfl rfl rfl) rfl (qa_cons (q_tup (qa_cons (qv 2) (qa_cons (q_btyp cd_tuple rfl fr.tuple (by decide +kernel) (qa_cons (qv 8) qa_nil)) qa_nil))) (qa_cons (qv 3) (qa_cons (qv 4) qa_nil)))))
  (qss_cons (qs_if (QW.qt (qw_or (qt_not (qt_val (q_fn (c_n__law_same_2 rfl rfl rfl rfl rfl rfl) rfl (qa_cons (qv 10) (qa_cons (q_tup (qa_cons (qv 3) (qa_cons (q_btyp cd_tuple rfl fr.tuple (by decide +kernel) (qa_cons (qv 9) qa_nil)) qa_nil))) qa_nil))))) (qw_or1 (qt_cmp opd_isNot (q_fn (c_is_book_1 rfl rfl rfl rfl rfl rfl) rfl (qa_cons (qv 10) qa_nil)) q_bl (by rfl))))) (qss_cons (qs_ret q_bl)
  qss_nil) qss_nil)
  (qss_cons (qsn (i := 11) sc_law.nd (q_btyp cd_tuple rfl fr.tuple (by decide +kernel) (qa_cons (q_lc (own := [("kind", 15)]) rfl sc_law.nd (qi_seq (qv 2)) (blkOk_by (own := [("kind", 15)]) (N := N_law) (sc := defScope s_law) (by decide +kernel)) (fun _ _ _ _ _ => (qgn (i := 15) sc_law.nd)) (fun _ _ _ _ _ => qts_nil) (fun _ _ _ _ _ => (q_tup (qa_cons (qv 15) (qa_cons q_bl qa_nil))))) qa_nil)))
  (qss_cons (qs_ret (q_fn (c_n__law_same_2 rfl rfl rfl rfl rfl rfl) rfl (qa_cons (q_fn (c_translated_book_3 rfl rfl rfl rfl rfl rfl) rfl (qa_cons (q_tup (qa_cons (qv 2) (qa_cons (q_btyp cd_tuple rfl fr.tuple (by decide +kernel) (qa_cons (qv 8) qa_nil)) qa_nil))) (qa_cons (qv 2) (qa_cons (qv 11) qa_nil)))) (qa_cons (q_tup (qa_cons (qv 2) (qa_cons (q_btyp cd_tuple rfl fr.tuple (by decide +kernel) (qa_cons (qv 8) qa_nil)) qa_nil))) qa_nil))))
  qss_nil)))))))))))))
end
end G

/-! The end: printed by gen.py. -/
namespace G
open PySem PySem.Spec PyProof.Rows L2 Q
theorem tup_K {K : PySem.W.Frag} {x : Str} {vs : List He.Dv} (h : He.tupB K x vs = true) (H : Hp) (μ : Mu) : TupAt K H μ (He.ga K x) (vs.map (He.Dv.v K)) := by
  rcases He.tupB_ok h (fun _ => none) with z | z
  · rcases z with z | ⟨_, z⟩ <;> cases z
  · exact .inr z
def dd_is_integer : He.DefD := ⟨("is_integer", none), "is_integer", "is_integer", defArgs s_is_integer, defBody s_is_integer, defScope s_is_integer, [], []⟩
def dd_is_bit : He.DefD := ⟨("is_bit", none), "is_bit", "is_bit", defArgs s_is_bit, defBody s_is_bit, defScope s_is_bit, [], []⟩
def dd_is_from_to : He.DefD := ⟨("is_from_to", none), "is_from_to", "is_from_to", defArgs s_is_from_to, defBody s_is_from_to, defScope s_is_from_to, [], []⟩
def dd_is_tuple_of : He.DefD := ⟨("is_tuple_of", none), "is_tuple_of", "is_tuple_of", defArgs s_is_tuple_of, defBody s_is_tuple_of, defScope s_is_tuple_of, [], []⟩
def dd_is_ascending : He.DefD := ⟨("is_ascending", none), "is_ascending", "is_ascending", defArgs s_is_ascending, defBody s_is_ascending, defScope s_is_ascending, [], []⟩
def dd_without_doubles : He.DefD := ⟨("without_doubles", none), "without_doubles", "without_doubles", defArgs s_without_doubles, defBody s_without_doubles, defScope s_without_doubles, [], []⟩
def dd_is_kind : He.DefD := ⟨("is_kind", none), "is_kind", "is_kind", defArgs s_is_kind, defBody s_is_kind, defScope s_is_kind, [], []⟩
def dd_is_source : He.DefD := ⟨("is_source", none), "is_source", "is_source", defArgs s_is_source, defBody s_is_source, defScope s_is_source, [], []⟩
def dd_is_kind_row : He.DefD := ⟨("is_kind_row", none), "is_kind_row", "is_kind_row", defArgs s_is_kind_row, defBody s_is_kind_row, defScope s_is_kind_row, [], []⟩
def dd_is_kinds : He.DefD := ⟨("is_kinds", none), "is_kinds", "is_kinds", defArgs s_is_kinds, defBody s_is_kinds, defScope s_is_kinds, [], []⟩
def dd_is_free_term : He.DefD := ⟨("is_free_term", none), "is_free_term", "is_free_term", defArgs s_is_free_term, defBody s_is_free_term, defScope s_is_free_term, [], []⟩
def dd_is_term_over : He.DefD := ⟨("is_term_over", none), "is_term_over", "is_term_over", defArgs s_is_term_over, defBody s_is_term_over, defScope s_is_term_over, [], []⟩
def dd_check_kinds : He.DefD := ⟨("check_kinds", none), "check_kinds", "check_kinds", defArgs s_check_kinds, defBody s_check_kinds, defScope s_check_kinds, [.str "kinds"], []⟩
def dd_flip : He.DefD := ⟨("flip", none), "flip", "flip", defArgs s_flip, defBody s_flip, defScope s_flip, [], []⟩
def dd_is_word_and : He.DefD := ⟨("is_word_and", none), "is_word_and", "is_word_and", defArgs s_is_word_and, defBody s_is_word_and, defScope s_is_word_and, [], []⟩
def dd_is_free_sentence : He.DefD := ⟨("is_free_sentence", none), "is_free_sentence", "is_free_sentence", defArgs s_is_free_sentence, defBody s_is_free_sentence, defScope s_is_free_sentence, [], []⟩
def dd_is_sentence_over : He.DefD := ⟨("is_sentence_over", none), "is_sentence_over", "is_sentence_over", defArgs s_is_sentence_over, defBody s_is_sentence_over, defScope s_is_sentence_over, [], []⟩
def dd_is_question_over : He.DefD := ⟨("is_question_over", none), "is_question_over", "is_question_over", defArgs s_is_question_over, defBody s_is_question_over, defScope s_is_question_over, [], []⟩
def dd_check_question : He.DefD := ⟨("check_question", none), "check_question", "check_question", defArgs s_check_question, defBody s_check_question, defScope s_check_question, [.str "question"], []⟩
def dd_is_question : He.DefD := ⟨("is_question", none), "is_question", "is_question", defArgs s_is_question, defBody s_is_question, defScope s_is_question, [], []⟩
def dd_contrary_of : He.DefD := ⟨("contrary_of", none), "contrary_of", "contrary_of", defArgs s_contrary_of, defBody s_contrary_of, defScope s_contrary_of, [], []⟩
def dd_mirror_of : He.DefD := ⟨("mirror_of", none), "mirror_of", "mirror_of", defArgs s_mirror_of, defBody s_mirror_of, defScope s_mirror_of, [], []⟩
def dd_check_free : He.DefD := ⟨("check_free", none), "check_free", "check_free", defArgs s_check_free, defBody s_check_free, defScope s_check_free, [], []⟩
def dd_contrary : He.DefD := ⟨("contrary", none), "contrary", "contrary", defArgs s_contrary, defBody s_contrary, defScope s_contrary, [], []⟩
def dd_mirror : He.DefD := ⟨("mirror", none), "mirror", "mirror", defArgs s_mirror, defBody s_mirror, defScope s_mirror, [], []⟩
def dd_always_holds : He.DefD := ⟨("always_holds", none), "always_holds", "always_holds", defArgs s_always_holds, defBody s_always_holds, defScope s_always_holds, [], []⟩
def dd_by_itself : He.DefD := ⟨("by_itself", none), "by_itself", "by_itself", defArgs s_by_itself, defBody s_by_itself, defScope s_by_itself, [], []⟩
def dd_is_entry : He.DefD := ⟨("is_entry", none), "is_entry", "is_entry", defArgs s_is_entry, defBody s_is_entry, defScope s_is_entry, [], []⟩
def dd_is_book : He.DefD := ⟨("is_book", none), "is_book", "is_book", defArgs s_is_book, defBody s_is_book, defScope s_is_book, [], []⟩
def dd_check_book : He.DefD := ⟨("check_book", none), "check_book", "check_book", defArgs s_check_book, defBody s_check_book, defScope s_check_book, [.str "book"], []⟩
def dd_made_book : He.DefD := ⟨("made_book", none), "made_book", "made_book", defArgs s_made_book, defBody s_made_book, defScope s_made_book, [], []⟩
def dd_check_terms : He.DefD := ⟨("check_terms", none), "check_terms", "check_terms", defArgs s_check_terms, defBody s_check_terms, defScope s_check_terms, [], []⟩
def dd_table_of : He.DefD := ⟨("table_of", none), "table_of", "table_of", defArgs s_table_of, defBody s_table_of, defScope s_table_of, [], []⟩
def dd_translated_by : He.DefD := ⟨("translated_by", none), "translated_by", "translated_by", defArgs s_translated_by, defBody s_translated_by, defScope s_translated_by, [], []⟩
def dd_translated : He.DefD := ⟨("translated", none), "translated", "translated", defArgs s_translated, defBody s_translated, defScope s_translated, [], []⟩
def dd_translated_book : He.DefD := ⟨("translated_book", none), "translated_book", "translated_book", defArgs s_translated_book, defBody s_translated_book, defScope s_translated_book, [], []⟩
def dd_n__law_stream : He.DefD := ⟨("_law_stream", none), "_law_stream", "_law_stream", defArgs s_n__law_stream, defBody s_n__law_stream, defScope s_n__law_stream, [], []⟩
def dd_n__law_next : He.DefD := ⟨("_law_next", none), "_law_next", "_law_next", defArgs s_n__law_next, defBody s_n__law_next, defScope s_n__law_next, [], []⟩
def dd_n__law_pick : He.DefD := ⟨("_law_pick", none), "_law_pick", "_law_pick", defArgs s_n__law_pick, defBody s_n__law_pick, defScope s_n__law_pick, [], []⟩
def dd_n__law_same : He.DefD := ⟨("_law_same", none), "_law_same", "_law_same", defArgs s_n__law_same, defBody s_n__law_same, defScope s_n__law_same, [], []⟩
def dd_n__law_kind : He.DefD := ⟨("_law_kind", none), "_law_kind", "_law_kind", defArgs s_n__law_kind, defBody s_n__law_kind, defScope s_n__law_kind, [], []⟩
def dd_n__law_kinds : He.DefD := ⟨("_law_kinds", none), "_law_kinds", "_law_kinds", defArgs s_n__law_kinds, defBody s_n__law_kinds, defScope s_n__law_kinds, [], []⟩
def dd_n__law_bit : He.DefD := ⟨("_law_bit", none), "_law_bit", "_law_bit", defArgs s_n__law_bit, defBody s_n__law_bit, defScope s_n__law_bit, [], []⟩
def dd_n__law_flip : He.DefD := ⟨("_law_flip", none), "_law_flip", "_law_flip", defArgs s_n__law_flip, defBody s_n__law_flip, defScope s_n__law_flip, [], []⟩
def dd_n__law_sentence : He.DefD := ⟨("_law_sentence", none), "_law_sentence", "_law_sentence", defArgs s_n__law_sentence, defBody s_n__law_sentence, defScope s_n__law_sentence, [], []⟩
def dd_n__law_question : He.DefD := ⟨("_law_question", none), "_law_question", "_law_question", defArgs s_n__law_question, defBody s_n__law_question, defScope s_n__law_question, [], []⟩
def dd_n__law_numbered : He.DefD := ⟨("_law_numbered", none), "_law_numbered", "_law_numbered", defArgs s_n__law_numbered, defBody s_n__law_numbered, defScope s_n__law_numbered, [], []⟩
def dd_n__law_entries : He.DefD := ⟨("_law_entries", none), "_law_entries", "_law_entries", defArgs s_n__law_entries, defBody s_n__law_entries, defScope s_n__law_entries, [], []⟩
def dd_n__law_different : He.DefD := ⟨("_law_different", none), "_law_different", "_law_different", defArgs s_n__law_different, defBody s_n__law_different, defScope s_n__law_different, [], []⟩
def dd_n__law_term_by : He.DefD := ⟨("_law_term_by", none), "_law_term_by", "_law_term_by", defArgs s_n__law_term_by, defBody s_n__law_term_by, defScope s_n__law_term_by, [], []⟩
def dd_n__law_sentence_by : He.DefD := ⟨("_law_sentence_by", none), "_law_sentence_by", "_law_sentence_by", defArgs s_n__law_sentence_by, defBody s_n__law_sentence_by, defScope s_n__law_sentence_by, [], []⟩
def dd_n__law_by : He.DefD := ⟨("_law_by", none), "_law_by", "_law_by", defArgs s_n__law_by, defBody s_n__law_by, defScope s_n__law_by, [], []⟩
def dd_n__law_target : He.DefD := ⟨("_law_target", none), "_law_target", "_law_target", defArgs s_n__law_target, defBody s_n__law_target, defScope s_n__law_target, [], []⟩
def dd_n__law_goes : He.DefD := ⟨("_law_goes", none), "_law_goes", "_law_goes", defArgs s_n__law_goes, defBody s_n__law_goes, defScope s_n__law_goes, [], []⟩
def dd_n__law_twice : He.DefD := ⟨("_law_twice", none), "_law_twice", "_law_twice", defArgs s_n__law_twice, defBody s_n__law_twice, defScope s_n__law_twice, [], []⟩
def dd_law : He.DefD := ⟨("law", none), "law", "law", defArgs s_law, defBody s_law, defScope s_law, [], []⟩
def hfn : List He.DefD := ([dd_is_integer, dd_is_bit, dd_is_from_to, dd_is_tuple_of, dd_is_ascending, dd_without_doubles, dd_is_kind, dd_is_source, dd_is_kind_row, dd_is_kinds, dd_is_free_term, dd_is_term_over, dd_check_kinds, dd_flip, dd_is_word_and, dd_is_free_sentence, dd_is_sentence_over, dd_is_question_over, dd_check_question, dd_is_question, dd_contrary_of, dd_mirror_of, dd_check_free, dd_contrary, dd_mirror, dd_always_holds, dd_by_itself, dd_is_entry, dd_is_book, dd_check_book] : List He.DefD) ++ ([dd_made_book, dd_check_terms, dd_table_of, dd_translated_by, dd_translated, dd_translated_book, dd_n__law_stream, dd_n__law_next, dd_n__law_pick, dd_n__law_same, dd_n__law_kind, dd_n__law_kinds, dd_n__law_bit, dd_n__law_flip, dd_n__law_sentence, dd_n__law_question, dd_n__law_numbered, dd_n__law_entries, dd_n__law_different, dd_n__law_term_by, dd_n__law_sentence_by, dd_n__law_by, dd_n__law_target, dd_n__law_goes, dd_n__law_twice, dd_law] : List He.DefD)
def hfa : List He.Fa := ([.glo "is_integer", .glo "is_bit", .glo "is_from_to", .glo "is_tuple_of", .glo "is_ascending", .glo "without_doubles", .glo "is_kind", .glo "is_source", .glo "is_kind_row", .glo "is_kinds", .glo "is_free_term", .glo "is_term_over", .glo "check_kinds", .glo "flip", .glo "is_word_and", .glo "is_free_sentence", .glo "is_sentence_over", .glo "is_question_over", .glo "check_question", .glo "is_question", .glo "contrary_of", .glo "mirror_of", .glo "check_free", .glo "contrary", .glo "mirror", .glo "always_holds", .glo "by_itself", .glo "is_entry", .glo "is_book", .glo "check_book"] : List He.Fa) ++ ([.glo "made_book", .glo "check_terms", .glo "table_of", .glo "translated_by", .glo "translated", .glo "translated_book", .glo "_law_stream", .glo "_law_next", .glo "_law_pick", .glo "_law_same", .glo "_law_kind", .glo "_law_kinds", .glo "_law_bit", .glo "_law_flip", .glo "_law_sentence", .glo "_law_question", .glo "_law_numbered", .glo "_law_entries", .glo "_law_different", .glo "_law_term_by", .glo "_law_sentence_by", .glo "_law_by", .glo "_law_target", .glo "_law_goes", .glo "_law_twice", .glo "law", .free "len", .free "isinstance", .free "int", .free "bool"] : List He.Fa) ++ ([.free "str", .free "tuple", .free "list", .free "all", .free "sorted", .free "range", .free "zip", .free "abs", .int "MOST_SIGNS" 12, .int "MOST_SOURCE" 5, .int "MOST_KINDS" 30, .glo "WORDS", .int "MOST_PARTS" 40, .int "MOST_ENTRIES" 150] : List He.Fa)
def hex (K : PySem.W.Frag) : Bool := He.tupB K "WORDS" [.str "all", .str "many", .str "more", .str "some"]
abbrev R : PySem.W.OpenRow := PySem.W.OpenLaw.row PySem.Challenge.rw_morethan_k06_whole_translated_sentences
abbrev hk : PySem.W.Hook := He.hookX 4 hfa hfn [] [] hex
def hob (s : PySem.W.SharedT) : He.AlX := He.obsX 4 hfa hfn [] [] hex (HandSHeadRun.getT s)
theorem hob_eq (s : PySem.W.SharedT) : hob s = hk.obs s.abs := He.obsX_eq (HandSHeadRun.getT_eq s)
def loose : List Str := (["__name__", "MoreError", "BadValue", "TooLarge", "MOST_SIGNS", "MOST_SOURCE", "MOST_KINDS", "is_integer", "is_bit", "is_from_to", "is_tuple_of", "is_ascending", "without_doubles", "is_kind", "is_source", "is_kind_row", "is_kinds", "is_free_term", "is_term_over", "check_kinds", "flip", "WORDS", "MOST_PARTS", "is_word_and", "is_free_sentence", "is_sentence_over", "is_question_over", "check_question", "is_question", "contrary_of"] : List Str) ++ (["mirror_of", "check_free", "contrary", "mirror", "always_holds", "by_itself", "MOST_ENTRIES", "is_entry", "is_book", "check_book", "made_book", "check_terms", "table_of", "translated_by", "translated", "translated_book", "_law_stream", "_law_next", "_law_pick", "_law_same", "_law_kind", "_law_kinds", "_law_bit", "_law_flip", "_law_sentence", "_law_question", "_law_numbered", "_law_entries", "_law_different", "_law_term_by"] : List Str) ++ (["_law_sentence_by", "_law_by", "_law_target", "_law_goes", "_law_twice"] : List Str)
theorem run (w : World) : HandSHeadRun.RunEq R (PySem.W.view R.prog [70]) hk hob 4000 loose w := by
  intro os
  kernel_rfl
theorem facts {P : Program} {w : World} {K : PySem.W.Frag} {h : Heap} {mg : Str → Option Value} {f : Addr} (X : K.In h) (G : h.Ns mainGlobals mg) (hfa0 : mg ("law" : Str) = some (.ref f)) (cx : He.SaysX hfa hfn [] [] hex w h K) :
    ∃ fd : FuncData, (∀ (s : Shared) (v : Value), BindsTo s fd ⟨[v], []⟩ [("script", v)]) ∧ ∀ base : Heap, K.In base → base.Ns mainGlobals mg → FnOk P w K mg base CX0 8 f fd ["script"] (spOf P w K mg f_law) := by
  have c := cx.t.d
  have cm := cx.more
  unfold hex at cm
  have x_WORDS := cm
  have fr : Fr mg K := {
    len := He.free_ok X G (c.fact 56 (f := .free "len") rfl)
    isinstance := He.free_ok X G (c.fact 57 (f := .free "isinstance") rfl)
    int := He.free_ok X G (c.fact 58 (f := .free "int") rfl)
    bool := He.free_ok X G (c.fact 59 (f := .free "bool") rfl)
    str := He.free_ok X G (c.fact 60 (f := .free "str") rfl)
    tuple := He.free_ok X G (c.fact 61 (f := .free "tuple") rfl)
    list := He.free_ok X G (c.fact 62 (f := .free "list") rfl)
    all := He.free_ok X G (c.fact 63 (f := .free "all") rfl)
    sorted := He.free_ok X G (c.fact 64 (f := .free "sorted") rfl)
    range := He.free_ok X G (c.fact 65 (f := .free "range") rfl)
    zip := He.free_ok X G (c.fact 66 (f := .free "zip") rfl)
    abs := He.free_ok X G (c.fact 67 (f := .free "abs") rfl)
    MOST_SIGNS := (He.int_ok X G (c.fact 68 (f := .int "MOST_SIGNS" 12) rfl)).elim fun t h => ⟨.int 12, _, h, ⟨t, rfl⟩, fun _ _ => .int _⟩
    MOST_SOURCE := (He.int_ok X G (c.fact 69 (f := .int "MOST_SOURCE" 5) rfl)).elim fun t h => ⟨.int 5, _, h, ⟨t, rfl⟩, fun _ _ => .int _⟩
    MOST_KINDS := (He.int_ok X G (c.fact 70 (f := .int "MOST_KINDS" 30) rfl)).elim fun t h => ⟨.int 30, _, h, ⟨t, rfl⟩, fun _ _ => .int _⟩
    WORDS := ⟨.ref (He.ga K "WORDS"), _, He.glo_ok X G (c.fact 71 (f := .glo "WORDS") rfl), rfl, fun H μ => .tup (tup_K x_WORDS H μ) (.cons (.str "all") (.cons (.str "many") (.cons (.str "more") (.cons (.str "some") (.nil)))))⟩
    MOST_PARTS := (He.int_ok X G (c.fact 72 (f := .int "MOST_PARTS" 40) rfl)).elim fun t h => ⟨.int 40, _, h, ⟨t, rfl⟩, fun _ _ => .int _⟩
    MOST_ENTRIES := (He.int_ok X G (c.fact 73 (f := .int "MOST_ENTRIES" 150) rfl)).elim fun t h => ⟨.int 150, _, h, ⟨t, rfl⟩, fun _ _ => .int _⟩
  }
  obtain ⟨fd_is_integer, F_is_integer⟩ := c.def_ 0 (d := dd_is_integer) rfl
  obtain ⟨fd_is_bit, F_is_bit⟩ := c.def_ 1 (d := dd_is_bit) rfl
  obtain ⟨fd_is_from_to, F_is_from_to⟩ := c.def_ 2 (d := dd_is_from_to) rfl
  obtain ⟨fd_is_tuple_of, F_is_tuple_of⟩ := c.def_ 3 (d := dd_is_tuple_of) rfl
  obtain ⟨fd_is_ascending, F_is_ascending⟩ := c.def_ 4 (d := dd_is_ascending) rfl
  obtain ⟨fd_without_doubles, F_without_doubles⟩ := c.def_ 5 (d := dd_without_doubles) rfl
  obtain ⟨fd_is_kind, F_is_kind⟩ := c.def_ 6 (d := dd_is_kind) rfl
  obtain ⟨fd_is_source, F_is_source⟩ := c.def_ 7 (d := dd_is_source) rfl
  obtain ⟨fd_is_kind_row, F_is_kind_row⟩ := c.def_ 8 (d := dd_is_kind_row) rfl
  obtain ⟨fd_is_kinds, F_is_kinds⟩ := c.def_ 9 (d := dd_is_kinds) rfl
  obtain ⟨fd_is_free_term, F_is_free_term⟩ := c.def_ 10 (d := dd_is_free_term) rfl
  obtain ⟨fd_is_term_over, F_is_term_over⟩ := c.def_ 11 (d := dd_is_term_over) rfl
  obtain ⟨fd_check_kinds, F_check_kinds⟩ := c.def_ 12 (d := dd_check_kinds) rfl
  obtain ⟨fd_flip, F_flip⟩ := c.def_ 13 (d := dd_flip) rfl
  obtain ⟨fd_is_word_and, F_is_word_and⟩ := c.def_ 14 (d := dd_is_word_and) rfl
  obtain ⟨fd_is_free_sentence, F_is_free_sentence⟩ := c.def_ 15 (d := dd_is_free_sentence) rfl
  obtain ⟨fd_is_sentence_over, F_is_sentence_over⟩ := c.def_ 16 (d := dd_is_sentence_over) rfl
  obtain ⟨fd_is_question_over, F_is_question_over⟩ := c.def_ 17 (d := dd_is_question_over) rfl
  obtain ⟨fd_check_question, F_check_question⟩ := c.def_ 18 (d := dd_check_question) rfl
  obtain ⟨fd_is_question, F_is_question⟩ := c.def_ 19 (d := dd_is_question) rfl
  obtain ⟨fd_contrary_of, F_contrary_of⟩ := c.def_ 20 (d := dd_contrary_of) rfl
  obtain ⟨fd_mirror_of, F_mirror_of⟩ := c.def_ 21 (d := dd_mirror_of) rfl
  obtain ⟨fd_check_free, F_check_free⟩ := c.def_ 22 (d := dd_check_free) rfl
  obtain ⟨fd_contrary, F_contrary⟩ := c.def_ 23 (d := dd_contrary) rfl
  obtain ⟨fd_mirror, F_mirror⟩ := c.def_ 24 (d := dd_mirror) rfl
  obtain ⟨fd_always_holds, F_always_holds⟩ := c.def_ 25 (d := dd_always_holds) rfl
  obtain ⟨fd_by_itself, F_by_itself⟩ := c.def_ 26 (d := dd_by_itself) rfl
  obtain ⟨fd_is_entry, F_is_entry⟩ := c.def_ 27 (d := dd_is_entry) rfl
  obtain ⟨fd_is_book, F_is_book⟩ := c.def_ 28 (d := dd_is_book) rfl
  obtain ⟨fd_check_book, F_check_book⟩ := c.def_ 29 (d := dd_check_book) rfl
  obtain ⟨fd_made_book, F_made_book⟩ := c.def_ 30 (d := dd_made_book) rfl
  obtain ⟨fd_check_terms, F_check_terms⟩ := c.def_ 31 (d := dd_check_terms) rfl
  obtain ⟨fd_table_of, F_table_of⟩ := c.def_ 32 (d := dd_table_of) rfl
  obtain ⟨fd_translated_by, F_translated_by⟩ := c.def_ 33 (d := dd_translated_by) rfl
  obtain ⟨fd_translated, F_translated⟩ := c.def_ 34 (d := dd_translated) rfl
  obtain ⟨fd_translated_book, F_translated_book⟩ := c.def_ 35 (d := dd_translated_book) rfl
  obtain ⟨fd_n__law_stream, F_n__law_stream⟩ := c.def_ 36 (d := dd_n__law_stream) rfl
  obtain ⟨fd_n__law_next, F_n__law_next⟩ := c.def_ 37 (d := dd_n__law_next) rfl
  obtain ⟨fd_n__law_pick, F_n__law_pick⟩ := c.def_ 38 (d := dd_n__law_pick) rfl
  obtain ⟨fd_n__law_same, F_n__law_same⟩ := c.def_ 39 (d := dd_n__law_same) rfl
  obtain ⟨fd_n__law_kind, F_n__law_kind⟩ := c.def_ 40 (d := dd_n__law_kind) rfl
  obtain ⟨fd_n__law_kinds, F_n__law_kinds⟩ := c.def_ 41 (d := dd_n__law_kinds) rfl
  obtain ⟨fd_n__law_bit, F_n__law_bit⟩ := c.def_ 42 (d := dd_n__law_bit) rfl
  obtain ⟨fd_n__law_flip, F_n__law_flip⟩ := c.def_ 43 (d := dd_n__law_flip) rfl
  obtain ⟨fd_n__law_sentence, F_n__law_sentence⟩ := c.def_ 44 (d := dd_n__law_sentence) rfl
  obtain ⟨fd_n__law_question, F_n__law_question⟩ := c.def_ 45 (d := dd_n__law_question) rfl
  obtain ⟨fd_n__law_numbered, F_n__law_numbered⟩ := c.def_ 46 (d := dd_n__law_numbered) rfl
  obtain ⟨fd_n__law_entries, F_n__law_entries⟩ := c.def_ 47 (d := dd_n__law_entries) rfl
  obtain ⟨fd_n__law_different, F_n__law_different⟩ := c.def_ 48 (d := dd_n__law_different) rfl
  obtain ⟨fd_n__law_term_by, F_n__law_term_by⟩ := c.def_ 49 (d := dd_n__law_term_by) rfl
  obtain ⟨fd_n__law_sentence_by, F_n__law_sentence_by⟩ := c.def_ 50 (d := dd_n__law_sentence_by) rfl
  obtain ⟨fd_n__law_by, F_n__law_by⟩ := c.def_ 51 (d := dd_n__law_by) rfl
  obtain ⟨fd_n__law_target, F_n__law_target⟩ := c.def_ 52 (d := dd_n__law_target) rfl
  obtain ⟨fd_n__law_goes, F_n__law_goes⟩ := c.def_ 53 (d := dd_n__law_goes) rfl
  obtain ⟨fd_n__law_twice, F_n__law_twice⟩ := c.def_ 54 (d := dd_n__law_twice) rfl
  obtain ⟨fd_law, F_law⟩ := c.def_ 55 (d := dd_law) rfl
  have e := hfa0.symm.trans (He.glo_ok X G (c.fact 55 (f := .glo "law") rfl))
  cases e
  refine ⟨fd_law, fun s v => FunD.bindsA (ps := ["script"]) F_law (fun _ _ _ _ _ _ us hl => match us, hl with | [_], _ => rfl) s [v] rfl, fun base _ _ => ?_⟩
  have k_is_integer : FnOk P w K mg base CX0 1 _ fd_is_integer P_is_integer (spOf P w K mg f_is_integer) := ok_is_integer fr  F_is_integer
  have d_is_integer_1 : Def P w K mg base CX0 1 "is_integer" [] f_is_integer := Def.mk0 F_is_integer k_is_integer (He.glo_ok X G (c.fact 0 (f := .glo "is_integer") rfl)) fun _ _ _ _ _ _ us hl => match us, hl with | [_], _ => rfl
  have k_is_bit : FnOk P w K mg base CX0 1 _ fd_is_bit P_is_bit (spOf P w K mg f_is_bit) := ok_is_bit fr  F_is_bit
  have d_is_bit_1 : Def P w K mg base CX0 1 "is_bit" [] f_is_bit := Def.mk0 F_is_bit k_is_bit (He.glo_ok X G (c.fact 1 (f := .glo "is_bit") rfl)) fun _ _ _ _ _ _ us hl => match us, hl with | [_], _ => rfl
  have k_is_from_to : FnOk P w K mg base CX0 2 _ fd_is_from_to P_is_from_to (spOf P w K mg f_is_from_to) := ok_is_from_to fr d_is_integer_1 F_is_from_to
  have d_is_from_to_3 : Def P w K mg base CX0 2 "is_from_to" [] f_is_from_to := Def.mk0 F_is_from_to k_is_from_to (He.glo_ok X G (c.fact 2 (f := .glo "is_from_to") rfl)) fun _ _ _ _ _ _ us hl => match us, hl with | [_, _, _], _ => rfl
  have k_is_tuple_of : FnOk P w K mg base CX0 1 _ fd_is_tuple_of P_is_tuple_of (spOf P w K mg f_is_tuple_of) := ok_is_tuple_of fr  F_is_tuple_of
  have d_is_tuple_of_3 : Def P w K mg base CX0 1 "is_tuple_of" [] f_is_tuple_of := Def.mk0 F_is_tuple_of k_is_tuple_of (He.glo_ok X G (c.fact 3 (f := .glo "is_tuple_of") rfl)) fun _ _ _ _ _ _ us hl => match us, hl with | [_, _, _], _ => rfl
  have k_is_ascending : FnOk P w K mg base CX0 1 _ fd_is_ascending P_is_ascending (spOf P w K mg f_is_ascending) := ok_is_ascending fr  F_is_ascending
  have d_is_ascending_1 : Def P w K mg base CX0 1 "is_ascending" [] f_is_ascending := Def.mk0 F_is_ascending k_is_ascending (He.glo_ok X G (c.fact 4 (f := .glo "is_ascending") rfl)) fun _ _ _ _ _ _ us hl => match us, hl with | [_], _ => rfl
  have k_without_doubles : FnOk P w K mg base CX0 1 _ fd_without_doubles P_without_doubles (spOf P w K mg f_without_doubles) := ok_without_doubles fr  F_without_doubles
  have d_without_doubles_1 : Def P w K mg base CX0 1 "without_doubles" [] f_without_doubles := Def.mk0 F_without_doubles k_without_doubles (He.glo_ok X G (c.fact 5 (f := .glo "without_doubles") rfl)) fun _ _ _ _ _ _ us hl => match us, hl with | [_], _ => rfl
  have k_is_kind : FnOk P w K mg base CX0 1 _ fd_is_kind P_is_kind (spOf P w K mg f_is_kind) := ok_is_kind fr  F_is_kind
  have d_is_kind_1 : Def P w K mg base CX0 1 "is_kind" [] f_is_kind := Def.mk0 F_is_kind k_is_kind (He.glo_ok X G (c.fact 6 (f := .glo "is_kind") rfl)) fun _ _ _ _ _ _ us hl => match us, hl with | [_], _ => rfl
  have k_is_source : FnOk P w K mg base CX0 3 _ fd_is_source P_is_source (spOf P w K mg f_is_source) := ok_is_source fr d_is_from_to_3 F_is_source
  have d_is_source_1 : Def P w K mg base CX0 3 "is_source" [] f_is_source := Def.mk0 F_is_source k_is_source (He.glo_ok X G (c.fact 7 (f := .glo "is_source") rfl)) fun _ _ _ _ _ _ us hl => match us, hl with | [_], _ => rfl
  have k_is_kind_row : FnOk P w K mg base CX0 2 _ fd_is_kind_row P_is_kind_row (spOf P w K mg f_is_kind_row) := ok_is_kind_row fr d_is_ascending_1 d_is_kind_1 d_is_tuple_of_3 F_is_kind_row
  have d_is_kind_row_2 : Def P w K mg base CX0 2 "is_kind_row" [] f_is_kind_row := Def.mk0 F_is_kind_row k_is_kind_row (He.glo_ok X G (c.fact 8 (f := .glo "is_kind_row") rfl)) fun _ _ _ _ _ _ us hl => match us, hl with | [_, _], _ => rfl
  have k_is_kinds : FnOk P w K mg base CX0 3 _ fd_is_kinds P_is_kinds (spOf P w K mg f_is_kinds) := ok_is_kinds fr d_is_kind_row_2 F_is_kinds
  have d_is_kinds_1 : Def P w K mg base CX0 3 "is_kinds" [] f_is_kinds := Def.mk0 F_is_kinds k_is_kinds (He.glo_ok X G (c.fact 9 (f := .glo "is_kinds") rfl)) fun _ _ _ _ _ _ us hl => match us, hl with | [_], _ => rfl
  have k_is_free_term : FnOk P w K mg base CX0 2 _ fd_is_free_term P_is_free_term (spOf P w K mg f_is_free_term) := ok_is_free_term fr d_is_bit_1 d_is_kind_1 d_is_tuple_of_3 F_is_free_term
  have d_is_free_term_1 : Def P w K mg base CX0 2 "is_free_term" [] f_is_free_term := Def.mk0 F_is_free_term k_is_free_term (He.glo_ok X G (c.fact 10 (f := .glo "is_free_term") rfl)) fun _ _ _ _ _ _ us hl => match us, hl with | [_], _ => rfl
  have k_is_term_over : FnOk P w K mg base CX0 2 _ fd_is_term_over P_is_term_over (spOf P w K mg f_is_term_over) := ok_is_term_over fr d_is_bit_1 d_is_tuple_of_3 F_is_term_over
  have d_is_term_over_2 : Def P w K mg base CX0 2 "is_term_over" [] f_is_term_over := Def.mk0 F_is_term_over k_is_term_over (He.glo_ok X G (c.fact 11 (f := .glo "is_term_over") rfl)) fun _ _ _ _ _ _ us hl => match us, hl with | [_, _], _ => rfl
  have k_check_kinds : FnOk P w K mg base CX0 4 _ fd_check_kinds P_check_kinds (spOf P w K mg f_check_kinds) := ok_check_kinds fr d_is_kinds_1 F_check_kinds
  have d_check_kinds_1 : Def P w K mg base CX0 4 "check_kinds" [.str "kinds"] f_check_kinds := Def.mk1 1 0 F_check_kinds k_check_kinds (He.glo_ok X G (c.fact 12 (f := .glo "check_kinds") rfl)) (by simp [He.DefD.dvs, dd_check_kinds]) rfl (fun _ _ => .cons (.str "kinds") (.nil)) fun _ _ _ _ _ _ _ us its hl hi => match us, its, hl, hi with | [_], [_], _, _ => ⟨_, rfl, rfl⟩
  have d_check_kinds_2 : Def P w K mg base CX0 4 "check_kinds" [] f_check_kinds := Def.mk1 2 1 F_check_kinds k_check_kinds (He.glo_ok X G (c.fact 12 (f := .glo "check_kinds") rfl)) (by simp [He.DefD.dvs, dd_check_kinds]) rfl (fun _ _ => .nil) fun _ _ _ _ _ _ _ us its hl hi => match us, its, hl, hi with | [_, _], [_], _, _ => ⟨_, rfl, rfl⟩
  have k_flip : FnOk P w K mg base CX0 1 _ fd_flip P_flip (spOf P w K mg f_flip) := ok_flip fr  F_flip
  have d_flip_1 : Def P w K mg base CX0 1 "flip" [] f_flip := Def.mk0 F_flip k_flip (He.glo_ok X G (c.fact 13 (f := .glo "flip") rfl)) fun _ _ _ _ _ _ us hl => match us, hl with | [_], _ => rfl
  have k_is_word_and : FnOk P w K mg base CX0 2 _ fd_is_word_and P_is_word_and (spOf P w K mg f_is_word_and) := ok_is_word_and fr d_is_tuple_of_3 F_is_word_and
  have d_is_word_and_2 : Def P w K mg base CX0 2 "is_word_and" [] f_is_word_and := Def.mk0 F_is_word_and k_is_word_and (He.glo_ok X G (c.fact 14 (f := .glo "is_word_and") rfl)) fun _ _ _ _ _ _ us hl => match us, hl with | [_, _], _ => rfl
  have k_is_free_sentence : FnOk P w K mg base CX0 3 _ fd_is_free_sentence P_is_free_sentence (spOf P w K mg f_is_free_sentence) := ok_is_free_sentence fr d_is_free_term_1 d_is_word_and_2 F_is_free_sentence
  have d_is_free_sentence_1 : Def P w K mg base CX0 3 "is_free_sentence" [] f_is_free_sentence := Def.mk0 F_is_free_sentence k_is_free_sentence (He.glo_ok X G (c.fact 15 (f := .glo "is_free_sentence") rfl)) fun _ _ _ _ _ _ us hl => match us, hl with | [_], _ => rfl
  have k_is_sentence_over : FnOk P w K mg base CX0 3 _ fd_is_sentence_over P_is_sentence_over (spOf P w K mg f_is_sentence_over) := ok_is_sentence_over fr d_is_term_over_2 d_is_word_and_2 F_is_sentence_over
  have d_is_sentence_over_2 : Def P w K mg base CX0 3 "is_sentence_over" [] f_is_sentence_over := Def.mk0 F_is_sentence_over k_is_sentence_over (He.glo_ok X G (c.fact 16 (f := .glo "is_sentence_over") rfl)) fun _ _ _ _ _ _ us hl => match us, hl with | [_, _], _ => rfl
  have k_is_question_over : FnOk P w K mg base CX0 4 _ fd_is_question_over P_is_question_over (spOf P w K mg f_is_question_over) := ok_is_question_over fr d_is_sentence_over_2 d_is_tuple_of_3 F_is_question_over
  have d_is_question_over_2 : Def P w K mg base CX0 4 "is_question_over" [] f_is_question_over := Def.mk0 F_is_question_over k_is_question_over (He.glo_ok X G (c.fact 17 (f := .glo "is_question_over") rfl)) fun _ _ _ _ _ _ us hl => match us, hl with | [_, _], _ => rfl
  have k_check_question : FnOk P w K mg base CX0 5 _ fd_check_question P_check_question (spOf P w K mg f_check_question) := ok_check_question fr d_is_question_over_2 F_check_question
  have d_check_question_2 : Def P w K mg base CX0 5 "check_question" [.str "question"] f_check_question := Def.mk1 2 0 F_check_question k_check_question (He.glo_ok X G (c.fact 18 (f := .glo "check_question") rfl)) (by simp [He.DefD.dvs, dd_check_question]) rfl (fun _ _ => .cons (.str "question") (.nil)) fun _ _ _ _ _ _ _ us its hl hi => match us, its, hl, hi with | [_, _], [_], _, _ => ⟨_, rfl, rfl⟩
  have k_is_question : FnOk P w K mg base CX0 5 _ fd_is_question P_is_question (spOf P w K mg f_is_question) := ok_is_question fr d_check_kinds_1 d_is_question_over_2 F_is_question
  have d_is_question_2 : Def P w K mg base CX0 5 "is_question" [] f_is_question := Def.mk0 F_is_question k_is_question (He.glo_ok X G (c.fact 19 (f := .glo "is_question") rfl)) fun _ _ _ _ _ _ us hl => match us, hl with | [_, _], _ => rfl
  have k_contrary_of : FnOk P w K mg base CX0 2 _ fd_contrary_of P_contrary_of (spOf P w K mg f_contrary_of) := ok_contrary_of fr d_flip_1 F_contrary_of
  have d_contrary_of_1 : Def P w K mg base CX0 2 "contrary_of" [] f_contrary_of := Def.mk0 F_contrary_of k_contrary_of (He.glo_ok X G (c.fact 20 (f := .glo "contrary_of") rfl)) fun _ _ _ _ _ _ us hl => match us, hl with | [_], _ => rfl
  have k_mirror_of : FnOk P w K mg base CX0 2 _ fd_mirror_of P_mirror_of (spOf P w K mg f_mirror_of) := ok_mirror_of fr d_flip_1 F_mirror_of
  have d_mirror_of_1 : Def P w K mg base CX0 2 "mirror_of" [] f_mirror_of := Def.mk0 F_mirror_of k_mirror_of (He.glo_ok X G (c.fact 21 (f := .glo "mirror_of") rfl)) fun _ _ _ _ _ _ us hl => match us, hl with | [_], _ => rfl
  have k_check_free : FnOk P w K mg base CX0 4 _ fd_check_free P_check_free (spOf P w K mg f_check_free) := ok_check_free fr d_is_free_sentence_1 F_check_free
  have d_check_free_1 : Def P w K mg base CX0 4 "check_free" [] f_check_free := Def.mk0 F_check_free k_check_free (He.glo_ok X G (c.fact 22 (f := .glo "check_free") rfl)) fun _ _ _ _ _ _ us hl => match us, hl with | [_], _ => rfl
  have k_contrary : FnOk P w K mg base CX0 5 _ fd_contrary P_contrary (spOf P w K mg f_contrary) := ok_contrary fr d_check_free_1 d_contrary_of_1 F_contrary
  have d_contrary_1 : Def P w K mg base CX0 5 "contrary" [] f_contrary := Def.mk0 F_contrary k_contrary (He.glo_ok X G (c.fact 23 (f := .glo "contrary") rfl)) fun _ _ _ _ _ _ us hl => match us, hl with | [_], _ => rfl
  have k_mirror : FnOk P w K mg base CX0 5 _ fd_mirror P_mirror (spOf P w K mg f_mirror) := ok_mirror fr d_check_free_1 d_mirror_of_1 F_mirror
  have d_mirror_1 : Def P w K mg base CX0 5 "mirror" [] f_mirror := Def.mk0 F_mirror k_mirror (He.glo_ok X G (c.fact 24 (f := .glo "mirror") rfl)) fun _ _ _ _ _ _ us hl => match us, hl with | [_], _ => rfl
  have k_always_holds : FnOk P w K mg base CX0 1 _ fd_always_holds P_always_holds (spOf P w K mg f_always_holds) := ok_always_holds fr  F_always_holds
  have d_always_holds_1 : Def P w K mg base CX0 1 "always_holds" [] f_always_holds := Def.mk0 F_always_holds k_always_holds (He.glo_ok X G (c.fact 25 (f := .glo "always_holds") rfl)) fun _ _ _ _ _ _ us hl => match us, hl with | [_], _ => rfl
  have k_by_itself : FnOk P w K mg base CX0 5 _ fd_by_itself P_by_itself (spOf P w K mg f_by_itself) := ok_by_itself fr d_always_holds_1 d_check_free_1 d_contrary_of_1 F_by_itself
  have d_by_itself_1 : Def P w K mg base CX0 5 "by_itself" [] f_by_itself := Def.mk0 F_by_itself k_by_itself (He.glo_ok X G (c.fact 26 (f := .glo "by_itself") rfl)) fun _ _ _ _ _ _ us hl => match us, hl with | [_], _ => rfl
  have k_is_entry : FnOk P w K mg base CX0 4 _ fd_is_entry P_is_entry (spOf P w K mg f_is_entry) := ok_is_entry fr d_is_sentence_over_2 d_is_source_1 d_is_tuple_of_3 F_is_entry
  have d_is_entry_2 : Def P w K mg base CX0 4 "is_entry" [] f_is_entry := Def.mk0 F_is_entry k_is_entry (He.glo_ok X G (c.fact 27 (f := .glo "is_entry") rfl)) fun _ _ _ _ _ _ us hl => match us, hl with | [_, _], _ => rfl
  have k_is_book : FnOk P w K mg base CX0 5 _ fd_is_book P_is_book (spOf P w K mg f_is_book) := ok_is_book fr d_is_entry_2 d_is_kinds_1 d_is_tuple_of_3 d_without_doubles_1 F_is_book
  have d_is_book_1 : Def P w K mg base CX0 5 "is_book" [] f_is_book := Def.mk0 F_is_book k_is_book (He.glo_ok X G (c.fact 28 (f := .glo "is_book") rfl)) fun _ _ _ _ _ _ us hl => match us, hl with | [_], _ => rfl
  have k_check_book : FnOk P w K mg base CX0 6 _ fd_check_book P_check_book (spOf P w K mg f_check_book) := ok_check_book fr d_is_book_1 F_check_book
  have d_check_book_1 : Def P w K mg base CX0 6 "check_book" [.str "book"] f_check_book := Def.mk1 1 0 F_check_book k_check_book (He.glo_ok X G (c.fact 29 (f := .glo "check_book") rfl)) (by simp [He.DefD.dvs, dd_check_book]) rfl (fun _ _ => .cons (.str "book") (.nil)) fun _ _ _ _ _ _ _ us its hl hi => match us, its, hl, hi with | [_], [_], _, _ => ⟨_, rfl, rfl⟩
  have k_made_book : FnOk P w K mg base CX0 2 _ fd_made_book P_made_book (spOf P w K mg f_made_book) := ok_made_book fr d_without_doubles_1 F_made_book
  have d_made_book_2 : Def P w K mg base CX0 2 "made_book" [] f_made_book := Def.mk0 F_made_book k_made_book (He.glo_ok X G (c.fact 30 (f := .glo "made_book") rfl)) fun _ _ _ _ _ _ us hl => match us, hl with | [_, _], _ => rfl
  have k_check_terms : FnOk P w K mg base CX0 3 _ fd_check_terms P_check_terms (spOf P w K mg f_check_terms) := ok_check_terms fr d_is_term_over_2 d_is_tuple_of_3 F_check_terms
  have d_check_terms_3 : Def P w K mg base CX0 3 "check_terms" [] f_check_terms := Def.mk0 F_check_terms k_check_terms (He.glo_ok X G (c.fact 31 (f := .glo "check_terms") rfl)) fun _ _ _ _ _ _ us hl => match us, hl with | [_, _, _], _ => rfl
  have k_table_of : FnOk P w K mg base CX0 2 _ fd_table_of P_table_of (spOf P w K mg f_table_of) := ok_table_of fr d_flip_1 F_table_of
  have d_table_of_2 : Def P w K mg base CX0 2 "table_of" [] f_table_of := Def.mk0 F_table_of k_table_of (He.glo_ok X G (c.fact 32 (f := .glo "table_of") rfl)) fun _ _ _ _ _ _ us hl => match us, hl with | [_, _], _ => rfl
  have k_translated_by : FnOk P w K mg base CX0 1 _ fd_translated_by P_translated_by (spOf P w K mg f_translated_by) := ok_translated_by fr  F_translated_by
  have d_translated_by_2 : Def P w K mg base CX0 1 "translated_by" [] f_translated_by := Def.mk0 F_translated_by k_translated_by (He.glo_ok X G (c.fact 33 (f := .glo "translated_by") rfl)) fun _ _ _ _ _ _ us hl => match us, hl with | [_, _], _ => rfl
  have k_translated : FnOk P w K mg base CX0 6 _ fd_translated P_translated (spOf P w K mg f_translated) := ok_translated fr d_check_kinds_1 d_check_kinds_2 d_check_question_2 d_check_terms_3 d_table_of_2 d_translated_by_2 F_translated
  have d_translated_4 : Def P w K mg base CX0 6 "translated" [] f_translated := Def.mk0 F_translated k_translated (He.glo_ok X G (c.fact 34 (f := .glo "translated") rfl)) fun _ _ _ _ _ _ us hl => match us, hl with | [_, _, _, _], _ => rfl
  have k_translated_book : FnOk P w K mg base CX0 7 _ fd_translated_book P_translated_book (spOf P w K mg f_translated_book) := ok_translated_book fr d_check_book_1 d_check_kinds_2 d_check_terms_3 d_made_book_2 d_table_of_2 d_translated_by_2 F_translated_book
  have d_translated_book_3 : Def P w K mg base CX0 7 "translated_book" [] f_translated_book := Def.mk0 F_translated_book k_translated_book (He.glo_ok X G (c.fact 35 (f := .glo "translated_book") rfl)) fun _ _ _ _ _ _ us hl => match us, hl with | [_, _, _], _ => rfl
  have k_n__law_stream : FnOk P w K mg base CX0 1 _ fd_n__law_stream P_n__law_stream (spOf P w K mg f_n__law_stream) := ok_n__law_stream fr  F_n__law_stream
  have d_n__law_stream_1 : Def P w K mg base CX0 1 "_law_stream" [] f_n__law_stream := Def.mk0 F_n__law_stream k_n__law_stream (He.glo_ok X G (c.fact 36 (f := .glo "_law_stream") rfl)) fun _ _ _ _ _ _ us hl => match us, hl with | [_], _ => rfl
  have k_n__law_next : FnOk P w K mg base CX0 1 _ fd_n__law_next P_n__law_next (spOf P w K mg f_n__law_next) := ok_n__law_next fr  F_n__law_next
  have d_n__law_next_2 : Def P w K mg base CX0 1 "_law_next" [] f_n__law_next := Def.mk0 F_n__law_next k_n__law_next (He.glo_ok X G (c.fact 37 (f := .glo "_law_next") rfl)) fun _ _ _ _ _ _ us hl => match us, hl with | [_, _], _ => rfl
  have k_n__law_pick : FnOk P w K mg base CX0 2 _ fd_n__law_pick P_n__law_pick (spOf P w K mg f_n__law_pick) := ok_n__law_pick fr d_n__law_next_2 F_n__law_pick
  have d_n__law_pick_2 : Def P w K mg base CX0 2 "_law_pick" [] f_n__law_pick := Def.mk0 F_n__law_pick k_n__law_pick (He.glo_ok X G (c.fact 38 (f := .glo "_law_pick") rfl)) fun _ _ _ _ _ _ us hl => match us, hl with | [_, _], _ => rfl
  have k_n__law_same : FnOk P w K mg base CX0 1 _ fd_n__law_same P_n__law_same (spOf P w K mg f_n__law_same) := ok_n__law_same fr  F_n__law_same
  have d_n__law_same_2 : Def P w K mg base CX0 1 "_law_same" [] f_n__law_same := Def.mk0 F_n__law_same k_n__law_same (He.glo_ok X G (c.fact 39 (f := .glo "_law_same") rfl)) fun _ _ _ _ _ _ us hl => match us, hl with | [_, _], _ => rfl
  have k_n__law_kind : FnOk P w K mg base CX0 3 _ fd_n__law_kind P_n__law_kind (spOf P w K mg f_n__law_kind) := ok_n__law_kind fr d_n__law_next_2 d_n__law_pick_2 F_n__law_kind
  have d_n__law_kind_1 : Def P w K mg base CX0 3 "_law_kind" [] f_n__law_kind := Def.mk0 F_n__law_kind k_n__law_kind (He.glo_ok X G (c.fact 40 (f := .glo "_law_kind") rfl)) fun _ _ _ _ _ _ us hl => match us, hl with | [_], _ => rfl
  have k_n__law_kinds : FnOk P w K mg base CX0 4 _ fd_n__law_kinds P_n__law_kinds (spOf P w K mg f_n__law_kinds) := ok_n__law_kinds fr d_n__law_kind_1 d_n__law_next_2 F_n__law_kinds
  have d_n__law_kinds_2 : Def P w K mg base CX0 4 "_law_kinds" [] f_n__law_kinds := Def.mk0 F_n__law_kinds k_n__law_kinds (He.glo_ok X G (c.fact 41 (f := .glo "_law_kinds") rfl)) fun _ _ _ _ _ _ us hl => match us, hl with | [_, _], _ => rfl
  have k_n__law_bit : FnOk P w K mg base CX0 2 _ fd_n__law_bit P_n__law_bit (spOf P w K mg f_n__law_bit) := ok_n__law_bit fr d_n__law_next_2 F_n__law_bit
  have d_n__law_bit_1 : Def P w K mg base CX0 2 "_law_bit" [] f_n__law_bit := Def.mk0 F_n__law_bit k_n__law_bit (He.glo_ok X G (c.fact 42 (f := .glo "_law_bit") rfl)) fun _ _ _ _ _ _ us hl => match us, hl with | [_], _ => rfl
  have k_n__law_flip : FnOk P w K mg base CX0 1 _ fd_n__law_flip P_n__law_flip (spOf P w K mg f_n__law_flip) := ok_n__law_flip fr  F_n__law_flip
  have d_n__law_flip_1 : Def P w K mg base CX0 1 "_law_flip" [] f_n__law_flip := Def.mk0 F_n__law_flip k_n__law_flip (He.glo_ok X G (c.fact 43 (f := .glo "_law_flip") rfl)) fun _ _ _ _ _ _ us hl => match us, hl with | [_], _ => rfl
  have k_n__law_sentence : FnOk P w K mg base CX0 3 _ fd_n__law_sentence P_n__law_sentence (spOf P w K mg f_n__law_sentence) := ok_n__law_sentence fr d_n__law_bit_1 d_n__law_next_2 d_n__law_pick_2 F_n__law_sentence
  have d_n__law_sentence_2 : Def P w K mg base CX0 3 "_law_sentence" [] f_n__law_sentence := Def.mk0 F_n__law_sentence k_n__law_sentence (He.glo_ok X G (c.fact 44 (f := .glo "_law_sentence") rfl)) fun _ _ _ _ _ _ us hl => match us, hl with | [_, _], _ => rfl
  have k_n__law_question : FnOk P w K mg base CX0 4 _ fd_n__law_question P_n__law_question (spOf P w K mg f_n__law_question) := ok_n__law_question fr d_n__law_bit_1 d_n__law_next_2 d_n__law_pick_2 d_n__law_sentence_2 F_n__law_question
  have d_n__law_question_2 : Def P w K mg base CX0 4 "_law_question" [] f_n__law_question := Def.mk0 F_n__law_question k_n__law_question (He.glo_ok X G (c.fact 45 (f := .glo "_law_question") rfl)) fun _ _ _ _ _ _ us hl => match us, hl with | [_, _], _ => rfl
  have k_n__law_numbered : FnOk P w K mg base CX0 1 _ fd_n__law_numbered P_n__law_numbered (spOf P w K mg f_n__law_numbered) := ok_n__law_numbered fr  F_n__law_numbered
  have d_n__law_numbered_2 : Def P w K mg base CX0 1 "_law_numbered" [] f_n__law_numbered := Def.mk0 F_n__law_numbered k_n__law_numbered (He.glo_ok X G (c.fact 46 (f := .glo "_law_numbered") rfl)) fun _ _ _ _ _ _ us hl => match us, hl with | [_, _], _ => rfl
  have k_n__law_entries : FnOk P w K mg base CX0 4 _ fd_n__law_entries P_n__law_entries (spOf P w K mg f_n__law_entries) := ok_n__law_entries fr d_n__law_next_2 d_n__law_numbered_2 d_n__law_pick_2 d_n__law_sentence_2 F_n__law_entries
  have d_n__law_entries_3 : Def P w K mg base CX0 4 "_law_entries" [] f_n__law_entries := Def.mk0 F_n__law_entries k_n__law_entries (He.glo_ok X G (c.fact 47 (f := .glo "_law_entries") rfl)) fun _ _ _ _ _ _ us hl => match us, hl with | [_, _, _], _ => rfl
  have k_n__law_different : FnOk P w K mg base CX0 1 _ fd_n__law_different P_n__law_different (spOf P w K mg f_n__law_different) := ok_n__law_different fr  F_n__law_different
  have d_n__law_different_1 : Def P w K mg base CX0 1 "_law_different" [] f_n__law_different := Def.mk0 F_n__law_different k_n__law_different (He.glo_ok X G (c.fact 48 (f := .glo "_law_different") rfl)) fun _ _ _ _ _ _ us hl => match us, hl with | [_], _ => rfl
  have k_n__law_term_by : FnOk P w K mg base CX0 2 _ fd_n__law_term_by P_n__law_term_by (spOf P w K mg f_n__law_term_by) := ok_n__law_term_by fr d_n__law_flip_1 F_n__law_term_by
  have d_n__law_term_by_3 : Def P w K mg base CX0 2 "_law_term_by" [] f_n__law_term_by := Def.mk0 F_n__law_term_by k_n__law_term_by (He.glo_ok X G (c.fact 49 (f := .glo "_law_term_by") rfl)) fun _ _ _ _ _ _ us hl => match us, hl with | [_, _, _], _ => rfl
  have k_n__law_sentence_by : FnOk P w K mg base CX0 3 _ fd_n__law_sentence_by P_n__law_sentence_by (spOf P w K mg f_n__law_sentence_by) := ok_n__law_sentence_by fr d_n__law_term_by_3 F_n__law_sentence_by
  have d_n__law_sentence_by_3 : Def P w K mg base CX0 3 "_law_sentence_by" [] f_n__law_sentence_by := Def.mk0 F_n__law_sentence_by k_n__law_sentence_by (He.glo_ok X G (c.fact 50 (f := .glo "_law_sentence_by") rfl)) fun _ _ _ _ _ _ us hl => match us, hl with | [_, _, _], _ => rfl
  have k_n__law_by : FnOk P w K mg base CX0 4 _ fd_n__law_by P_n__law_by (spOf P w K mg f_n__law_by) := ok_n__law_by fr d_n__law_sentence_by_3 F_n__law_by
  have d_n__law_by_3 : Def P w K mg base CX0 4 "_law_by" [] f_n__law_by := Def.mk0 F_n__law_by k_n__law_by (He.glo_ok X G (c.fact 51 (f := .glo "_law_by") rfl)) fun _ _ _ _ _ _ us hl => match us, hl with | [_, _, _], _ => rfl
  have k_n__law_target : FnOk P w K mg base CX0 3 _ fd_n__law_target P_n__law_target (spOf P w K mg f_n__law_target) := ok_n__law_target fr d_n__law_bit_1 d_n__law_next_2 d_n__law_pick_2 F_n__law_target
  have d_n__law_target_3 : Def P w K mg base CX0 3 "_law_target" [] f_n__law_target := Def.mk0 F_n__law_target k_n__law_target (He.glo_ok X G (c.fact 52 (f := .glo "_law_target") rfl)) fun _ _ _ _ _ _ us hl => match us, hl with | [_, _, _], _ => rfl
  have k_n__law_goes : FnOk P w K mg base CX0 7 _ fd_n__law_goes P_n__law_goes (spOf P w K mg f_n__law_goes) := ok_n__law_goes fr d_n__law_same_2 d_by_itself_1 d_contrary_1 d_mirror_1 d_translated_4 F_n__law_goes
  have d_n__law_goes_4 : Def P w K mg base CX0 7 "_law_goes" [] f_n__law_goes := Def.mk0 F_n__law_goes k_n__law_goes (He.glo_ok X G (c.fact 53 (f := .glo "_law_goes") rfl)) fun _ _ _ _ _ _ us hl => match us, hl with | [_, _, _, _], _ => rfl
  have k_n__law_twice : FnOk P w K mg base CX0 7 _ fd_n__law_twice P_n__law_twice (spOf P w K mg f_n__law_twice) := ok_n__law_twice fr d_n__law_kinds_2 d_n__law_pick_2 d_n__law_same_2 d_n__law_target_3 d_n__law_term_by_3 d_translated_4 F_n__law_twice
  have d_n__law_twice_5 : Def P w K mg base CX0 7 "_law_twice" [] f_n__law_twice := Def.mk0 F_n__law_twice k_n__law_twice (He.glo_ok X G (c.fact 54 (f := .glo "_law_twice") rfl)) fun _ _ _ _ _ _ us hl => match us, hl with | [_, _, _, _, _], _ => rfl
  have k_law : FnOk P w K mg base CX0 8 _ fd_law P_law (spOf P w K mg f_law) := ok_law fr d_n__law_bit_1 d_n__law_by_3 d_n__law_different_1 d_n__law_entries_3 d_n__law_flip_1 d_n__law_goes_4 d_n__law_kinds_2 d_n__law_next_2 d_n__law_pick_2 d_n__law_question_2 d_n__law_same_2 d_n__law_sentence_2 d_n__law_sentence_by_3 d_n__law_stream_1 d_n__law_target_3 d_n__law_twice_5 d_is_book_1 d_is_question_2 d_translated_4 d_translated_book_3 F_law
  exact k_law
end G
/-- the row, from the plain law on the mirror -/
theorem G.holds_of (hlaw : ∀ ns : List Int, ns.length ≤ 63 → ∃ h', G.f_law [.scr (ns.map .int)] [] = .ok (.bl true) h') : PySem.Challenge.rw_morethan_k06_whole_translated_sentences.Holds := by
  open PySem PySem.W PySem.Calls PyProof.Rows in
  w_on; o_law
  refine HandSHeadRun.head_any (r := OpenLaw.row PySem.Challenge.rw_morethan_k06_whole_translated_sentences) (q := view (OpenLaw.row PySem.Challenge.rw_morethan_k06_whole_translated_sentences).prog [70]) (H := G.hk) (ob := G.hob) (M := 4000) (loose := G.loose) (d := HandSHeadRun.topDef (OpenLaw.row PySem.Challenge.rw_morethan_k06_whole_translated_sentences).prog 70) (kwd := []) G.hob_eq
    (by kernel_rfl) (fun s => by kernel_rfl) G.run (by kernel_rfl) (by kernel_rfl) (by kernel_rfl) (by rfl) (by first | assumption | decide +kernel) (by decide +kernel) ⟨rfl, rfl, rfl, rfl, rfl, by decide +kernel⟩ ?hw ?hc
  case hw => w_witness2
  case hc =>
    refine L2.walk_ofE (l := PySem.Challenge.rw_morethan_k06_whole_translated_sentences) (n := 63) (k := 8) (x := "script") (CX := L2.CX0) rfl (by decide) (by kernel_rfl) ⟨rfl, by decide, by decide⟩ ?F (fun _ _ _ _ z => z)
    intro w mg fa h Y G hmg0
    obtain ⟨K, KX, c⟩ := Y
    have hmg : mg ("law" : PySem.Str) = some (.ref fa) := by
      have e : (HandSHeadRun.topDef (OpenLaw.row PySem.Challenge.rw_morethan_k06_whole_translated_sentences).prog 70).name = ("law" : PySem.Str) := by kernel_rfl
      rw [← e]
      exact hmg0
    obtain ⟨fd, hb, hF⟩ := _root_.G.facts (P := (PySem.Challenge.rw_morethan_k06_whole_translated_sentences).prog) (w := w) KX G hmg c
    exact ⟨K, fd, _, KX, hb, fun H a ns hl hO hS => Q.sp_law hlaw hl hO hS, hF⟩

/-! Q12: evaluation. -/
namespace Q
open PySem PySem.Spec PyProof.Rows L2

/-! ### statements -/
def Out.seq (r : Out) (b : MS) : Out := match r with
  | .nx σ h => b σ h
  | r => r
section
variable {σ σ' : AS} {h h' : AH} {b : MS} {d : D} {e : Ex}
@[simp] theorem seq_nx : (Out.nx σ h).seq b = b σ h := rfl
@[simp] theorem seq_rt : (Out.rt d h).seq b = .rt d h := rfl
@[simp] theorem seq_bk : (Out.bk σ h).seq b = .bk σ h := rfl
@[simp] theorem seq_ct : (Out.ct σ h).seq b = .ct σ h := rfl
@[simp] theorem seq_ex : (Out.ex e σ h).seq b = .ex e σ h := rfl
@[simp] theorem seq_stuck : Out.stuck.seq b = .stuck := rfl
end
section
variable {a b : MS} {σ : AS} {h : AH} {m n : M} {r : ML} {t u : MB} {d x y : D} {i j : Nat} {f g : F2}
@[simp] theorem run_sCons : sCons a b σ h = (a σ h).seq b := rfl
@[simp] theorem run_sNil : sNil σ h = .nx σ h := rfl
@[simp] theorem run_sRet : sRet m σ h = (m σ h).andS σ fun d h1 => .rt d h1 := rfl
@[simp] theorem run_sRetN : sRetN σ h = .rt .non h := rfl
@[simp] theorem run_sExpr : sExpr m σ h = (m σ h).andS σ fun _ h1 => .nx σ h1 := rfl
@[simp] theorem run_sBreak : sBreak σ h = .bk σ h := rfl
@[simp] theorem run_sCont : sCont σ h = .ct σ h := rfl
@[simp] theorem run_sNever : sNever σ h = .stuck := rfl
@[simp] theorem run_sIf : sIf t a b σ h = (t σ h).andS σ fun k h1 => if k = true then a σ h1 else b σ h1 := rfl
@[simp] theorem run_sAsg {g : MG} : sAsg m g σ h = (m σ h).andS σ fun d h1 => stO (g d σ h1) := rfl
@[simp] theorem run_gSlot : gSlot i d σ h = some (σ.set i (some d), h) := rfl
@[simp] theorem run_gTupD {gs : List D → AS → AH → Option (AS × AH)} {k : Nat} {ds : List D} : gTupD k gs (.tup ds) σ h = if ds.length = k then gs ds σ h else none := rfl
@[simp] theorem run_gsNil : gsNil [] σ h = some (σ, h) := rfl
@[simp] theorem run_gsCons {k : Nat} {gs : List D → AS → AH → Option (AS × AH)} {ds : List D} : gsCons (gSlot k) gs (d :: ds) σ h = gs ds (σ.set k (some d)) h := rfl
/-! ### expressions -/
@[simp] theorem run_eVar0 : eVar 0 (some d :: σ) h = .ok d h := rfl
@[simp] theorem run_eVarS {x : Option D} : eVar (i + 1) (x :: σ) h = eVar i σ h := rfl
@[simp] theorem run_eC : eC d σ h = .ok d h := rfl
@[simp] theorem run_aNil : aNil σ h = .ok [] h := rfl
@[simp] theorem run_aCons : aCons m r σ h = (m σ h).bind fun d h1 => (r σ h1).bind fun ds h2 => .ok (d :: ds) h2 := rfl
@[simp] theorem run_eTup : eTup r σ h = (r σ h).bind fun ds h1 => if ds.length ≤ 16777216 then .ok (.tup ds) h1 else .stuck := rfl
@[simp] theorem run_eLst : eLst r σ h = (r σ h).bind fun ds h1 => if ds.length ≤ 16777216 then .ok (.fro ds) h1 else .stuck := rfl
@[simp] theorem run_eNewL : eNewL r σ h = (r σ h).bind fun ds h1 => if ds.length ≤ 16777216 then .ok (.ref h1.length) (h1 ++ [.lst ds]) else .stuck := rfl
@[simp] theorem run_eNewT : eNewT σ h = .ok (.ref h.length) (h ++ [.dt []]) := rfl
@[simp] theorem run_eOp : eOp f m n σ h = (m σ h).bind fun x h1 => (n σ h1).bind fun y h2 => lif (f x y h2) := rfl
/-- a two-way choice by a value -/
def dif (d : D) (x y : Res D) : Res D := match d with
  | .bl true => x
  | .bl false => y
  | _ => .stuck
@[simp] theorem dif_bl {k : Bool} {x y : Res D} : dif (.bl k) x y = if k = true then x else y := by cases k <;> rfl
@[simp] theorem run_eAnd : eAnd m n σ h = (m σ h).bind fun c h1 => dif c (n σ h1) (.ok (.bl false) h1) := by
  unfold eAnd
  refine congrArg _ (funext fun c => funext fun h1 => ?_)
  cases c with
  | bl k => cases k <;> rfl
  | _ => rfl
@[simp] theorem run_eOr : eOr m n σ h = (m σ h).bind fun c h1 => dif c (.ok (.bl true) h1) (n σ h1) := by
  unfold eOr
  refine congrArg _ (funext fun c => funext fun h1 => ?_)
  cases c with
  | bl k => cases k <;> rfl
  | _ => rfl
def dnot (d : D) (h : AH) : Res D := match d with
  | .bl k => .ok (.bl (!k)) h
  | _ => .stuck
@[simp] theorem dnot_bl {k : Bool} : dnot (.bl k) h = .ok (.bl (!k)) h := rfl
@[simp] theorem run_eNot : eNot m σ h = (m σ h).bind fun c h1 => dnot c h1 := rfl
@[simp] theorem run_eIf : eIf t m n σ h = (t σ h).bind fun c h1 => if c = true then m σ h1 else n σ h1 := rfl
@[simp] theorem run_eChain {c : M} : eChain f g m n c σ h = (m σ h).bind fun x h1 => (n σ h1).bind fun y h2 => (lif (f x y h2)).bind fun z h3 => dif z ((c σ h3).bind fun w h4 => lif (g y w h4)) (.ok (.bl false) h3) := by
  unfold eChain
  refine congrArg _ (funext fun x => funext fun h1 => congrArg _ (funext fun y => funext fun h2 => congrArg _ (funext fun z => funext fun h3 => ?_)))
  cases z with
  | bl k => cases k <;> rfl
  | _ => rfl
@[simp] theorem run_mB : mB m σ h = asB (m σ h) := rfl
@[simp] theorem run_tAnd : tAndM t u σ h = (t σ h).bind fun c h1 => if c = true then u σ h1 else .ok false h1 := rfl
@[simp] theorem run_tOr : tOrM t u σ h = (t σ h).bind fun c h1 => if c = true then .ok true h1 else u σ h1 := rfl
@[simp] theorem run_tNot : tNotM t σ h = (t σ h).bind fun c h1 => .ok (!c) h1 := rfl
@[simp] theorem run_tYes : tYesM σ h = .ok true h := rfl
@[simp] theorem run_eCall {g : FC} : eCall g r σ h = (r σ h).bind fun ds h1 => lif (g ds h1) := rfl
@[simp] theorem run_eFn {f : List D → AH → Res D} {dfl : List D} : eFn f dfl r σ h = (r σ h).bind fun ds h1 => f (ds ++ dfl) h1 := rfl
@[simp] theorem run_eMeth {T : String} {g : FM} : eMeth T g m r σ h = (m σ h).bind fun x h1 => if isT T h1 x = true then (r σ h1).bind fun ds h2 => lif (g x ds h2) else .stuck := rfl
def isiK (T : String) (h : AH) (x : D) : Res D := match tyD h x with
  | some t => match kitB t T with
    | some b => .ok (.bl b) h
    | none => .stuck
  | none => .stuck
@[simp] theorem run_eIsi {T : String} : eIsi T m σ h = (m σ h).bind fun x h1 => isiK T h1 x := rfl
@[simp] theorem run_eSl {f : FS} {lo hi : MO} : eSl f m lo hi σ h = (m σ h).bind fun x h1 => (lo σ h1).bind fun i h2 => (hi σ h2).bind fun j h3 => lif (f x i j h3) := rfl
@[simp] theorem run_oNil : oNil σ h = .ok none h := rfl
def dInt? (d : D) (h : AH) : Res (Option Int) := match d with
  | .int i => .ok (some i) h
  | _ => .stuck
@[simp] theorem dInt?_int {i : Int} : dInt? (.int i) h = .ok (some i) h := rfl
@[simp] theorem run_oSome : oSome m σ h = (m σ h).bind fun d h1 => dInt? d h1 := rfl
end
@[simp] theorem bind_ite {α β : Type} {c : Prop} [Decidable c] {x y : Res α} {f : α → AH → Res β} : (if c then x else y).bind f = if c then x.bind f else y.bind f := by split <;> rfl
@[simp] theorem retOf_seq_nil {r : Out} : retOf (r.seq sNil) = retOf r := by cases r <;> rfl

/-! ### isinstance -/
section
variable {h : AH} {b : Bool} {i : Int} {s : Str} {ds : List D}
theorem isi_of {T t : String} {x : D} {k : Bool} (h1 : tyD h x = some t) (h2 : kitB t T = some k) : isiK T h x = .ok (.bl k) h := by
  unfold isiK
  rw [h1]
  dsimp only
  rw [h2]
@[simp] theorem isi_int_int : isiK "int" h (.int i) = .ok (.bl true) h := isi_of rfl (by decide +kernel)
@[simp] theorem isi_int_bl : isiK "int" h (.bl b) = .ok (.bl true) h := isi_of rfl (by decide +kernel)
@[simp] theorem isi_int_str : isiK "int" h (.str s) = .ok (.bl false) h := isi_of rfl (by decide +kernel)
@[simp] theorem isi_int_tup : isiK "int" h (.tup ds) = .ok (.bl false) h := isi_of rfl (by decide +kernel)
@[simp] theorem isi_int_non : isiK "int" h .non = .ok (.bl false) h := isi_of rfl (by decide +kernel)
@[simp] theorem isi_int_fro : isiK "int" h (.fro ds) = .ok (.bl false) h := isi_of rfl (by decide +kernel)
@[simp] theorem isi_bool_int : isiK "bool" h (.int i) = .ok (.bl false) h := isi_of rfl (by decide +kernel)
@[simp] theorem isi_bool_bl : isiK "bool" h (.bl b) = .ok (.bl true) h := isi_of rfl (by decide +kernel)
@[simp] theorem isi_bool_str : isiK "bool" h (.str s) = .ok (.bl false) h := isi_of rfl (by decide +kernel)
@[simp] theorem isi_bool_tup : isiK "bool" h (.tup ds) = .ok (.bl false) h := isi_of rfl (by decide +kernel)
@[simp] theorem isi_bool_non : isiK "bool" h .non = .ok (.bl false) h := isi_of rfl (by decide +kernel)
@[simp] theorem isi_bool_fro : isiK "bool" h (.fro ds) = .ok (.bl false) h := isi_of rfl (by decide +kernel)
@[simp] theorem isi_str_int : isiK "str" h (.int i) = .ok (.bl false) h := isi_of rfl (by decide +kernel)
@[simp] theorem isi_str_bl : isiK "str" h (.bl b) = .ok (.bl false) h := isi_of rfl (by decide +kernel)
@[simp] theorem isi_str_str : isiK "str" h (.str s) = .ok (.bl true) h := isi_of rfl (by decide +kernel)
@[simp] theorem isi_str_tup : isiK "str" h (.tup ds) = .ok (.bl false) h := isi_of rfl (by decide +kernel)
@[simp] theorem isi_str_non : isiK "str" h .non = .ok (.bl false) h := isi_of rfl (by decide +kernel)
@[simp] theorem isi_str_fro : isiK "str" h (.fro ds) = .ok (.bl false) h := isi_of rfl (by decide +kernel)
@[simp] theorem isi_tuple_int : isiK "tuple" h (.int i) = .ok (.bl false) h := isi_of rfl (by decide +kernel)
@[simp] theorem isi_tuple_bl : isiK "tuple" h (.bl b) = .ok (.bl false) h := isi_of rfl (by decide +kernel)
@[simp] theorem isi_tuple_str : isiK "tuple" h (.str s) = .ok (.bl false) h := isi_of rfl (by decide +kernel)
@[simp] theorem isi_tuple_tup : isiK "tuple" h (.tup ds) = .ok (.bl true) h := isi_of rfl (by decide +kernel)
@[simp] theorem isi_tuple_non : isiK "tuple" h .non = .ok (.bl false) h := isi_of rfl (by decide +kernel)
@[simp] theorem isi_tuple_fro : isiK "tuple" h (.fro ds) = .ok (.bl false) h := isi_of rfl (by decide +kernel)
@[simp] theorem isi_list_int : isiK "list" h (.int i) = .ok (.bl false) h := isi_of rfl (by decide +kernel)
@[simp] theorem isi_list_bl : isiK "list" h (.bl b) = .ok (.bl false) h := isi_of rfl (by decide +kernel)
@[simp] theorem isi_list_str : isiK "list" h (.str s) = .ok (.bl false) h := isi_of rfl (by decide +kernel)
@[simp] theorem isi_list_tup : isiK "list" h (.tup ds) = .ok (.bl false) h := isi_of rfl (by decide +kernel)
@[simp] theorem isi_list_non : isiK "list" h .non = .ok (.bl false) h := isi_of rfl (by decide +kernel)
@[simp] theorem isi_list_fro : isiK "list" h (.fro ds) = .ok (.bl true) h := isi_of rfl (by decide +kernel)
end

/-! ### operators -/
section
variable {h : AH} {i j : Int} {b c : Bool} {s t : Str} {ds es : List D}
@[simp] theorem run_dInt {C : Int → Int → Prop} [∀ i j, Decidable (C i j)] {g : Int → Int → Int} : dInt C g (.int i) (.int j) h = if C i j then some (.int (g i j), h) else none := rfl
@[simp] theorem plus_int : dPlus (.int i) (.int j) h = some (.int (i + j), h) := rfl
theorem plus_str (hl : s.length + t.length ≤ 16777216) : dPlus (.str s) (.str t) h = some (.str (s ++ t), h) := by
  unfold dPlus dAdd
  dsimp only
  rw [if_pos hl]
theorem plus_tup (hl : ds.length + es.length ≤ 16777216) : dPlus (.tup ds) (.tup es) h = some (.tup (ds ++ es), h) := by
  unfold dPlus dAdd
  dsimp only
  rw [if_pos hl]
theorem plus_fro (hl : ds.length + es.length ≤ 16777216) : dPlus (.fro ds) (.fro es) h = some (.fro (ds ++ es), h) := by
  show (if ds.length + es.length ≤ 16777216 then some (D.fro (ds ++ es), h) else none) = _
  rw [if_pos hl]
theorem cmp_of {C g : PyData → PyData → Bool} {x y : D} {p q : PyData} (h1 : pdH h x = some p) (h2 : pdH h y = some q) (hc : C p q = true) (hd : p.depth ≤ 64) : dCmp C g x y h = some (.bl (g p q), h) := by
  unfold dCmp
  rw [h1, h2]
  exact if_pos ⟨hc, by omega⟩
theorem cmp_is {C g : PyData → PyData → Bool} {x y : D} {p q : PyData} {k : Bool} (h1 : pdH h x = some p) (h2 : pdH h y = some q) (hc : C p q = true) (hd : p.depth ≤ 64) (hg : g p q = k) : dCmp C g x y h = some (.bl k, h) := by
  rw [cmp_of h1 h2 hc hd, hg]
theorem beq_dec {α : Type} [BEq α] [LawfulBEq α] [DecidableEq α] (a b : α) : (a == b) = decide (a = b) := by rw [Bool.eq_iff_iff]; simp
theorem dep_int : PyData.depth (.int i) ≤ 64 := by simp [PyData.depth]
theorem dep_str : PyData.depth (.str s) ≤ 64 := by simp [PyData.depth]
theorem dep_bl : PyData.depth (.bool b) ≤ 64 := by simp [PyData.depth]
@[simp] theorem eq_int : dEq (.int i) (.int j) h = some (.bl (decide (i = j)), h) := cmp_is (p := .int i) (q := .int j) rfl rfl rfl dep_int (by simp only [PyData.eqv]; exact beq_dec _ _)
@[simp] theorem eq_str : dEq (.str s) (.str t) h = some (.bl (decide (s = t)), h) := cmp_is (p := .str s) (q := .str t) rfl rfl rfl dep_str (by simp only [PyData.eqv]; exact beq_dec _ _)
@[simp] theorem eq_bl : dEq (.bl b) (.bl c) h = some (.bl (b == c), h) := cmp_is (p := .bool b) (q := .bool c) rfl rfl rfl dep_bl (by simp only [PyData.eqv])
@[simp] theorem ne_int : dNe (.int i) (.int j) h = some (.bl (!decide (i = j)), h) := cmp_is (p := .int i) (q := .int j) rfl rfl rfl dep_int (by simp only [PyData.eqv]; rw [beq_dec])
@[simp] theorem ne_str : dNe (.str s) (.str t) h = some (.bl (!decide (s = t)), h) := cmp_is (p := .str s) (q := .str t) rfl rfl rfl dep_str (by simp only [PyData.eqv]; rw [beq_dec])
@[simp] theorem ne_bl : dNe (.bl b) (.bl c) h = some (.bl (!(b == c)), h) := cmp_is (p := .bool b) (q := .bool c) rfl rfl rfl dep_bl (by simp only [PyData.eqv])
@[simp] theorem lt_int' : dLt (.int i) (.int j) h = some (.bl (decide (i < j)), h) := cmp_is (p := .int i) (q := .int j) rfl rfl rfl dep_int (PySem.W.dataLt_int _ _)
@[simp] theorem gt_int' : dGt (.int i) (.int j) h = some (.bl (decide (j < i)), h) := cmp_is (p := .int i) (q := .int j) rfl rfl rfl dep_int (PySem.W.dataLt_int _ _)
@[simp] theorem le_int' : dLe (.int i) (.int j) h = some (.bl (decide (i ≤ j)), h) := cmp_is (p := .int i) (q := .int j) rfl rfl rfl dep_int (by rw [PySem.W.dataLt_int, Bool.eq_iff_iff]; simp)
@[simp] theorem ge_int' : dGe (.int i) (.int j) h = some (.bl (decide (j ≤ i)), h) := cmp_is (p := .int i) (q := .int j) rfl rfl rfl dep_int (by rw [PySem.W.dataLt_int, Bool.eq_iff_iff]; simp)
/-- texts by their signs -/
def strLt (s t : Str) : Bool := decide (s.cps.toList < t.cps.toList)
@[simp] theorem lt_str' : dLt (.str s) (.str t) h = some (.bl (strLt s t), h) := cmp_is (p := .str s) (q := .str t) rfl rfl rfl dep_str (PySem.W.dataLt_str _ _)
@[simp] theorem le_str' : dLe (.str s) (.str t) h = some (.bl (!strLt t s), h) := cmp_is (p := .str s) (q := .str t) rfl rfl rfl dep_str (by rw [PySem.W.dataLt_str]; rfl)
@[simp] theorem is_bl : dIs (.bl b) (.bl c) h = some (.bl (decide (b = c)), h) := rfl
@[simp] theorem isNot_bl : dIsNot (.bl b) (.bl c) h = some (.bl (!decide (b = c)), h) := rfl
@[simp] theorem isN_of {x : D} : dIsN x .non h = some (.bl (isNonD x), h) := rfl
@[simp] theorem notN_of {x : D} : dNotN x .non h = some (.bl (!isNonD x), h) := rfl
/-! ### places -/
@[simp] theorem atI_0 {α : Type} {x : α} {xs : List α} : atI (x :: xs) 0 = some x := by
  simp [atI, ixN]
@[simp] theorem atI_1 {α : Type} {x y : α} {xs : List α} : atI (x :: y :: xs) 1 = some y := by
  have h1 : (1 : Int) < (xs.length : Int) + 1 + 1 := by omega
  simp [atI, ixN, h1]
@[simp] theorem atI_2 {α : Type} {x y z : α} {xs : List α} : atI (x :: y :: z :: xs) 2 = some z := by
  have h1 : (2 : Int) < (xs.length : Int) + 1 + 1 + 1 := by omega
  simp [atI, ixN, h1]
theorem atI_n {α : Type} {xs : List α} {n : Nat} {x : α} (e : xs[n]? = some x) : atI xs (n : Int) = some x := by
  have hn := (List.getElem?_eq_some_iff.mp e).1
  have h1 : (n : Int) < (xs.length : Int) := by omega
  have h0 : (0 : Int) ≤ (n : Int) := by omega
  simp [atI, ixN, h1, h0, e]
theorem atI_i {α : Type} {xs : List α} {i : Int} (h0 : 0 ≤ i) (h1 : i < xs.length) : ∃ x, xs[i.toNat]? = some x ∧ atI xs i = some x := by
  have hn : i.toNat < xs.length := by omega
  refine ⟨xs[i.toNat], List.getElem?_eq_getElem hn, ?_⟩
  have := atI_n (List.getElem?_eq_getElem hn)
  rw [Int.toNat_of_nonneg h0] at this
  exact this
@[simp] theorem ix_tup' : dIx (.tup ds) (.int i) h = (atI ds i).map fun d => (d, h) := rfl
@[simp] theorem ix_fro' : dIx (.fro ds) (.int i) h = (atI ds i).map fun d => (d, h) := rfl
@[simp] theorem ix_scr' : dIx (.scr ds) (.int i) h = (atI ds i).map fun d => (d, h) := rfl
theorem ix_str'' (hl : s.length ≤ 16777216) : dIx (.str s) (.int i) h = (atI s.cps.toList i).map fun c => (.str ⟨#[c]⟩, h) := by
  show (if s.length ≤ 16777216 then _ else _) = _
  rw [if_pos hl]
theorem ssq_ref {n : Nat} (e : listAt h n = some ds) : ssq h (.ref n) = some ds := by
  have e2 := listAt_some e
  unfold ssq
  dsimp only
  rw [e2]
theorem listAt_obj {n : Nat} (e : listAt h n = some ds) : objAt h (.ref n) = some (.lst ds) := listAt_some e
theorem ix_ref {n : Nat} (e : listAt h n = some ds) : dIx (.ref n) (.int i) h = (atI ds i).map fun d => (d, h) := by
  unfold dIx
  rw [listAt_obj e]
  show (match ssq h (.ref n) with | some ds => _ | none => none) = _
  rw [show ssq h (.ref n) = some ds from ssq_ref e]
/-! ### len -/
@[simp] theorem len_tup' : gLen [.tup ds] h = some (.int ds.length, h) := rfl
@[simp] theorem len_fro' : gLen [.fro ds] h = some (.int ds.length, h) := rfl
@[simp] theorem len_scr' : gLen [.scr ds] h = some (.int ds.length, h) := rfl
theorem len_str' (hl : s.length ≤ 16777216) : gLen [.str s] h = some (.int s.length, h) := by
  show (if s.length ≤ 16777216 then _ else _) = _
  rw [if_pos hl]
theorem len_ref {n : Nat} (e : listAt h n = some ds) : gLen [.ref n] h = some (.int ds.length, h) := by
  unfold gLen
  dsimp only
  rw [listAt_obj e]
  show (match ssq h (.ref n) with | some ds => _ | none => none) = _
  rw [show ssq h (.ref n) = some ds from ssq_ref e]
@[simp] theorem int_int : gInt [.int i] h = some (.int i, h) := rfl
@[simp] theorem int_bl : gInt [.bl b] h = some (.int (if b then 1 else 0), h) := rfl
@[simp] theorem abs_int : gAbs [.int i] h = some (.int (if i < 0 then -i else i), h) := rfl
@[simp] theorem tuple_tup : gTuple [.tup ds] h = some (.tup ds, h) := rfl
@[simp] theorem tuple_fro : gTuple [.fro ds] h = some (.tup ds, h) := rfl
theorem tuple_ref {n : Nat} (e : listAt h n = some ds) : gTuple [.ref n] h = some (.tup ds, h) := by
  unfold gTuple
  show (match ssq h (.ref n) with | some ds => _ | none => none) = _
  rw [show ssq h (.ref n) = some ds from ssq_ref e]
@[simp] theorem listF_scr : gListF [.scr ds] h = some (.fro ds, h) := rfl
@[simp] theorem listF_tup : gListF [.tup ds] h = some (.fro ds, h) := rfl
@[simp] theorem listF_fro : gListF [.fro ds] h = some (.fro ds, h) := rfl
theorem bls_fro {f : List Bool → Bool} {bs : List Bool} : gBls f [.fro (bs.map .bl)] h = some (.bl (f bs), h) := by
  show (match asBls (bs.map .bl) with | some bs => _ | none => none) = _
  rw [asBls_map]
end
/-! ### loops -/
theorem listAt_eq {h : AH} {n : Nat} {ds : List D} (e : h[n]? = some (.lst ds)) : listAt h n = some ds := by
  unfold listAt; rw [e]
section
variable {G : AH → Prop} {g : MG} {body : MS} {t : MB} {m : M} {σ σ' : AS} {h h' : AH} {d : D} {ds acc : List D}
theorem forL_nil (hG : G h) : forL G g body [] σ h = .nx σ h := by rw [forL, if_pos hG]
theorem forL_cons (hG : G h) {σ1 : AS} {h1 : AH} (hg : g d σ h = some (σ1, h1)) : forL G g body (d :: ds) σ h = (match body σ1 h1 with
  | .nx σ2 h2 => forL G g body ds σ2 h2
  | .ct σ2 h2 => forL G g body ds σ2 h2
  | .bk σ2 h2 => .nx σ2 h2
  | r => r) := by
  rw [forL, if_pos hG, hg] <;> rfl
/-- a loop by an invariant of what is left, the slots and the heap -/
theorem forL_inv {R : Out → Prop} (I : List D → AS → AH → Prop) (hn : ∀ σ h, I [] σ h → G h ∧ R (.nx σ h))
    (hc : ∀ d ds σ h, I (d :: ds) σ h → G h ∧ ∃ σ1 h1, g d σ h = some (σ1, h1) ∧ (match body σ1 h1 with
      | .nx σ2 h2 => I ds σ2 h2
      | .ct σ2 h2 => I ds σ2 h2
      | .bk σ2 h2 => R (.nx σ2 h2)
      | r => R r)) : ∀ ds σ h, I ds σ h → R (forL G g body ds σ h)
  | [], σ, h, i => by
    obtain ⟨a, b⟩ := hn σ h i
    rw [forL_nil a]; exact b
  | d :: ds, σ, h, i => by
    obtain ⟨a, σ1, h1, e, q⟩ := hc d ds σ h i
    rw [forL_cons a e]
    cases eb : body σ1 h1 with
    | nx σ2 h2 => rw [eb] at q; exact forL_inv I hn hc ds σ2 h2 q
    | ct σ2 h2 => rw [eb] at q; exact forL_inv I hn hc ds σ2 h2 q
    | bk σ2 h2 => rw [eb] at q; exact q
    | rt a b => rw [eb] at q; exact q
    | ex a b c => rw [eb] at q; exact q
    | stuck => rw [eb] at q; exact q
@[simp] theorem run_sFor {it : MI} : sFor it g body σ h = (it σ h).andS σ fun p h1 => forL p.2 g body p.1 σ h1 := rfl
/-- a comprehension whose items leave the heap as it is -/
theorem lcL_map {p : D → Bool} {f : D → D} (hG : G h) : ∀ (ds acc : List D), (∀ d ∈ ds, ∃ σ1, g d σ h = some (σ1, h) ∧ t σ1 h = .ok (p d) h ∧ (p d = true → m σ1 h = .ok (f d) h)) → acc.length + ds.length ≤ 16777216 → lcL G g t m σ ds acc h = .ok (acc ++ (ds.filter p).map f) h
  | [], acc, _, _ => by rw [lcL, if_pos hG]; simp
  | d :: ds, acc, hd, hl => by
    obtain ⟨σ1, e1, e2, e3⟩ := hd d List.mem_cons_self
    rw [lcL, if_pos hG, e1]
    dsimp only
    rw [e2]
    cases hp : p d with
    | true =>
      dsimp only
      rw [e3 hp]
      dsimp only
      rw [List.length_cons] at hl
      rw [if_pos (by omega), lcL_map hG ds (acc ++ [f d]) (fun x hx => hd x (List.mem_cons_of_mem _ hx)) (by simp; omega)]
      simp [hp]
    | false =>
      dsimp only
      rw [List.length_cons] at hl
      rw [lcL_map hG ds acc (fun x hx => hd x (List.mem_cons_of_mem _ hx)) (by omega)]
      simp [hp]
/-- .. by an invariant -/
theorem lcL_inv {R : List D → AH → Prop} (I : List D → List D → AH → Prop) (hn : ∀ acc h, I [] acc h → G h ∧ R acc h)
    (hc : ∀ d ds acc h, I (d :: ds) acc h → G h ∧ ∃ σ1 h1 k h2, g d σ h = some (σ1, h1) ∧ t σ1 h1 = .ok k h2 ∧ (if k = true then ∃ y h3, m σ1 h2 = .ok y h3 ∧ acc.length < 16777216 ∧ I ds (acc ++ [y]) h3 else I ds acc h2)) :
    ∀ ds acc h, I ds acc h → ∃ out h', lcL G g t m σ ds acc h = .ok out h' ∧ R out h'
  | [], acc, h, i => by
    obtain ⟨a, b⟩ := hn acc h i
    exact ⟨acc, h, by rw [lcL, if_pos a], b⟩
  | d :: ds, acc, h, i => by
    obtain ⟨a, σ1, h1, k, h2, e1, e2, q⟩ := hc d ds acc h i
    rw [lcL, if_pos a, e1]
    dsimp only
    rw [e2]
    cases k with
    | true =>
      rw [if_pos rfl] at q
      obtain ⟨y, h3, e3, hl, q⟩ := q
      dsimp only
      rw [e3]
      dsimp only
      rw [if_pos hl]
      exact lcL_inv I hn hc ds _ h3 q
    | false =>
      rw [if_neg Bool.false_ne_true] at q
      exact lcL_inv I hn hc ds _ h2 q
@[simp] theorem run_eLc {it : MI} {vs : List Nat} : eLc it g t m vs σ h = (it σ h).bind fun p h1 => (lcL p.2 g t m (wipeA σ vs) p.1 [] h1).bind fun ds h2 => .ok (.fro ds) h2 := rfl
end
/-- what is walked -/
def seqK (x : D) (h1 : AH) : Res (List D × (AH → Prop)) := match x with
  | .str a => .ok (a.cps.toList.map fun c => .str ⟨#[c]⟩, fun _ => True) h1
  | .tup ds => .ok (ds, fun _ => True) h1
  | .fro ds => .ok (ds, fun _ => True) h1
  | .scr ds => .ok (ds, fun _ => True) h1
  | .ref n => match listAt h1 n with
    | some ds => .ok (ds, fun h => listAt h n = some ds) h1
    | none => .stuck
  | _ => .stuck
section
variable {σ : AS} {h : AH} {m n : M} {ds es : List D} {s : Str} {i j : Int}
@[simp] theorem run_iSeq : iSeq m σ h = (m σ h).bind fun x h1 => seqK x h1 := rfl
@[simp] theorem seqK_str : seqK (.str s) h = .ok (s.cps.toList.map fun c => .str ⟨#[c]⟩, fun _ => True) h := rfl
@[simp] theorem seqK_tup : seqK (.tup ds) h = .ok (ds, fun _ => True) h := rfl
@[simp] theorem seqK_fro : seqK (.fro ds) h = .ok (ds, fun _ => True) h := rfl
@[simp] theorem seqK_scr : seqK (.scr ds) h = .ok (ds, fun _ => True) h := rfl
theorem seqK_ref {k : Nat} (e : listAt h k = some ds) : seqK (.ref k) h = .ok (ds, fun h => listAt h k = some ds) h := by
  unfold seqK
  dsimp only
  rw [e]
def rngK (x : D) (h1 : AH) : Res (List D × (AH → Prop)) := match x with
  | .int j => if -(2 ^ 62) ≤ j ∧ j < 2 ^ 62 then .ok (rangeD 0 j.toNat, fun _ => True) h1 else .stuck
  | _ => .stuck
@[simp] theorem run_iRange1 : iRange1 m σ h = (m σ h).bind fun x h1 => rngK x h1 := rfl
@[simp] theorem rngK_int : rngK (.int j) h = if -(2 ^ 62) ≤ j ∧ j < 2 ^ 62 then .ok (rangeD 0 j.toNat, fun _ => True) h else .stuck := rfl
theorem rngK_of (h0 : -(2 ^ 62) ≤ j) (h1 : j < 2 ^ 62) : rngK (.int j) h = .ok (rangeD 0 j.toNat, fun _ => True) h := if_pos ⟨h0, h1⟩
def zipK (x y : D) (h2 : AH) : Res (List D × (AH → Prop)) := match x, y with
  | .tup as, .tup bs => .ok (zipD as bs, fun _ => True) h2
  | .fro as, .fro bs => .ok (zipD as bs, fun _ => True) h2
  | _, _ => .stuck
@[simp] theorem run_iZip : iZip m n σ h = (m σ h).bind fun x h1 => (n σ h1).bind fun y h2 => zipK x y h2 := rfl
@[simp] theorem zipK_tup : zipK (.tup ds) (.tup es) h = .ok (zipD ds es, fun _ => True) h := rfl
end
end Q
namespace Q
open PySem PySem.Spec PyProof.Rows L2
section
variable {h : AH} {s : Str} {ks ls : List Str} {σ : AS}
@[simp] theorem ite_bl {c : Prop} [Decidable c] {a b : Bool} : (if c then Res.ok (D.bl a) h else Res.ok (D.bl b) h) = .ok (.bl (if c then a else b)) h := by split <;> rfl
@[simp] theorem ite_okb {c : Prop} [Decidable c] {a b : Bool} : (if c then Res.ok a h else Res.ok b h) = .ok (if c then a else b) h := by split <;> rfl
/-! ### lists of texts -/
theorem pds_strs : ∀ ks : List Str, pds (ks.map .str) = some (ks.map .str)
  | [] => rfl
  | k :: ks => by
    show (match pd (.str k), pds (ks.map .str) with | some k, some ks => some (k :: ks) | _, _ => none) = _
    rw [pds_strs ks]; rfl
theorem depth_strs : ∀ ks : List Str, PyData.depthAll (ks.map .str) = 0
  | [] => by simp [PyData.depthAll]
  | k :: ks => by
    show PyData.depthAll (.str k :: ks.map .str) = 0
    rw [PyData.depthAll, depth_strs ks]; simp [PyData.depth]
theorem any_strs (ks : List Str) : (ks.map PyData.str).any (fun z => PyData.eqv z (.str s)) = decide (s ∈ ks) := by
  induction ks with
  | nil => rfl
  | cons k ks ih =>
    rw [List.map_cons, List.any_cons, ih]
    simp only [PyData.eqv, List.mem_cons, Bool.decide_or]
    rw [beq_dec, show decide (k = s) = decide (s = k) from by rw [Bool.eq_iff_iff]; simp [eq_comm]]
theorem in_tup : dIn false (.str s) (.tup (ks.map .str)) h = some (.bl (decide (s ∈ ks)), h) := by
  show dInS false (.str s) (.tup (ks.map .str)) h = _
  unfold dInS
  rw [show pd (.str s) = some (.str s) from rfl, show pdH h (.tup (ks.map .str)) = some (.tuple (ks.map .str)) from by
    show (pds (ks.map .str)).map PyData.tuple = _
    rw [pds_strs]; rfl]
  dsimp only
  rw [depth_strs, if_pos (by omega), any_strs, Bool.false_bne]
theorem in_ref {n : Nat} {neg : Bool} (e : listAt h n = some (ks.map .str)) : dIn neg (.str s) (.ref n) h = some (.bl (neg != decide (s ∈ ks)), h) := by
  have e2 := listAt_some e
  unfold dIn
  rw [listAt_obj e]
  show dInS neg (.str s) (.ref n) h = _
  unfold dInS
  rw [show pd (.str s) = some (.str s) from rfl, show pdH h (.ref n) = some (.list (ks.map .str)) from by
    unfold pdH
    dsimp only
    rw [e2]
    show (pds (ks.map .str)).map PyData.list = _
    rw [pds_strs]; rfl]
  dsimp only
  rw [depth_strs, if_pos (by omega), any_strs]
theorem eqv_strs : ∀ ks ls : List Str, PyData.eqvAll (ks.map .str) (ls.map .str) = decide (ks = ls)
  | [], [] => by simp [PyData.eqvAll]
  | [], l :: ls => by simp [PyData.eqvAll]
  | k :: ks, [] => by simp [PyData.eqvAll]
  | k :: ks, l :: ls => by
    show PyData.eqvAll (.str k :: ks.map .str) (.str l :: ls.map .str) = _
    rw [PyData.eqvAll, eqv_strs ks ls]
    simp only [PyData.eqv]
    rw [beq_dec, Bool.eq_iff_iff]
    simp
theorem eq_strs : dEq (.tup (ks.map .str)) (.tup (ls.map .str)) h = some (.bl (decide (ks = ls)), h) :=
  cmp_is (p := .tuple (ks.map .str)) (q := .tuple (ls.map .str)) (by show (pds _).map _ = _; rw [pds_strs]; rfl) (by show (pds _).map _ = _; rw [pds_strs]; rfl) rfl (by rw [PyData.depth, depth_strs]; omega) (by simp only [PyData.eqv]; exact eqv_strs _ _)
/-! ### all of a comprehension -/
@[simp] theorem all_true {n : Nat} : gAll [.fro (List.replicate n (.bl true))] h = some (.bl true, h) := by
  have := bls_fro (h := h) (f := fun bs => bs.all id) (bs := List.replicate n true)
  rw [List.map_replicate] at this
  refine this.trans ?_
  simp
theorem lc_all {G : AH → Prop} {g : MG} {m : M} {σ : AS} (hG : G h) (ds : List D) (hd : ∀ d ∈ ds, ∃ σ1, g d σ h = some (σ1, h) ∧ m σ1 h = .ok (.bl true) h) (hl : ds.length ≤ 16777216) : lcL G g tYesM m σ ds [] h = .ok (List.replicate ds.length (.bl true)) h := by
  rw [lcL_map (t := tYesM) (p := fun _ => true) (f := fun _ => .bl true) hG ds [] (fun d hm => let ⟨σ1, a, b⟩ := hd d hm; ⟨σ1, a, rfl, fun _ => b⟩) (by simpa using hl)]
  rw [List.filter_eq_self.mpr fun _ _ => rfl, List.nil_append, List.map_const']
theorem lc_map {G : AH → Prop} {g : MG} {m : M} {σ : AS} (f : D → D) (hG : G h) (ds : List D) (hd : ∀ d ∈ ds, ∃ σ1, g d σ h = some (σ1, h) ∧ m σ1 h = .ok (f d) h) (hl : ds.length ≤ 16777216) : lcL G g tYesM m σ ds [] h = .ok (ds.map f) h := by
  rw [lcL_map (t := tYesM) (p := fun _ => true) (f := f) hG ds [] (fun d hm => let ⟨σ1, a, b⟩ := hd d hm; ⟨σ1, a, rfl, fun _ => b⟩) (by simpa using hl)]
  rw [List.filter_eq_self.mpr fun _ _ => rfl, List.nil_append]
theorem mem_rangeD {lo : Int} {n : Nat} {d : D} (hd : d ∈ rangeD lo n) : ∃ i : Nat, i < n ∧ d = .int (lo + i) := by
  obtain ⟨i, hi, rfl⟩ := List.mem_map.mp hd
  exact ⟨i, List.mem_range.mp hi, rfl⟩
@[simp] theorem rangeD_len {lo : Int} {n : Nat} : (rangeD lo n).length = n := by simp [rangeD]
end
end Q

/-! Q13: dicts with tuple keys, by values. -/
namespace Q
open PySem PySem.Spec PyProof.Rows L2
theorem dtGet_nil {k : NestedKey} : dtGet [] k = none := rfl
theorem dtGet_cons {p : D × D} {kvs : List (D × D)} {k : NestedKey} : dtGet (p :: kvs) k = if nk p.1 = some k then some p.2 else dtGet kvs k := by
  unfold dtGet
  rw [List.find?_cons]
  by_cases e : nk p.1 = some k
  · simp [e]
  · simp [e]
theorem dtGet_append {kvs : List (D × D)} {p : D × D} {k : NestedKey} : dtGet (kvs ++ [p]) k = (match dtGet kvs k with | some v => some v | none => if nk p.1 = some k then some p.2 else none) := by
  induction kvs with
  | nil => rw [List.nil_append, dtGet_cons, dtGet_nil]
  | cons q kvs ih =>
    rw [List.cons_append, dtGet_cons, dtGet_cons]
    by_cases e : nk q.1 = some k
    · rw [if_pos e, if_pos e]
    · rw [if_neg e, if_neg e, ih]
theorem dtGet_map {kvs : List (D × D)} {k k' : NestedKey} {v : D} : dtGet (kvs.map fun p => if nk p.1 = some k then (p.1, v) else p) k' = if k' = k then (dtGet kvs k).map fun _ => v else dtGet kvs k' := by
  induction kvs with
  | nil =>
    simp only [List.map_nil, dtGet_nil]
    split <;> rfl
  | cons q kvs ih =>
    rw [List.map_cons, dtGet_cons, dtGet_cons, dtGet_cons, ih]
    by_cases e : nk q.1 = some k
    · rw [if_pos e]
      by_cases ek : k' = k
      · subst ek
        simp [e]
      · have ne : ¬ nk q.1 = some k' := by rw [e]; simp [Ne.symm ek]
        simp [ne, ek]
    · rw [if_neg e]
      by_cases ek : k' = k
      · subst ek
        simp [e]
      · simp [e, ek]
theorem dtGet_put {kvs : List (D × D)} {d v : D} {k k' : NestedKey} (hk : nk d = some k) : dtGet (dtPut kvs d k v) k' = if k' = k then some v else dtGet kvs k' := by
  unfold dtPut
  split
  · rename_i hs
    rw [dtGet_map]
    split
    · obtain ⟨u, hu⟩ := Option.isSome_iff_exists.mp hs
      rw [hu]; rfl
    · rfl
  · rename_i hs
    rw [dtGet_append]
    have hn : dtGet kvs k = none := by
      cases e : dtGet kvs k with
      | none => rfl
      | some u => rw [e] at hs; exact absurd rfl hs
    by_cases ek : k' = k
    · subst ek
      rw [hn]
      simp [hk]
    · have ne : ¬ nk d = some k' := by rw [hk]; simp [Ne.symm ek]
      cases dtGet kvs k' <;> simp [ne, ek]
/-- values as keys -/
structure KeyEnc (α : Type) [DecidableEq α] where
  enc : α → D
  key : α → NestedKey
  nk : ∀ a, nk (enc a) = some (key a)
  dep : ∀ a, (key a).depth ≤ 8
  inj : ∀ a b, key a = key b → a = b
  tup : ∀ a, ∃ ds, enc a = .tup ds
  clo : ∀ n a, closed n (enc a) = true
variable {α : Type} [DecidableEq α] (E : KeyEnc α)
theorem KeyEnc.tkey (a : α) : tkey (E.enc a) = some (E.key a) := by
  obtain ⟨ds, e⟩ := E.tup a
  have h1 := E.nk a
  rw [e] at h1 ⊢
  unfold Q.tkey
  dsimp only
  rw [h1]
  exact if_pos (E.dep a)
/-- a dict that tells which stand in it -/
def KeyEnc.set (as : List α) : List (D × D) := as.map fun a => (E.enc a, .bl true)
theorem KeyEnc.get (as : List α) (a : α) : dtGet (E.set as) (E.key a) = if a ∈ as then some (.bl true) else none := by
  induction as with
  | nil => rfl
  | cons b as ih =>
    show dtGet ((E.enc b, .bl true) :: E.set as) _ = _
    rw [dtGet_cons, ih, E.nk]
    by_cases e : b = a
    · subst e; simp
    · have ne : ¬ some (E.key b) = some (E.key a) := fun z => e (E.inj _ _ (Option.some.inj z))
      have ne2 : ¬ a = b := fun z => e z.symm
      simp [ne, ne2]
def add (as : List α) (a : α) : List α := if a ∈ as then as else as ++ [a]
theorem KeyEnc.put (as : List α) (a : α) : dtPut (E.set as) (E.enc a) (E.key a) (.bl true) = E.set (add as a) := by
  unfold dtPut add
  rw [E.get]
  by_cases e : a ∈ as
  · rw [if_pos e, if_pos e]
    simp only [Option.isSome_some, if_true]
    unfold KeyEnc.set
    rw [List.map_map]
    refine List.map_congr_left fun b _ => ?_
    show (if _ then _ else _) = _
    split <;> rfl
  · rw [if_neg e, if_neg e]
    simp only [Option.isSome_none, Bool.false_eq_true, if_false]
    simp [KeyEnc.set]
/-- the different ones, each where it stands first -/
def ddp : List α → List α → List α
  | acc, [] => acc
  | acc, a :: as => ddp (add acc a) as
theorem add_nodup {as : List α} {a : α} (h : as.Nodup) : (add as a).Nodup := by
  unfold add
  split
  · exact h
  · rename_i hn
    rw [List.nodup_append]
    exact ⟨h, by simp, fun b hb c hc => by rw [List.mem_singleton.mp hc]; exact fun z => hn (z ▸ hb)⟩
theorem ddp_nodup : ∀ (bs acc : List α), acc.Nodup → (ddp acc bs).Nodup
  | [], _, h => h
  | b :: bs, acc, h => ddp_nodup bs _ (add_nodup h)
theorem mem_add {as : List α} {a b : α} : b ∈ add as a ↔ b ∈ as ∨ b = a := by
  unfold add
  split
  · rename_i h
    exact ⟨.inl, fun z => z.elim id fun z => z ▸ h⟩
  · simp
theorem mem_ddp {b : α} : ∀ (bs acc : List α), b ∈ ddp acc bs ↔ b ∈ acc ∨ b ∈ bs
  | [], acc => by simp [ddp]
  | c :: bs, acc => by
    rw [ddp, mem_ddp bs, mem_add]
    simp only [List.mem_cons]
    constructor
    · rintro ((h | h) | h)
      · exact .inl h
      · exact .inr (.inl h)
      · exact .inr (.inr h)
    · rintro (h | h | h)
      · exact .inl (.inl h)
      · exact .inl (.inr h)
      · exact .inr h
theorem len_add {as : List α} {a : α} : (add as a).length ≤ as.length + 1 := by
  unfold add
  split <;> simp
theorem len_ddp : ∀ (bs acc : List α), (ddp acc bs).length ≤ acc.length + bs.length
  | [], acc => by simp [ddp]
  | c :: bs, acc => by
    have h1 := len_ddp bs (add acc c)
    have h2 := len_add (as := acc) (a := c)
    rw [ddp, List.length_cons]
    omega
theorem ddp_id : ∀ (bs acc : List α), (acc ++ bs).Nodup → ddp acc bs = acc ++ bs
  | [], acc, _ => by simp [ddp]
  | c :: bs, acc, h => by
    have hn : c ∉ acc := fun z => by
      rw [List.nodup_append] at h
      exact h.2.2 c z c List.mem_cons_self rfl
    rw [ddp, add, if_neg hn, ddp_id bs _ (by simpa using h)]
    simp
/-! ### the last object of the heap -/
section
variable {h : AH} {o o' : O} {d v : D} {ds : List D} {n : Nat}
@[simp] theorem last_get : (h ++ [o])[h.length]? = some o := by simp
@[simp] theorem last_obj : objAt (h ++ [o]) (.ref h.length) = some o := last_get
@[simp] theorem last_set : (h ++ [o]).set h.length o' = h ++ [o'] := by simp
@[simp] theorem last_list : listAt (h ++ [.lst ds]) h.length = some ds := listAt_eq last_get
theorem objAt_app (hn : n < h.length) {g : AH} : objAt (h ++ g) (.ref n) = objAt h (.ref n) := List.getElem?_append_left hn
theorem listAt_app (hn : n < h.length) {g : AH} : listAt (h ++ g) n = listAt h n := by
  unfold listAt
  rw [List.getElem?_append_left hn]
theorem set_app {g : AH} (hn : n < h.length) : (h ++ g).set n o = h.set n o ++ g := by
  rw [List.set_append_left _ _ hn]
theorem in_set {as : List α} {a : α} {neg : Bool} {r : Nat} (e : objAt h (.ref r) = some (.dt (E.set as))) : dIn neg (E.enc a) (.ref r) h = some (.bl (neg != decide (a ∈ as)), h) := by
  unfold dIn
  rw [e]
  dsimp only
  rw [E.tkey]
  dsimp only
  rw [E.get]
  by_cases ha : a ∈ as <;> simp [ha]
theorem set_set {as : List α} {a : α} (hl : as.length < 16777216) : dSet (.ref h.length) (E.enc a) (.bl true) (h ++ [.dt (E.set as)]) = some (h ++ [.dt (E.set (add as a))]) := by
  unfold dSet
  dsimp only
  rw [last_get]
  dsimp only
  rw [E.tkey]
  dsimp only
  rw [if_pos (by simpa [KeyEnc.set] using hl), E.put, last_set]
theorem list_set {as : List α} : gListF [.ref h.length] (h ++ [.dt (E.set as)]) = some (.fro (as.map E.enc), h ++ [.dt (E.set as)]) := by
  unfold gListF itemsOf
  dsimp only
  rw [last_obj]
  dsimp only
  rw [show (E.set as).map (·.1) = as.map E.enc from by simp [KeyEnc.set]]
theorem closeds_map : ∀ (as : List α), closeds n (as.map E.enc) = true
  | [] => rfl
  | a :: as => by
    rw [List.map_cons, closeds, E.clo, closeds_map as]; rfl
end
/-- nothing but what was there -/
theorem okT_app {h : AH} : ∀ o ∈ h, o ∈ h ∨ closedO h.length o = true := fun _ m => .inl m
end Q

/-! Q14: comprehensions over encoded lists. -/
namespace Q
open PySem PySem.Spec PyProof.Rows L2
section
variable {G : AH → Prop} {g : MG} {t : MB} {m : M} {σ : AS} {h : AH} {α : Type}
theorem lc_encA (e1 f : α → D) (hG : G h) : ∀ (xs : List α) (acc : List D), (∀ x ∈ xs, ∃ σ1, g (e1 x) σ h = some (σ1, h) ∧ m σ1 h = .ok (f x) h) → acc.length + xs.length ≤ 16777216 → lcL G g tYesM m σ (xs.map e1) acc h = .ok (acc ++ xs.map f) h
  | [], acc, _, _ => by rw [List.map_nil, lcL, if_pos hG]; simp
  | x :: xs, acc, hd, hl => by
    obtain ⟨σ1, a, b⟩ := hd x List.mem_cons_self
    rw [List.length_cons] at hl
    rw [List.map_cons, lcL, if_pos hG, a]
    dsimp only
    rw [run_tYes]
    dsimp only
    rw [b]
    dsimp only
    rw [if_pos (by omega), lc_encA e1 f hG xs _ (fun y hy => hd y (List.mem_cons_of_mem _ hy)) (by simp; omega)]
    simp
theorem lc_enc (e1 f : α → D) (hG : G h) (xs : List α) (hd : ∀ x ∈ xs, ∃ σ1, g (e1 x) σ h = some (σ1, h) ∧ m σ1 h = .ok (f x) h) (hl : xs.length ≤ 16777216) : lcL G g tYesM m σ (xs.map e1) [] h = .ok (xs.map f) h := by
  rw [lc_encA e1 f hG xs [] hd (by simpa using hl)]
  simp
/-- a comprehension that changes the heap: what holds of the heap (J) and of each item (T) -/
theorem lc_run {J : AH → Prop} {T : D → Prop} (hG : ∀ h, J h → G h) : ∀ (ds acc : List D) (h : AH), J h → (∀ d ∈ ds, ∀ h, J h → ∃ σ1 y h2, g d σ h = some (σ1, h) ∧ m σ1 h = .ok y h2 ∧ J h2 ∧ T y) → acc.length + ds.length ≤ 16777216 →
    ∃ ys h', lcL G g tYesM m σ ds acc h = .ok (acc ++ ys) h' ∧ J h' ∧ ys.length = ds.length ∧ ∀ y ∈ ys, T y
  | [], acc, h, j, _, _ => ⟨[], h, by rw [lcL, if_pos (hG h j)]; simp, j, rfl, by simp⟩
  | d :: ds, acc, h, j, hd, hl => by
    obtain ⟨σ1, y, h2, a, b, j2, ty⟩ := hd d List.mem_cons_self h j
    rw [List.length_cons] at hl
    obtain ⟨ys, h', e, j', l, tys⟩ := lc_run hG ds (acc ++ [y]) h2 j2 (fun x hx => hd x (List.mem_cons_of_mem _ hx)) (by simp; omega)
    refine ⟨y :: ys, h', ?_, j', by rw [List.length_cons, List.length_cons, l], fun z hz => ?_⟩
    · rw [lcL, if_pos (hG h j), a]
      dsimp only
      rw [run_tYes]
      dsimp only
      rw [b]
      dsimp only
      rw [if_pos (by omega), e]
      simp
    · rcases List.mem_cons.mp hz with rfl | hz
      · exact ty
      · exact tys z hz
end
end Q

namespace P
open PySem PySem.Spec PyProof.Rows L2 Q G
variable {h : AH} {i j k : Int} {s t : Str} {b : Bool} {ds : List Q.D}
theorem r_is_integer : f_is_integer [.int i] h = .ok (.bl true) h := by
  rw [e_is_integer]
  simp [m_is_integer, trim_same]
theorem r_is_bit : f_is_bit [.bl b] h = .ok (.bl true) h := by
  rw [e_is_bit]
  simp [m_is_bit, trim_same]
theorem r_is_from_to : f_is_from_to [.int i, .int j, .int k] h = .ok (.bl (decide (j ≤ i) && decide (i ≤ k))) h := by
  rw [e_is_from_to]
  simp [m_is_from_to, trim_same, r_is_integer]
theorem r_is_tuple_of : f_is_tuple_of [.tup ds, .int j, .int k] h = .ok (.bl (decide (j ≤ ds.length) && decide (ds.length ≤ k))) h := by
  rw [e_is_tuple_of]
  simp [m_is_tuple_of, trim_same]
/-! ### kinds -/
def low (c : Nat) : Prop := 97 ≤ c ∧ c ≤ 122
def dig (c : Nat) : Prop := 48 ≤ c ∧ c ≤ 57
structure Kind (s : Str) : Prop where
  len : s.cps.size ≤ 12
  fst : ∃ c r, s.cps.toList = c :: r ∧ low c
  all : ∀ c ∈ s.cps.toList, low c ∨ dig c
theorem one_lt {c d : Nat} : strLt ⟨#[c]⟩ ⟨#[d]⟩ = decide (c < d) := by
  unfold strLt
  rw [Bool.eq_iff_iff]
  simp [List.cons_lt_cons_iff]
theorem Kind.pos (K : Kind s) : 1 ≤ s.cps.size := by
  obtain ⟨c, r, e, _⟩ := K.fst
  rw [← Array.length_toList, e]; simp
theorem r_is_kind (K : Kind s) : f_is_kind [.str s] h = .ok (.bl true) h := by
  have h1 := K.pos
  have h2 := K.len
  obtain ⟨c, r, e, hc⟩ := K.fst
  rw [e_is_kind]
  have hl : s.length = s.cps.size := rfl
  have e1 : ("a" : Str) = ⟨#[97]⟩ := rfl
  have e2 : ("z" : Str) = ⟨#[122]⟩ := rfl
  have e3 : ("0" : Str) = ⟨#[48]⟩ := rfl
  have e4 : ("9" : Str) = ⟨#[57]⟩ := rfl
  have e0 : atI s.cps.toList 0 = some c := by rw [e]; simp
  have hn : ¬((s.cps.size : Int) < 1 ∨ 12 < (s.cps.size : Int)) := by omega
  obtain ⟨c1, c2⟩ := hc
  have d1 : decide (c < 97) = false := decide_eq_false (by omega)
  have d2 : decide (122 < c) = false := decide_eq_false (by omega)
  simp [m_is_kind, len_str' (s := s) (h := h) (by omega), hl, ix_str'' (s := s) (h := h) (by omega), e0, K_MOST_SIGNS, hn, e1, e2, e3, e4, one_lt, d1, d2]
  rw [lc_all trivial]
  · simp [all_true, trim_same]
  · intro d hd
    obtain ⟨c', hc', rfl⟩ := List.mem_map.mp hd
    refine ⟨_, rfl, ?_⟩
    rcases K.all c' hc' with ⟨q1, q2⟩ | ⟨q1, q2⟩
    · have d1 : decide (c' < 97) = false := decide_eq_false (by omega)
      have d2 : decide (122 < c') = false := decide_eq_false (by omega)
      simp [one_lt, d1, d2, wipeA]
    · have d1 : decide (c' < 48) = false := decide_eq_false (by omega)
      have d2 : decide (57 < c') = false := decide_eq_false (by omega)
      simp [one_lt, d1, d2, wipeA]
  · simp
    omega
def ksD (ks : List Str) : Q.D := .tup (ks.map .str)
/-- ascending -/
def Asc (ks : List Str) : Prop := ks.Pairwise fun a b => strLt a b = true
structure Kinds (ks : List Str) : Prop where
  kind : ∀ k ∈ ks, Kind k
  asc : Asc ks
  pos : 1 ≤ ks.length
  most : ks.length ≤ 30
variable {ks : List Str}
theorem r_is_ascending (ha : Asc ks) (hl : ks.length ≤ 1000) : f_is_ascending [ksD ks] h = .ok (.bl true) h := by
  rw [e_is_ascending]
  have hb : -(2 ^ 62 : Int) ≤ (ks.length : Int) - 1 ∧ (ks.length : Int) - 1 < 2 ^ 62 := by omega
  simp [m_is_ascending, ksD, rngK_of hb.1 hb.2]
  rw [lc_all trivial]
  · simp [trim_same]
  · intro d hd
    obtain ⟨i, hi, rfl⟩ := mem_rangeD hd
    refine ⟨_, rfl, ?_⟩
    have h1 : i < ks.length := by omega
    have h2 : i + 1 < ks.length := by omega
    have a1 : atI (ks.map D.str) (i : Int) = some (.str ks[i]) := atI_n (by simp [h1])
    have a2 : atI (ks.map D.str) ((i : Int) + 1) = some (.str ks[i + 1]) := by
      have := atI_n (xs := ks.map D.str) (n := i + 1) (x := .str ks[i + 1]) (by simp [h2])
      simpa using this
    have lt : strLt ks[i] ks[i + 1] = true := List.pairwise_iff_getElem.mp ha i (i + 1) h1 h2 (by omega)
    simp [wipeA, a1, a2, lt]
  · simp
    omega
theorem r_is_kind_row (K : Kinds ks) : f_is_kind_row [ksD ks, .int 1] h = .ok (.bl true) h := by
  have h1 := K.pos
  have h2 := K.most
  rw [e_is_kind_row]
  have ha := r_is_ascending (h := h) K.asc (by omega)
  have ht : f_is_tuple_of [ksD ks, .int 1, .int 30] h = .ok (.bl true) h := by
    rw [ksD, r_is_tuple_of]
    simp
    omega
  simp [m_is_kind_row, K_MOST_KINDS, ha, ht]
  unfold ksD
  simp
  rw [lc_all trivial]
  · simp [trim_same]
    rw [← ksD, ha]
    simp [trim_same]
  · intro d hd
    obtain ⟨k, hk, rfl⟩ := List.mem_map.mp hd
    exact ⟨_, rfl, by simp [wipeA, r_is_kind (K.kind k hk)]⟩
  · simp
    omega
theorem r_is_kinds (K : Kinds ks) : f_is_kinds [ksD ks] h = .ok (.bl true) h := by
  rw [e_is_kinds]
  simp [m_is_kinds, r_is_kind_row K, trim_same]
theorem r_check_kinds (K : Kinds ks) {x : Q.D} : f_check_kinds [ksD ks, x] h = .ok .non h := by
  rw [e_check_kinds]
  simp [m_check_kinds, r_is_kinds K, trim_same]
end P

namespace P
open PySem PySem.Spec PyProof.Rows L2 Q G
variable {h : AH} {i j k : Int} {s t : Str} {b : Bool} {ds : List Q.D} {ks os : List Str}
/-! ### terms, sentences -/
abbrev Tm := Str × Bool
def tmD (t : Tm) : Q.D := .tup [.str t.1, .bl t.2]
def flp (t : Tm) : Tm := (t.1, !t.2)
structure Sen where
  w : Str
  a : Tm
  b : Tm
  deriving DecidableEq
def snD (s : Sen) : Q.D := .tup [.str s.w, tmD s.a, tmD s.b]
def WD : List Str := ["all", "many", "more", "some"]
@[simp] theorem w_all_some : ((("all" : Str) = "some") ↔ False) := by decide
@[simp] theorem w_all_more : ((("all" : Str) = "more") ↔ False) := by decide
@[simp] theorem w_all_many : ((("all" : Str) = "many") ↔ False) := by decide
@[simp] theorem w_some_all : ((("some" : Str) = "all") ↔ False) := by decide
@[simp] theorem w_some_more : ((("some" : Str) = "more") ↔ False) := by decide
@[simp] theorem w_some_many : ((("some" : Str) = "many") ↔ False) := by decide
@[simp] theorem w_more_all : ((("more" : Str) = "all") ↔ False) := by decide
@[simp] theorem w_more_some : ((("more" : Str) = "some") ↔ False) := by decide
@[simp] theorem w_more_many : ((("more" : Str) = "many") ↔ False) := by decide
@[simp] theorem w_many_all : ((("many" : Str) = "all") ↔ False) := by decide
@[simp] theorem w_many_some : ((("many" : Str) = "some") ↔ False) := by decide
@[simp] theorem w_many_more : ((("many" : Str) = "more") ↔ False) := by decide
/-- a sentence over the kinds -/
structure Over (ks : List Str) (s : Sen) : Prop where
  w : s.w ∈ WD
  a : s.a.1 ∈ ks
  b : s.b.1 ∈ ks
/-- .. about any kinds -/
structure Free (s : Sen) : Prop where
  w : s.w ∈ WD
  a : Kind s.a.1
  b : Kind s.b.1
theorem Over.free {s : Sen} (o : Over ks s) (K : ∀ k ∈ ks, Kind k) : Free s := ⟨o.w, K _ o.a, K _ o.b⟩
section
variable {t : Tm} {s : Sen}
@[simp] theorem ix_tm0 : dIx (tmD t) (.int 0) h = some (.str t.1, h) := by simp [tmD]
@[simp] theorem ix_tm1 : dIx (tmD t) (.int 1) h = some (.bl t.2, h) := by simp [tmD]
@[simp] theorem ix_sn0 : dIx (snD s) (.int 0) h = some (.str s.w, h) := by simp [snD]
@[simp] theorem ix_sn1 : dIx (snD s) (.int 1) h = some (tmD s.a, h) := by simp [snD]
@[simp] theorem ix_sn2 : dIx (snD s) (.int 2) h = some (tmD s.b, h) := by simp [snD]
theorem pd_tm : pd (tmD t) = some (.tuple [.str t.1, .bool t.2]) := rfl
theorem eqv_tm {u : Tm} : PyData.eqv (.tuple [.str t.1, .bool t.2]) (.tuple [.str u.1, .bool u.2]) = decide (t = u) := by
  simp only [PyData.eqv, PyData.eqvAll]
  rw [beq_dec, beq_dec, Bool.eq_iff_iff]
  simp [Prod.ext_iff]
@[simp] theorem eq_tm {u : Tm} : dEq (tmD t) (tmD u) h = some (.bl (decide (t = u)), h) :=
  cmp_is (p := .tuple [.str t.1, .bool t.2]) (q := .tuple [.str u.1, .bool u.2]) rfl rfl rfl (by simp [PyData.depth, PyData.depthAll]) eqv_tm
end
theorem r_flip {t : Tm} : f_flip [tmD t] h = .ok (tmD (flp t)) h := by
  rw [e_flip]
  simp [m_flip, flp, trim_same]
  rfl
theorem r_is_tuple_tm {t : Tm} : f_is_tuple_of [tmD t, .int 2, .int 2] h = .ok (.bl true) h := by
  simp [tmD, r_is_tuple_of]
theorem r_is_free_term {t : Tm} (K : Kind t.1) : f_is_free_term [tmD t] h = .ok (.bl true) h := by
  rw [e_is_free_term]
  simp [m_is_free_term, r_is_tuple_tm, r_is_kind K, r_is_bit, trim_same]
theorem r_is_term_over {t : Tm} (K : t.1 ∈ ks) : f_is_term_over [ksD ks, tmD t] h = .ok (.bl true) h := by
  rw [e_is_term_over]
  simp [m_is_term_over, ksD, r_is_tuple_tm, r_is_bit, trim_same, in_tup, K]
theorem K_WORDS_eq : K_WORDS = .tup (WD.map .str) := rfl
theorem r_is_word_and {s : Sen} (hw : s.w ∈ WD) : f_is_word_and [snD s, .int 3] h = .ok (.bl true) h := by
  have e : f_is_tuple_of [snD s, .int 3, .int 3] h = .ok (.bl true) h := by simp [snD, r_is_tuple_of]
  rw [e_is_word_and]
  simp [m_is_word_and, e, trim_same, K_WORDS_eq, in_tup, hw]
theorem r_is_word_not {ss : List Sen} : f_is_word_and [.tup (ss.map snD), .int 3] h = .ok (.bl false) h := by
  rw [e_is_word_and]
  simp [m_is_word_and, r_is_tuple_of]
  by_cases hl : ss.length = 3
  · match ss, hl with
    | [a, b, c], _ => simp [snD, trim_same]
  · have hn : ¬ ((3 : Int) ≤ ss.length ∧ (ss.length : Int) ≤ 3) := by omega
    simp [hn, trim_same]
theorem r_is_free_sentence {s : Sen} (F : Free s) : f_is_free_sentence [snD s] h = .ok (.bl true) h := by
  rw [e_is_free_sentence]
  simp [m_is_free_sentence, r_is_word_and F.w, r_is_free_term F.a, r_is_free_term F.b, trim_same]
theorem r_is_sentence_over {s : Sen} (O : Over ks s) : f_is_sentence_over [ksD ks, snD s] h = .ok (.bl true) h := by
  rw [e_is_sentence_over]
  simp [m_is_sentence_over, r_is_word_and O.w, r_is_term_over O.a, r_is_term_over O.b, trim_same]
theorem r_is_sentence_not {ss : List Sen} {x : Q.D} : f_is_sentence_over [x, .tup (ss.map snD)] h = .ok (.bl false) h := by
  rw [e_is_sentence_over]
  simp [m_is_sentence_over, r_is_word_not, trim_same]
/-! ### questions -/
inductive Qn where
  | one (s : Sen) | many (ss : List Sen)
def qnD : Qn → Q.D
  | .one s => snD s
  | .many ss => .tup (ss.map snD)
def OverQ (ks : List Str) : Qn → Prop
  | .one s => Over ks s
  | .many ss => 1 ≤ ss.length ∧ ss.length ≤ 40 ∧ ∀ s ∈ ss, Over ks s
theorem r_is_question_over {q : Qn} (O : OverQ ks q) : f_is_question_over [ksD ks, qnD q] h = .ok (.bl true) h := by
  rw [e_is_question_over]
  cases q with
  | one s =>
    simp [m_is_question_over, qnD, r_is_sentence_over (show Over ks s from O), trim_same]
  | many ss =>
    obtain ⟨o1, o2, o3⟩ := O
    have ht : f_is_tuple_of [.tup (ss.map snD), .int 1, .int 40] h = .ok (.bl true) h := by
      rw [r_is_tuple_of]
      simp
      omega
    simp [m_is_question_over, qnD, r_is_sentence_not, ht, K_MOST_PARTS]
    rw [lc_all trivial]
    · simp [trim_same]
    · intro d hd
      obtain ⟨s, hs, rfl⟩ := List.mem_map.mp hd
      exact ⟨_, rfl, by simp [wipeA, r_is_sentence_over (o3 s hs)]⟩
    · simp
      omega
theorem r_check_question {q : Qn} (O : OverQ ks q) {x : Q.D} : f_check_question [ksD ks, qnD q, x] h = .ok .non h := by
  rw [e_check_question]
  simp [m_check_question, r_is_question_over O, trim_same]
theorem r_is_question {q : Qn} (K : Kinds ks) (O : OverQ ks q) : f_is_question [ksD ks, qnD q] h = .ok (.bl true) h := by
  rw [e_is_question]
  simp [m_is_question, r_check_kinds K, r_is_question_over O, trim_same]
/-! ### contrary, mirror, by_itself -/
def cont (s : Sen) : Sen := if s.w = "all" then ⟨"some", s.a, flp s.b⟩ else if s.w = "some" then ⟨"all", s.a, flp s.b⟩ else ⟨if s.w = "more" then "many" else "more", s.b, s.a⟩
def mir (s : Sen) : Sen := if s.w = "some" then ⟨s.w, s.b, s.a⟩ else ⟨s.w, flp s.b, flp s.a⟩
def alw (s : Sen) : Bool := decide (s.a = s.b) && (decide (s.w = "all") || decide (s.w = "many"))
def its (s : Sen) : Str := if alw s = true then "always" else if alw (cont s) = true then "never" else "open"
theorem r_contrary_of {s : Sen} : f_contrary_of [snD s] h = .ok (snD (cont s)) h := by
  rw [e_contrary_of]
  simp [m_contrary_of, snD]
  unfold cont
  by_cases h1 : s.w = "all"
  · simp [h1, r_flip, trim_same]
  · by_cases h2 : s.w = "some"
    · simp [h1, h2, r_flip, trim_same]
    · by_cases h3 : s.w = "more" <;> simp [h1, h2, h3, trim_same]
theorem r_mirror_of {s : Sen} : f_mirror_of [snD s] h = .ok (snD (mir s)) h := by
  rw [e_mirror_of]
  simp [m_mirror_of, snD]
  unfold mir
  by_cases h1 : s.w = "some" <;> simp [h1, r_flip, trim_same]
theorem r_check_free {s : Sen} (F : Free s) : f_check_free [snD s] h = .ok .non h := by
  rw [e_check_free]
  simp [m_check_free, r_is_free_sentence F, trim_same]
theorem r_contrary {s : Sen} (F : Free s) : f_contrary [snD s] h = .ok (snD (cont s)) h := by
  rw [e_contrary]
  simp [m_contrary, r_check_free F, r_contrary_of, trim_same]
theorem r_mirror {s : Sen} (F : Free s) : f_mirror [snD s] h = .ok (snD (mir s)) h := by
  rw [e_mirror]
  simp [m_mirror, r_check_free F, r_mirror_of, trim_same]
theorem r_always_holds {s : Sen} : f_always_holds [snD s] h = .ok (.bl (alw s)) h := by
  rw [e_always_holds]
  simp [m_always_holds, alw, trim_same]
theorem r_by_itself {s : Sen} (F : Free s) : f_by_itself [snD s] h = .ok (.str (its s)) h := by
  rw [e_by_itself]
  simp [m_by_itself, r_check_free F, r_always_holds, r_contrary_of]
  unfold its
  cases h1 : alw s <;> cases h2 : alw (cont s) <;> simp [trim_same, r_contrary_of, r_always_holds, h1, h2]
end P

namespace P
open PySem PySem.Spec PyProof.Rows L2 Q G
variable {h : AH} {i j k : Int} {s t : Str} {b : Bool} {ds : List Q.D} {ks os : List Str}
/-! ### entries as keys -/
abbrev En := Int × Sen
def enD (e : En) : Q.D := .tup [.int e.1, snD e.2]
def tmK (t : Tm) : NestedKey := .tup [.text t.1, .num (if t.2 = true then 1 else 0)]
def snK (s : Sen) : NestedKey := .tup [.text s.w, tmK s.a, tmK s.b]
def enK (e : En) : NestedKey := .tup [.num e.1, snK e.2]
theorem nk_tm (t : Tm) : nk (tmD t) = some (tmK t) := rfl
theorem nk_sn (s : Sen) : nk (snD s) = some (snK s) := rfl
theorem nk_en (e : En) : nk (enD e) = some (enK e) := rfl
theorem tmK_inj {t u : Tm} (e : tmK t = tmK u) : t = u := by
  obtain ⟨a, b⟩ := t
  obtain ⟨c, d⟩ := u
  simp only [tmK, NestedKey.tup.injEq, List.cons.injEq, NestedKey.text.injEq, NestedKey.num.injEq, and_true] at e
  obtain ⟨rfl, e⟩ := e
  cases b <;> cases d <;> simp_all
theorem snK_inj {t u : Sen} (e : snK t = snK u) : t = u := by
  obtain ⟨a, b, c⟩ := t
  obtain ⟨a', b', c'⟩ := u
  simp only [snK, NestedKey.tup.injEq, List.cons.injEq, NestedKey.text.injEq, and_true] at e
  obtain ⟨rfl, e1, e2⟩ := e
  rw [tmK_inj e1, tmK_inj e2]
theorem enK_inj {t u : En} (e : enK t = enK u) : t = u := by
  obtain ⟨a, b⟩ := t
  obtain ⟨a', b'⟩ := u
  simp only [enK, NestedKey.tup.injEq, List.cons.injEq, NestedKey.num.injEq, and_true] at e
  obtain ⟨rfl, e1⟩ := e
  rw [snK_inj e1]
@[simp] theorem clo_tm {n : Nat} {t : Tm} : closed n (tmD t) = true := rfl
@[simp] theorem clo_sn {n : Nat} {s : Sen} : closed n (snD s) = true := rfl
@[simp] theorem clo_en {n : Nat} {e : En} : closed n (enD e) = true := rfl
def EN : KeyEnc En where
  enc := enD
  key := enK
  nk := nk_en
  dep := fun e => by simp [enK, snK, tmK, NestedKey.depth, NestedKey.depthAll]
  inj := fun _ _ => enK_inj
  tup := fun e => ⟨_, rfl⟩
  clo := fun _ _ => rfl
/-! ### without_doubles -/
theorem r_without_doubles {α : Type} [DecidableEq α] (E : KeyEnc α) {x : Q.D} (xs : List α) (hx : seqK x h = .ok (xs.map E.enc, fun _ => True) h) (hx2 : ∀ g, seqK x (h ++ g) = .ok (xs.map E.enc, fun _ => True) (h ++ g)) (hl : xs.length ≤ 10000) : f_without_doubles [x] h = .ok (.fro ((ddp [] xs).map E.enc)) h := by
  rw [e_without_doubles]
  simp [m_without_doubles, hx2]
  have key := forL_inv (G := fun _ => True) (g := gSlot 2) (body := b_without_doubles_1)
    (R := fun o => ∃ σ', o = .nx σ' (h ++ [.dt (E.set (ddp [] xs))]) ∧ σ'[1]? = some (some (.ref h.length)))
    (fun ds σ h' => ∃ ys acc y, ds = ys.map E.enc ∧ ddp acc ys = ddp [] xs ∧ acc.length + ys.length ≤ 10000 ∧ σ = [some x, some (.ref h.length), y] ∧ h' = h ++ [.dt (E.set acc)])
    (fun σ h' ⟨ys, acc, y, e1, e2, e3, e4, e5⟩ => by
      cases ys with
      | cons _ _ => cases e1
      | nil =>
        refine ⟨trivial, σ, ?_, by rw [e4]; rfl⟩
        rw [e5, ← e2]
        rfl)
    (fun d ds σ h' ⟨ys, acc, y, e1, e2, e3, e4, e5⟩ => by
      cases ys with
      | nil => cases e1
      | cons a ys =>
        cases e1
        refine ⟨trivial, _, _, rfl, ?_⟩
        subst e4 e5
        rw [List.length_cons] at e3
        simp [b_without_doubles_1, gSubD, set_set E (as := acc) (a := a) (by omega)]
        refine ⟨ys, rfl, add acc a, e2, ?_, rfl⟩
        have := len_add (as := acc) (a := a)
        omega)
    (xs.map E.enc) [some x, some (.ref h.length), none] (h ++ [.dt []]) ⟨xs, [], none, rfl, rfl, by simpa using hl, rfl, rfl⟩
  obtain ⟨σ', e, e1⟩ := key
  rw [e]
  have ev : ∀ h', eVar 1 σ' h' = .ok (.ref h.length) h' := fun h' => by
    unfold eVar
    rw [e1]
  simp [ev, list_set E]
  exact trim_drop rfl okT_app (by rw [closed]; exact closeds_map E _)
end P

namespace P
open PySem PySem.Spec PyProof.Rows L2 Q G
variable {h : AH} {i j k : Int} {s t : Str} {b : Bool} {ds : List Q.D} {ks os : List Str}
/-! ### books -/
structure Entry (ks : List Str) (e : En) : Prop where
  lo : 0 ≤ e.1
  hi : e.1 ≤ 5
  ov : Over ks e.2
@[simp] theorem ix_en0 {e : En} : dIx (enD e) (.int 0) h = some (.int e.1, h) := by simp [enD]
@[simp] theorem ix_en1 {e : En} : dIx (enD e) (.int 1) h = some (snD e.2, h) := by simp [enD]
theorem r_is_source (h0 : 0 ≤ i) (h1 : i ≤ 5) : f_is_source [.int i] h = .ok (.bl true) h := by
  rw [e_is_source]
  simp [m_is_source, K_MOST_SOURCE, r_is_from_to, trim_same, h0, h1]
theorem r_is_entry {e : En} (E : Entry ks e) : f_is_entry [ksD ks, enD e] h = .ok (.bl true) h := by
  have ht : f_is_tuple_of [enD e, .int 2, .int 2] h = .ok (.bl true) h := by simp [enD, r_is_tuple_of]
  rw [e_is_entry]
  simp [m_is_entry, ht, r_is_source E.lo E.hi, r_is_sentence_over E.ov, trim_same]
def bkD (ks : List Str) (es : List En) : Q.D := .tup [ksD ks, .tup (es.map enD)]
structure Book (ks : List Str) (es : List En) : Prop where
  kinds : Kinds ks
  ent : ∀ e ∈ es, Entry ks e
  most : es.length ≤ 150
  nodup : es.Nodup
@[simp] theorem ix_bk0 {es : List En} : dIx (bkD ks es) (.int 0) h = some (ksD ks, h) := by simp [bkD]
@[simp] theorem ix_bk1 {es : List En} : dIx (bkD ks es) (.int 1) h = some (.tup (es.map enD), h) := by simp [bkD]
theorem r_wd_ens {es : List En} (hl : es.length ≤ 10000) : f_without_doubles [.tup (es.map enD)] h = .ok (.fro ((ddp [] es).map enD)) h := r_without_doubles EN es rfl (fun _ => rfl) hl
theorem r_wd_enf {es : List En} (hl : es.length ≤ 10000) : f_without_doubles [.fro (es.map enD)] h = .ok (.fro ((ddp [] es).map enD)) h := r_without_doubles EN es rfl (fun _ => rfl) hl
theorem r_is_book {es : List En} (B : Book ks es) : f_is_book [bkD ks es] h = .ok (.bl true) h := by
  have hb := B.most
  have ht : f_is_tuple_of [bkD ks es, .int 2, .int 2] h = .ok (.bl true) h := by simp [bkD, r_is_tuple_of]
  have ht2 : f_is_tuple_of [.tup (es.map enD), .int 0, .int 150] h = .ok (.bl true) h := by
    rw [r_is_tuple_of]
    simp
    omega
  rw [e_is_book]
  simp [m_is_book, ht, r_is_kinds B.kinds]
  unfold bkD
  simp [ht2, K_MOST_ENTRIES]
  rw [lc_all trivial]
  · simp [r_wd_ens (es := es) (h := h) (by omega), ddp_id es [] (by simpa using B.nodup), trim_same]
  · intro d hd
    obtain ⟨e, he, rfl⟩ := List.mem_map.mp hd
    exact ⟨_, rfl, by simp [wipeA, r_is_entry (B.ent e he)]⟩
  · simp
    omega
theorem r_check_book {es : List En} (B : Book ks es) {x : Q.D} : f_check_book [bkD ks es, x] h = .ok .non h := by
  rw [e_check_book]
  simp [m_check_book, r_is_book B, trim_same]
theorem r_made_book {es : List En} {x : Q.D} (hl : es.length ≤ 150) : f_made_book [x, .fro (es.map enD)] h = .ok (.tup [x, .tup ((ddp [] es).map enD)]) h := by
  have h1 := len_ddp es []
  have hn : ¬ (150 : Int) < ((ddp [] es).length : Int) := by simp at h1; omega
  rw [e_made_book]
  simp [m_made_book, r_wd_enf (es := es) (h := h) (by omega), K_MOST_ENTRIES, hn, trim_same]
/-! ### translations -/
def tsD (ts : List Tm) : Q.D := .tup (ts.map tmD)
/-- terms over the kinds os, one for each of ks -/
structure Terms (ks os : List Str) (ts : List Tm) : Prop where
  len : ts.length = ks.length
  ov : ∀ t ∈ ts, t.1 ∈ os
theorem r_check_terms {ts : List Tm} (T : Terms ks os ts) (hl : ks.length ≤ 30) : f_check_terms [ksD ks, ksD os, tsD ts] h = .ok .non h := by
  have ht : f_is_tuple_of [.tup (ts.map tmD), .int (ks.length : Int), .int (ks.length : Int)] h = .ok (.bl true) h := by
    rw [r_is_tuple_of]
    simp [T.len]
  rw [e_check_terms]
  simp [m_check_terms, tsD, ksD, ht]
  rw [← ksD, ← ksD]
  rw [lc_all trivial]
  · simp [trim_same]
  · intro d hd
    obtain ⟨t, hm, rfl⟩ := List.mem_map.mp hd
    exact ⟨_, rfl, by simp [wipeA, r_is_term_over (T.ov t hm)]⟩
  · simp
    have := T.len
    omega
/-- the term for a kind -/
def lk : List Str → List Tm → Str → Tm
  | k :: ks, t :: ts, x => if k = x then t else lk ks ts x
  | _, _, x => (x, true)
def tr (ks : List Str) (ts : List Tm) (t : Tm) : Tm := if t.2 = true then lk ks ts t.1 else flp (lk ks ts t.1)
def trS (ks : List Str) (ts : List Tm) (s : Sen) : Sen := ⟨s.w, tr ks ts s.a, tr ks ts s.b⟩
def trQ (ks : List Str) (ts : List Tm) : Qn → Qn
  | .one s => .one (trS ks ts s)
  | .many ss => .many (ss.map (trS ks ts))
/-- the table of the translations -/
def Tab (ks : List Str) (ts : List Tm) (tab : List (Q.D × Q.D)) : Prop := ∀ t : Tm, t.1 ∈ ks → dtGet tab (tmK t) = some (tmD (tr ks ts t))
theorem tkey_tm {t : Tm} : tkey (tmD t) = some (tmK t) := by
  unfold tkey tmD
  dsimp only
  exact if_pos (by simp [tmK, NestedKey.depth, NestedKey.depthAll])
theorem set_tm {tab : List (Q.D × Q.D)} {t : Tm} {v : Q.D} (hl : tab.length < 16777216) : dSet (.ref h.length) (tmD t) v (h ++ [.dt tab]) = some (h ++ [.dt (dtPut tab (tmD t) (tmK t) v)]) := by
  unfold dSet
  dsimp only
  rw [last_get]
  dsimp only
  rw [tkey_tm]
  dsimp only
  rw [if_pos hl, last_set]
theorem trim_dt {tab : List (Q.D × Q.D)} {bb : Bool} : trimR h bb (.ok (.ref h.length) (h ++ [.dt tab])) = .ok (.ref h.length) (h ++ [.dt tab]) := by
  rw [trimR_ok]
  have h1 : ¬ (h ++ [O.dt tab]).length = h.length := by simp
  have h2 : ¬ (okT h (h ++ [.dt tab]) ∧ closed h.length (.ref h.length) = true) := fun z => by simp [closed] at z
  rw [if_neg h1, if_neg h2]
  have h3 : froOf bb h.length (h ++ [.dt tab]) (.ref h.length) = none := by
    unfold froOf
    dsimp only
    split
    · unfold Q.listAt
      rw [last_get]
      rfl
    · rfl
  rw [h3]
theorem r_table_of {ts : List Tm} (K : Kinds ks) (hl : ts.length = ks.length) : ∃ tab, f_table_of [ksD ks, tsD ts] h = .ok (.ref h.length) (h ++ [.dt tab]) ∧ Tab ks ts tab := by
  have nd : ks.Nodup := K.asc.imp fun {a b} hab e => by
    subst e
    exact List.lt_irrefl _ (of_decide_eq_true hab)
  rw [e_table_of]
  simp [m_table_of, ksD, tsD]
  have hm := K.most
  obtain ⟨σ', tab, e, e1, e2⟩ := forL_inv (G := fun _ => True) (g := gTupD 2 (gsCons (gSlot 3) (gsCons (gSlot 4) gsNil))) (body := b_table_of_1)
    (R := fun o => ∃ σ' tab, o = .nx σ' (h ++ [.dt tab]) ∧ σ'[2]? = some (some (.ref h.length)) ∧ Tab ks ts tab)
    (fun ds σ h' => ∃ ks2 ts2 tab x y, ds = zipD (ks2.map .str) (ts2.map tmD) ∧ ts2.length = ks2.length ∧ (∀ k ∈ ks2, k ∈ ks) ∧ ks2.Nodup ∧ (∀ k ∈ ks2, lk ks2 ts2 k = lk ks ts k) ∧ (∀ t : Tm, t.1 ∈ ks → t.1 ∉ ks2 → dtGet tab (tmK t) = some (tmD (tr ks ts t))) ∧ tab.length + 2 * ks2.length ≤ 100 ∧
      σ = [some (.tup (ks.map .str)), some (.tup (ts.map tmD)), some (.ref h.length), x, y] ∧ h' = h ++ [.dt tab])
    (fun σ h' ⟨ks2, ts2, tab, x, y, e1, e2, e3, e4, e5, e6, e7, e8, e9⟩ => by
      cases ks2 with
      | cons k ks2 =>
        cases ts2 with
        | nil => cases e2
        | cons t ts2 => cases e1
      | nil => exact ⟨trivial, σ, tab, by rw [e9], by rw [e8]; rfl, fun t ht => e6 t ht (by simp)⟩)
    (fun d ds σ h' ⟨ks2, ts2, tab, x, y, e1, e2, e3, e4, e5, e6, e7, e8, e9⟩ => by
      cases ks2 with
      | nil => cases e1
      | cons k ks2 =>
        cases ts2 with
        | nil => cases e2
        | cons t ts2 =>
          cases e1
          subst e8 e9
          refine ⟨trivial, [some (.tup (ks.map .str)), some (.tup (ts.map tmD)), some (.ref h.length), some (.str k), some (tmD t)], h ++ [.dt tab], rfl, ?_⟩
          rw [List.length_cons] at e7
          have s1 : dSet (.ref h.length) (.tup [.str k, .bl true]) (tmD t) (h ++ [.dt tab]) = some (h ++ [.dt (dtPut tab (tmD (k, true)) (tmK (k, true)) (tmD t))]) := set_tm (h := h) (tab := tab) (t := (k, true)) (v := tmD t) (by omega)
          have l1 := length_dtPut tab (tmD (k, true)) (tmK (k, true)) (tmD t)
          have s2 : dSet (.ref h.length) (.tup [.str k, .bl false]) (tmD (flp t)) (h ++ [.dt (dtPut tab (tmD (k, true)) (tmK (k, true)) (tmD t))]) = some (h ++ [.dt (dtPut (dtPut tab (tmD (k, true)) (tmK (k, true)) (tmD t)) (tmD (k, false)) (tmK (k, false)) (tmD (flp t)))]) := set_tm (h := h) (tab := dtPut tab (tmD (k, true)) (tmK (k, true)) (tmD t)) (t := (k, false)) (v := tmD (flp t)) (by omega)
          have l2 := length_dtPut (dtPut tab (tmD (k, true)) (tmK (k, true)) (tmD t)) (tmD (k, false)) (tmK (k, false)) (tmD (flp t))
          rw [List.nodup_cons] at e4
          have lkk : lk ks ts k = t := by rw [← e5 k List.mem_cons_self]; simp [lk]
          have hb : b_table_of_1 [some (.tup (ks.map .str)), some (.tup (ts.map tmD)), some (.ref h.length), some (.str k), some (tmD t)] (h ++ [.dt tab])
              = .nx [some (.tup (ks.map .str)), some (.tup (ts.map tmD)), some (.ref h.length), some (.str k), some (tmD t)] (h ++ [.dt (dtPut (dtPut tab (tmD (k, true)) (tmK (k, true)) (tmD t)) (tmD (k, false)) (tmK (k, false)) (tmD (flp t)))]) := by
            simp [b_table_of_1, gSubD, s1, s2, r_flip]
          rw [hb]
          refine ⟨ks2, ts2, _, _, _, rfl, by simpa using e2, fun x m => e3 x (List.mem_cons_of_mem _ m), e4.2, fun x m => ?_, fun u hu hn => ?_, ?_, rfl, rfl⟩
          · rw [← e5 x (List.mem_cons_of_mem _ m)]
            have ne : ¬ k = x := fun z => e4.1 (z ▸ m)
            simp [lk, ne]
          · rw [dtGet_put (nk_tm _), dtGet_put (nk_tm _)]
            by_cases hk : u.1 = k
            · obtain ⟨u1, u2⟩ := u
              cases hk
              cases u2 with
              | true =>
                rw [if_neg (fun z => by simp [tmK] at z), if_pos rfl]
                simp [tr, lkk]
              | false =>
                rw [if_pos rfl]
                simp [tr, lkk]
            · rw [if_neg (fun z => hk (by simp [tmK] at z; exact z.1)), if_neg (fun z => hk (by simp [tmK] at z; exact z.1))]
              exact e6 u hu (fun z => (List.mem_cons.mp z).elim hk hn)
          · omega)
    (zipD (ks.map .str) (ts.map tmD)) [some (.tup (ks.map .str)), some (.tup (ts.map tmD)), some (.ref h.length), none, none] (h ++ [.dt []])
    ⟨ks, ts, [], none, none, rfl, hl, fun _ m => m, nd, fun _ _ => rfl, fun t m n => absurd m n, by simp; omega, rfl, rfl⟩
  have ev : ∀ h', eVar 2 σ' h' = .ok (.ref h.length) h' := fun h' => by
    unfold eVar
    rw [e1]
  refine ⟨tab, ?_, e2⟩
  rw [e]
  simp [ev]
  exact trim_dt
end P

namespace P
open PySem PySem.Spec PyProof.Rows L2 Q G
variable {h : AH} {i j k : Int} {s t : Str} {b : Bool} {ds : List Q.D} {ks os : List Str}
/-! ### translated -/
theorem ix_tab {tab : List (Q.D × Q.D)} {ts : List Tm} (T : Tab ks ts tab) {t : Tm} (m : t.1 ∈ ks) {g : AH} (n : Nat) (e : objAt g (.ref n) = some (.dt tab)) : dIx (.ref n) (tmD t) g = some (tmD (tr ks ts t), g) := by
  unfold dIx
  rw [e]
  dsimp only
  rw [tkey_tm]
  dsimp only
  rw [T t m]
  rfl
theorem clo_sns {n : Nat} : ∀ ss : List Sen, closeds n (ss.map snD) = true
  | [] => rfl
  | s :: ss => by rw [List.map_cons, closeds, clo_sn, clo_sns ss]; rfl
@[simp] theorem clo_qn {n : Nat} {q : Qn} : closed n (qnD q) = true := by
  cases q with
  | one s => rfl
  | many ss => rw [qnD, closed]; exact clo_sns ss
@[simp] theorem isi_tup_sn {s : Sen} : isiK "tuple" h (snD s) = .ok (.bl true) h := by simp [snD]
@[simp] theorem isi_str_sn {s : Sen} : isiK "str" h (snD s) = .ok (.bl false) h := by simp [snD]
theorem r_translated_by {tab : List (Q.D × Q.D)} {ts : List Tm} (T : Tab ks ts tab) {q : Qn} (O : OverQ ks q) {n : Nat} (e : objAt h (.ref n) = some (.dt tab)) : f_translated_by [.ref n, qnD q] h = .ok (qnD (trQ ks ts q)) h := by
  rw [e_translated_by]
  cases q with
  | one s =>
    have O : Over ks s := O
    simp [m_translated_by, qnD, trQ, ix_tab T O.a n e, ix_tab T O.b n e, trim_same]
    rfl
  | many ss =>
    obtain ⟨o1, o2, o3⟩ := O
    match ss, o1 with
    | s0 :: ss', _ =>
      simp [m_translated_by, qnD, trQ]
      rw [← List.map_cons (f := snD), lc_enc snD (fun s => snD (trS ks ts s)) trivial]
      · simp [trim_same, Function.comp_def]
      · intro s hs
        have O := o3 s hs
        refine ⟨_, rfl, ?_⟩
        simp [wipeA, ix_tab T O.a n e, ix_tab T O.b n e]
        rfl
      · simp at o2 ⊢
        omega
theorem r_translated {ts : List Tm} {q : Qn} (K : Kinds ks) (O : Kinds os) (T : Terms ks os ts) (Q : OverQ ks q) : f_translated [ksD ks, ksD os, tsD ts, qnD q] h = .ok (qnD (trQ ks ts q)) h := by
  obtain ⟨tab, et, tb⟩ := r_table_of (h := h) K T.len
  rw [e_translated]
  simp [m_translated, r_check_kinds K, r_check_kinds O, r_check_terms T K.most, r_check_question Q, et, r_translated_by tb Q last_obj]
  exact trim_drop rfl okT_app (by simp)
/-! ### what comes out is over the other kinds -/
theorem lk_mem : ∀ {ks : List Str} {ts : List Tm} {x : Str}, x ∈ ks → ts.length = ks.length → lk ks ts x ∈ ts
  | [], _, _, m, _ => by cases m
  | k :: ks, [], _, _, l => by cases l
  | k :: ks, t :: ts, x, m, l => by
    rw [lk]
    split
    · exact List.mem_cons_self
    · rename_i hn
      rcases List.mem_cons.mp m with e | m
      · exact absurd e.symm hn
      · exact List.mem_cons_of_mem _ (lk_mem m (by simpa using l))
theorem tr_over {ts : List Tm} (T : Terms ks os ts) {t : Tm} (m : t.1 ∈ ks) : (tr ks ts t).1 ∈ os := by
  have h1 := T.ov _ (lk_mem m T.len)
  unfold tr flp
  split <;> exact h1
theorem trS_over {ts : List Tm} (T : Terms ks os ts) {s : Sen} (O : Over ks s) : Over os (trS ks ts s) := ⟨O.w, tr_over T O.a, tr_over T O.b⟩
theorem trQ_over {ts : List Tm} (T : Terms ks os ts) {q : Qn} (O : OverQ ks q) : OverQ os (trQ ks ts q) := by
  cases q with
  | one s => exact trS_over T O
  | many ss =>
    obtain ⟨o1, o2, o3⟩ := O
    refine ⟨by simpa using o1, by simpa using o2, fun s hs => ?_⟩
    obtain ⟨s', hs', rfl⟩ := List.mem_map.mp hs
    exact trS_over T (o3 s' hs')
/-! ### books translated -/
def trE (ks : List Str) (ts : List Tm) (e : En) : En := (e.1, trS ks ts e.2)
theorem clo_ens {n : Nat} : ∀ es : List En, closeds n (es.map enD) = true
  | [] => rfl
  | s :: ss => by rw [List.map_cons, closeds, clo_en, clo_ens ss]; rfl
theorem clo_ks {n : Nat} : closed n (ksD ks) = true := by
  have : ∀ ks : List Str, closeds n (ks.map .str) = true := fun ks => by
    induction ks with
    | nil => rfl
    | cons k ks ih => rw [List.map_cons, closeds, ih]; rfl
  rw [ksD, closed]; exact this ks
theorem clo_bk {n : Nat} {es : List En} : closed n (bkD ks es) = true := by
  rw [bkD, closed, closeds, closeds, closeds, clo_ks, closed, clo_ens]; rfl
theorem r_translated_book {ts : List Tm} {es : List En} (B : Book ks es) (O : Kinds os) (T : Terms ks os ts) : f_translated_book [bkD ks es, ksD os, tsD ts] h = .ok (bkD os (ddp [] (es.map (trE ks ts)))) h := by
  obtain ⟨tab, et, tb⟩ := r_table_of (h := h) B.kinds T.len
  have hm := B.most
  rw [e_translated_book]
  simp [m_translated_book, r_check_book B, r_check_kinds O, r_check_terms T B.kinds.most, et]
  rw [lc_enc enD (fun e => enD (trE ks ts e)) trivial]
  · have hmb := r_made_book (h := h ++ [.dt tab]) (es := es.map (trE ks ts)) (x := ksD os) (by simpa using hm)
    rw [List.map_map] at hmb
    simp only [Function.comp_def] at hmb
    simp [hmb]
    exact trim_drop rfl okT_app clo_bk
  · intro e he
    have O := (B.ent e he).ov
    refine ⟨_, rfl, ?_⟩
    have := r_translated_by (h := h ++ [.dt tab]) tb (q := .one e.2) O last_obj
    simp only [qnD, trQ] at this
    simp [wipeA, this]
    rfl
  · omega
end P

namespace P
open PySem PySem.Spec PyProof.Rows L2 Q G
variable {h : AH} {i j k : Int} {s t : Str} {b : Bool} {ds : List Q.D} {ks os : List Str}
/-! ### _law_same -/
mutual
/-- its parts, if it is plain -/
def sz : Q.D → Nat
  | .tup ds => szs ds + 1
  | .fro ds => szs ds + 1
  | .scr ds => 1
  | .ref _ => 1
  | .non => 1
  | .bl _ => 1
  | .int _ => 1
  | .str _ => 1
def szs : List Q.D → Nat
  | [] => 0
  | d :: ds => sz d + szs ds
end
mutual
def pln : Q.D → Bool
  | .tup ds => plns ds
  | .fro ds => plns ds
  | .scr ds => false
  | .ref _ => false
  | .non => true
  | .bl _ => true
  | .int _ => true
  | .str _ => true
def plns : List Q.D → Bool
  | [] => true
  | d :: ds => pln d && plns ds
end
theorem sz_pos (d : Q.D) : 1 ≤ sz d := by cases d <;> simp [sz]
theorem szs_app : ∀ (as bs : List Q.D), szs (as ++ bs) = szs as + szs bs
  | [], bs => by simp [szs]
  | a :: as, bs => by rw [List.cons_append, szs, szs, szs_app as bs]; omega
theorem plns_app : ∀ (as bs : List Q.D), plns (as ++ bs) = (plns as && plns bs)
  | [], bs => by simp [plns]
  | a :: as, bs => by rw [List.cons_append, plns, plns, plns_app as bs, Bool.and_assoc]
theorem szs_len : ∀ (as : List Q.D), as.length ≤ szs as
  | [] => by simp [szs]
  | a :: as => by
    have := szs_len as
    have := sz_pos a
    rw [szs, List.length_cons]; omega
def dup (d : Q.D) : Q.D := .tup [d, d]
theorem range_dup {es : List Q.D} : (List.range es.length).map (fun i => match es[i]? with | some d => dup d | none => .non) = es.map dup := by
  apply List.ext_getElem?
  intro i
  by_cases hi : i < es.length
  · simp [hi]
  · simp [hi]
theorem dups_get {es : List Q.D} {i : Nat} : (es.map dup)[i]? = (es[i]?).map dup := by simp
@[simp] theorem run_dup {gs : List Q.D → AS → AH → Option (AS × AH)} {d : Q.D} {σ : AS} : gTupD 2 gs (dup d) σ h = gs [d, d] σ h := rfl
theorem r_law_same_go {a c : Q.D} (N : Nat) (hN : N ≤ 2000000) (ds0 : List Q.D) (h0 : szs ds0 < N) (hp : plns ds0 = true) : ∃ σ', forL (fun _ => True) (gSlot 3) b_n__law_same_1 (rangeD 0 N) [some a, some c, some (.ref h.length), none, none, none, none] (h ++ [.lst (ds0.map dup)]) = .rt (.bl true) (h ++ [.lst []]) ∧ σ' = (0 : Nat) := by
  refine ⟨0, ?_, rfl⟩
  refine forL_inv (R := fun o => o = .rt (.bl true) (h ++ [.lst []]))
    (fun ds σ h' => ∃ (stk : List Q.D) (x1 x2 x3 x4 : Option Q.D), szs stk < ds.length ∧ ds.length ≤ 2000000 ∧ plns stk = true ∧ σ = [some a, some c, some (.ref h.length), x1, x2, x3, x4] ∧ h' = h ++ [.lst (stk.map dup)])
    (fun σ h' ⟨stk, x1, x2, x3, x4, e1, _⟩ => by simp at e1) (fun d ds σ h' ⟨stk, x1, x2, x3, x4, e1, e2, e3, e4, e5⟩ => ?_) _ _ _ ⟨ds0, none, none, none, none, by simpa using h0, by simpa using hN, hp, rfl, rfl⟩
  subst e4 e5
  refine ⟨trivial, [some a, some c, some (.ref h.length), some d, x2, x3, x4], h ++ [.lst (stk.map dup)], rfl, ?_⟩
  rw [List.length_cons] at e1 e2
  rcases List.eq_nil_or_concat stk with rfl | ⟨init, e, rfl⟩
  · simp [b_n__law_same_1, len_ref last_list]
  · rw [List.concat_eq_append] at e1 e3 ⊢
    rw [szs_app, szs, szs] at e1
    rw [plns_app, plns, plns, Bool.and_true, Bool.and_eq_true] at e3
    have hpop : mPop (.ref h.length) [] (h ++ [.lst ((init ++ [e]).map dup)]) = some (dup e, h ++ [.lst (init.map dup)]) := by
      unfold mPop
      simp
    have hist : isT "list" (h ++ [.lst ((init ++ [e]).map dup)]) (.ref h.length) = true := by
      simp [isT, lsq]
    have hlen := len_ref (h := h ++ [.lst ((init ++ [e]).map dup)]) (n := h.length) last_list
    have hne : ¬ ((init.length : Int) + 1 = 0) := by omega
    simp only [List.map_append, List.map_cons, List.map_nil] at hpop hist hlen ⊢
    have hs := szs_len init
    have hse := sz_pos e
    have fin : ∀ o : Out, o = .nx [some a, some c, some (.ref h.length), some d, some e, some e, x4] (h ++ [.lst (init.map dup)]) → (match o with
      | .nx σ2 h2 => ∃ (stk : List Q.D) (x1 x2 x3 x4 : Option Q.D), szs stk < ds.length ∧ ds.length ≤ 2000000 ∧ plns stk = true ∧ σ2 = [some a, some c, some (.ref h.length), x1, x2, x3, x4] ∧ h2 = h ++ [.lst (stk.map dup)]
      | .ct σ2 h2 => ∃ (stk : List Q.D) (x1 x2 x3 x4 : Option Q.D), szs stk < ds.length ∧ ds.length ≤ 2000000 ∧ plns stk = true ∧ σ2 = [some a, some c, some (.ref h.length), x1, x2, x3, x4] ∧ h2 = h ++ [.lst (stk.map dup)]
      | .bk σ2 h2 => Out.nx σ2 h2 = .rt (.bl true) (h ++ [.lst []])
      | r => r = .rt (.bl true) (h ++ [.lst []])) := fun o eo => by
      rw [eo]
      exact ⟨init, some d, some e, some e, x4, by omega, by omega, e3.1, rfl, rfl⟩
    cases e with
    | ref _ => exact absurd e3.2 (by simp [pln])
    | scr _ => exact absurd e3.2 (by simp [pln])
    | non => exact fin _ (by simp [b_n__law_same_1, hlen, hne, hist, hpop, isNonD])
    | bl b => exact fin _ (by simp [b_n__law_same_1, hlen, hne, hist, hpop])
    | int b => exact fin _ (by simp [b_n__law_same_1, hlen, hne, hist, hpop])
    | str b => exact fin _ (by simp [b_n__law_same_1, hlen, hne, hist, hpop])
    | tup es =>
      rw [sz] at e1
      rw [pln] at e3
      have hl2 := szs_len es
      have hext : mExtend (.ref h.length) [.fro (es.map dup)] (h ++ [.lst (init.map dup)]) = some (.non, h ++ [.lst ((init ++ es).map dup)]) := by
        unfold mExtend
        dsimp only
        rw [last_list, show lchg (h ++ [.lst (init.map dup)]) (.fro (es.map dup)) = some (es.map dup) from rfl]
        dsimp only
        rw [if_pos (by simp; omega), last_set, List.map_append]
      have hist2 : isT "list" (h ++ [.lst (init.map dup)]) (.ref h.length) = true := by
        simp [isT, lsq]
      have hb : b_n__law_same_1 [some a, some c, some (.ref h.length), some d, x2, x3, x4] (h ++ [.lst (init.map dup ++ [dup (.tup es)])]) = .nx [some a, some c, some (.ref h.length), some d, some (.tup es), some (.tup es), x4] (h ++ [.lst ((init ++ es).map dup)]) := by
        have hr : rngK (.int (es.length : Int)) (h ++ [.lst (init.map dup)]) = .ok (rangeD 0 es.length, fun _ => True) (h ++ [.lst (init.map dup)]) := rngK_of (by omega) (by omega)
        simp -implicitDefEqProofs [b_n__law_same_1, hlen, hne, hist, hpop, hist2, hr]
        rw [rangeD, lc_enc (fun i : Nat => .int (0 + (i : Int))) (fun i => match es[i]? with | some d => dup d | none => .non) trivial]
        · rw [range_dup]
          have hlt : (es.length : Int) < 4611686018427387904 := by omega
          simp [hext, hlt]
        · intro i hi
          have hi' : i < es.length := List.mem_range.mp hi
          refine ⟨_, rfl, ?_⟩
          have ha : atI es (i : Int) = some es[i] := atI_n (List.getElem?_eq_getElem hi')
          simp [wipeA, ha, hi']
          rfl
        · simp
          omega
      rw [hb]
      exact ⟨init ++ es, some d, some (.tup es), some (.tup es), x4, by rw [szs_app]; omega, by omega, by rw [plns_app, e3.1, e3.2]; rfl, rfl, rfl⟩
    | fro es =>
      rw [sz] at e1
      rw [pln] at e3
      have hl2 := szs_len es
      have hext : mExtend (.ref h.length) [.fro (es.map dup)] (h ++ [.lst (init.map dup)]) = some (.non, h ++ [.lst ((init ++ es).map dup)]) := by
        unfold mExtend
        dsimp only
        rw [last_list, show lchg (h ++ [.lst (init.map dup)]) (.fro (es.map dup)) = some (es.map dup) from rfl]
        dsimp only
        rw [if_pos (by simp; omega), last_set, List.map_append]
      have hist2 : isT "list" (h ++ [.lst (init.map dup)]) (.ref h.length) = true := by
        simp [isT, lsq]
      have hb : b_n__law_same_1 [some a, some c, some (.ref h.length), some d, x2, x3, x4] (h ++ [.lst (init.map dup ++ [dup (.fro es)])]) = .nx [some a, some c, some (.ref h.length), some d, some (.fro es), some (.fro es), x4] (h ++ [.lst ((init ++ es).map dup)]) := by
        have hr : rngK (.int (es.length : Int)) (h ++ [.lst (init.map dup)]) = .ok (rangeD 0 es.length, fun _ => True) (h ++ [.lst (init.map dup)]) := rngK_of (by omega) (by omega)
        simp -implicitDefEqProofs [b_n__law_same_1, hlen, hne, hist, hpop, hist2, hr]
        rw [rangeD, lc_enc (fun i : Nat => .int (0 + (i : Int))) (fun i => match es[i]? with | some d => dup d | none => .non) trivial]
        · rw [range_dup]
          have hlt : (es.length : Int) < 4611686018427387904 := by omega
          simp [hext, hlt]
        · intro i hi
          have hi' : i < es.length := List.mem_range.mp hi
          refine ⟨_, rfl, ?_⟩
          have ha : atI es (i : Int) = some es[i] := atI_n (List.getElem?_eq_getElem hi')
          simp [wipeA, ha, hi']
          rfl
        · simp
          omega
      rw [hb]
      exact ⟨init ++ es, some d, some (.fro es), some (.fro es), x4, by rw [szs_app]; omega, by omega, by rw [plns_app, e3.1, e3.2]; rfl, rfl, rfl⟩
theorem r_law_same {d : Q.D} (h0 : sz d < 2000000) (hp : pln d = true) : f_n__law_same [d, d] h = .ok (.bl true) h := by
  obtain ⟨N, hr, hN⟩ : ∃ N : Nat, (∀ g, rngK (.int 2000000) g = .ok (rangeD 0 N, fun _ => True) g) ∧ N = 2000000 := ⟨Int.toNat 2000000, fun g => rngK_of (by decide) (by decide), rfl⟩
  obtain ⟨_, e, _⟩ := r_law_same_go (h := h) (a := d) (c := d) N (by omega) [d] (by rw [szs, szs]; omega) (by simpa [plns] using hp)
  rw [e_n__law_same]
  simp only [List.map_cons, List.map_nil] at e
  have e' : forL (fun _ => True) (gSlot 3) b_n__law_same_1 (rangeD 0 N) [some d, some d, some (.ref h.length), none, none, none, none] (h ++ [.lst [.tup [d, d]]]) = .rt (.bl true) (h ++ [.lst []]) := e
  clear hN
  simp -implicitDefEqProofs [m_n__law_same, hr, e']
  exact trim_drop rfl okT_app rfl
end P

namespace P
open PySem PySem.Spec PyProof.Rows L2 Q G
variable {h g : AH} {i j k : Int} {s t : Str} {b : Bool} {ds : List Q.D} {ks os : List Str}
/-! ### the stream -/
def So (cells : List Int) (c k : Int) : O := .lst [.fro (cells.map .int), .int c, .int k]
def Ok (N : Nat) (o : O) : Prop := ∃ cells c k, o = So cells c k ∧ 0 ≤ c ∧ c < 10 ^ 62 ∧ 0 ≤ k ∧ k + N ≤ 1000000000
theorem Ok.mono {N M : Nat} {o : O} (h : Ok N o) (l : M ≤ N) : Ok M o := by
  obtain ⟨cells, c, k, e, a1, a2, a3, a4⟩ := h
  exact ⟨cells, c, k, e, a1, a2, a3, by omega⟩
theorem small_pow {i : Int} (h0 : 0 ≤ i) (h1 : i < 10 ^ 70) : i.natAbs < 2 ^ 4000 := by
  have h2 : i.natAbs < 2 ^ 250 := by omega
  exact Nat.lt_of_lt_of_le h2 (Nat.pow_le_pow_right (by omega) (by omega))
theorem mul_ok (h0 : 0 ≤ i) (h1 : i < 10 ^ 70) (h2 : 0 ≤ j) (h3 : j < 10 ^ 70) : dMul (.int i) (.int j) h = some (.int (i * j), h) := if_pos ⟨small_pow h0 h1, small_pow h2 h3⟩
theorem div_ok (h2 : 0 < j) (h3 : j < 10 ^ 70) : dDiv (.int i) (.int j) h = some (.int (i / j), h) := if_pos ⟨h2, small_pow (by omega) h3⟩
theorem mod_ok (h2 : 0 < j) : dMod (.int i) (.int j) h = some (.int (i % j), h) := if_pos h2
theorem pow_ok {n : Nat} (h1 : n ≤ 1000) : dPow (.int 10) (.int n) h = some (.int (10 ^ n), h) := by
  have : dPow (.int 10) (.int n) h = some (.int (10 ^ (n : Int).toNat), h) := if_pos ⟨by omega, by omega, by decide⟩
  rw [this, Int.toNat_natCast]
theorem ix_so {cells : List Int} {c k : Int} {n : Int} : dIx (.ref 0) (.int n) (So cells c k :: g) = (atI [Q.D.fro (cells.map .int), .int c, .int k] n).map fun d => (d, So cells c k :: g) := ix_ref rfl
theorem set_so1 {cells : List Int} {c k : Int} {v : Q.D} : dSet (.ref 0) (.int 1) v (So cells c k :: g) = some (.lst [.fro (cells.map .int), v, .int k] :: g) := rfl
theorem set_so2 {cells : List Int} {c k : Int} {v : Q.D} : dSet (.ref 0) (.int 2) v (So cells c k :: g) = some (.lst [.fro (cells.map .int), .int c, v] :: g) := rfl
theorem eq_so {cells : List Int} {c k : Int} : O.lst [.fro (cells.map .int), .int c, .int k] = So cells c k := rfl
/-- numbers mixed -/
def mix (x k : Int) : Int := let y := (x * 48271 + k * 69621 + 11) % 2147483647
  (y * 16807 + 13) % 2147483647 * 65537 + y
theorem mix_lo {x k : Int} : 0 ≤ mix x k := by
  unfold mix
  have h1 := Int.emod_nonneg (x * 48271 + k * 69621 + 11) (b := 2147483647) (by omega)
  have h2 := Int.emod_nonneg ((x * 48271 + k * 69621 + 11) % 2147483647 * 16807 + 13) (b := 2147483647) (by omega)
  dsimp only
  omega
theorem mix_hi {x k : Int} : mix x k < 10 ^ 62 := by
  unfold mix
  have h1 := Int.emod_lt_of_pos (x * 48271 + k * 69621 + 11) (b := 2147483647) (by omega)
  have h2 := Int.emod_lt_of_pos ((x * 48271 + k * 69621 + 11) % 2147483647 * 16807 + 13) (b := 2147483647) (by omega)
  dsimp only
  omega
theorem r_next {N : Nat} {o : O} {m : Int} (O : Ok (N + 1) o) (hm : 0 < m) (hm2 : m < 10 ^ 70) : ∃ r o', f_n__law_next [.ref 0, .int m] (o :: g) = .ok (.int r) (o' :: g) ∧ 0 ≤ r ∧ r < m ∧ Ok N o' := by
  obtain ⟨cells, c, k, rfl, a1, a2, a3, a4⟩ := O
  rw [e_n__law_next]
  have fin : ∀ c' k' : Int, 0 ≤ c' → c' < 10 ^ 62 → 0 ≤ k' → k' + (N : Int) ≤ 1000000000 → ∃ r o', (Res.ok (.int (c' % m)) (So cells (c' / m) k' :: g) : Res Q.D) = .ok (.int r) (o' :: g) ∧ 0 ≤ r ∧ r < m ∧ Ok N o' := fun c' k' b1 b2 b3 b4 => by
    refine ⟨c' % m, So cells (c' / m) k', rfl, Int.emod_nonneg _ (by omega), Int.emod_lt_of_pos _ hm, cells, c' / m, k', rfl, Int.ediv_nonneg b1 (by omega), ?_, b3, b4⟩
    have := Int.ediv_le_self m b1
    omega
  by_cases hc : c = 0
  · subst hc
    obtain ⟨P60, hP⟩ : ∃ P : Int, P = 10 ^ 60 := ⟨_, rfl⟩
    obtain ⟨P18, hQ⟩ : ∃ P : Int, P = 10 ^ 18 := ⟨_, rfl⟩
    have p60 : ∀ g, dPow (.int 10) (.int 60) g = some (.int P60, g) := fun g => hP ▸ pow_ok (n := 60) (by omega)
    have p18 : ∀ g, dPow (.int 10) (.int 18) g = some (.int P18, g) := fun g => hQ ▸ pow_ok (n := 18) (by omega)
    have pp : 0 < P60 := by omega
    have mk : ∀ g, dMul (.int k) (.int 69621) g = some (.int (k * 69621), g) := fun g => mul_ok a3 (by omega) (by omega) (by omega)
    have big : (0 : Int) < 2147483647 := by omega
    by_cases hl : k < cells.length
    · obtain ⟨d, ed, at1⟩ := atI_i (xs := cells.map Q.D.int) a3 (by simpa using hl)
      obtain ⟨x, hx, rfl⟩ : ∃ x, cells[k.toNat]? = some x ∧ d = .int x := by
        rw [List.getElem?_map] at ed
        obtain ⟨x, h1, h2⟩ := Option.map_eq_some_iff.mp ed
        exact ⟨x, h1, h2.symm⟩
      obtain ⟨z, hz⟩ : ∃ z : Int, z = (if x < 0 then -x else x) := ⟨_, rfl⟩
      have habs : ∀ g, gAbs [.int x] g = some (.int z, g) := fun g => hz ▸ abs_int
      obtain ⟨y, hy⟩ : ∃ y : Int, y = z % P60 := ⟨_, rfl⟩
      have hmod : ∀ g, dMod (.int z) (.int P60) g = some (.int y, g) := fun g => hy ▸ mod_ok pp
      have y0 : 0 ≤ y := hy ▸ Int.emod_nonneg _ (by omega)
      have y1 : y < 10 ^ 60 := by
        have := Int.emod_lt_of_pos z pp
        omega
      clear hy hz
      have my : ∀ g, dMul (.int y) (.int 48271) g = some (.int (y * 48271), g) := fun g => mul_ok y0 (by omega) (by omega) (by omega)
      by_cases hs : y < P18
      · obtain ⟨w, hw⟩ : ∃ w : Int, w = (y * 48271 + k * 69621 + 11) % 2147483647 := ⟨_, rfl⟩
        have hwm : ∀ g, dMod (.int (y * 48271 + k * 69621 + 11)) (.int 2147483647) g = some (.int w, g) := fun g => hw ▸ mod_ok big
        have w0 : 0 ≤ w := hw ▸ Int.emod_nonneg _ (by omega)
        have w1 : w < 2147483647 := hw ▸ Int.emod_lt_of_pos _ big
        clear hw
        obtain ⟨u, hu⟩ : ∃ u : Int, u = (w * 16807 + 13) % 2147483647 := ⟨_, rfl⟩
        have hum : ∀ g, dMod (.int (w * 16807 + 13)) (.int 2147483647) g = some (.int u, g) := fun g => hu ▸ mod_ok big
        have u0 : 0 ≤ u := hu ▸ Int.emod_nonneg _ (by omega)
        have u1 : u < 2147483647 := hu ▸ Int.emod_lt_of_pos _ big
        clear hu
        have mw : ∀ g, dMul (.int w) (.int 16807) g = some (.int (w * 16807), g) := fun g => mul_ok w0 (by omega) (by omega) (by omega)
        have mu : ∀ g, dMul (.int u) (.int 65537) g = some (.int (u * 65537), g) := fun g => mul_ok u0 (by omega) (by omega) (by omega)
        have e : trimR (So cells 0 k :: g) true (retOf (m_n__law_next [some (.ref 0), some (.int m), none, none, none] (So cells 0 k :: g))) = .ok (.int ((u * 65537 + w) % m)) (So cells ((u * 65537 + w) / m) (k + 1) :: g) := by
          simp -implicitDefEqProofs [-abs_int, -run_dInt, m_n__law_next, ix_so, mod_ok hm, div_ok hm hm2, gSubD, set_so1, set_so2, p60, p18, hl, at1, habs, hmod, hs, eq_so, my, mk, hwm, hum, mw, mu]
          exact trim_same rfl
        rw [e]
        exact fin (u * 65537 + w) (k + 1) (by omega) (by omega) (by omega) (by omega)
      · have e : trimR (So cells 0 k :: g) true (retOf (m_n__law_next [some (.ref 0), some (.int m), none, none, none] (So cells 0 k :: g))) = .ok (.int (y % m)) (So cells (y / m) (k + 1) :: g) := by
          simp -implicitDefEqProofs [-abs_int, -run_dInt, m_n__law_next, ix_so, mod_ok hm, div_ok hm hm2, gSubD, set_so1, set_so2, p60, p18, hl, at1, habs, hmod, hs, eq_so]
          exact trim_same rfl
        rw [e]
        exact fin y (k + 1) y0 (by omega) (by omega) (by omega)
    · obtain ⟨y, hy⟩ : ∃ y : Int, y = 7 + k := ⟨_, rfl⟩
      have hplus : ∀ g, dPlus (.int 7) (.int k) g = some (.int y, g) := fun g => hy ▸ plus_int
      have y0 : 0 ≤ y := by omega
      have y1 : y < 10 ^ 60 := by omega
      clear hy
      have my : ∀ g, dMul (.int y) (.int 48271) g = some (.int (y * 48271), g) := fun g => mul_ok y0 (by omega) (by omega) (by omega)
      by_cases hs : y < P18
      · obtain ⟨w, hw⟩ : ∃ w : Int, w = (y * 48271 + k * 69621 + 11) % 2147483647 := ⟨_, rfl⟩
        have hwm : ∀ g, dMod (.int (y * 48271 + k * 69621 + 11)) (.int 2147483647) g = some (.int w, g) := fun g => hw ▸ mod_ok big
        have w0 : 0 ≤ w := hw ▸ Int.emod_nonneg _ (by omega)
        have w1 : w < 2147483647 := hw ▸ Int.emod_lt_of_pos _ big
        clear hw
        obtain ⟨u, hu⟩ : ∃ u : Int, u = (w * 16807 + 13) % 2147483647 := ⟨_, rfl⟩
        have hum : ∀ g, dMod (.int (w * 16807 + 13)) (.int 2147483647) g = some (.int u, g) := fun g => hu ▸ mod_ok big
        have u0 : 0 ≤ u := hu ▸ Int.emod_nonneg _ (by omega)
        have u1 : u < 2147483647 := hu ▸ Int.emod_lt_of_pos _ big
        clear hu
        have mw : ∀ g, dMul (.int w) (.int 16807) g = some (.int (w * 16807), g) := fun g => mul_ok w0 (by omega) (by omega) (by omega)
        have mu : ∀ g, dMul (.int u) (.int 65537) g = some (.int (u * 65537), g) := fun g => mul_ok u0 (by omega) (by omega) (by omega)
        have e : trimR (So cells 0 k :: g) true (retOf (m_n__law_next [some (.ref 0), some (.int m), none, none, none] (So cells 0 k :: g))) = .ok (.int ((u * 65537 + w) % m)) (So cells ((u * 65537 + w) / m) (k + 1) :: g) := by
          simp -implicitDefEqProofs [-abs_int, -run_dInt, m_n__law_next, ix_so, mod_ok hm, div_ok hm hm2, gSubD, set_so1, set_so2, p60, p18, hl, hplus, hs, eq_so, my, mk, hwm, hum, mw, mu]
          exact trim_same rfl
        rw [e]
        exact fin (u * 65537 + w) (k + 1) (by omega) (by omega) (by omega) (by omega)
      · have e : trimR (So cells 0 k :: g) true (retOf (m_n__law_next [some (.ref 0), some (.int m), none, none, none] (So cells 0 k :: g))) = .ok (.int (y % m)) (So cells (y / m) (k + 1) :: g) := by
          simp -implicitDefEqProofs [-abs_int, -run_dInt, m_n__law_next, ix_so, mod_ok hm, div_ok hm hm2, gSubD, set_so1, set_so2, p60, p18, hl, hplus, hs, eq_so]
          exact trim_same rfl
        rw [e]
        exact fin y (k + 1) y0 (by omega) (by omega) (by omega)
  · have e : trimR (So cells c k :: g) true (retOf (m_n__law_next [some (.ref 0), some (.int m), none, none, none] (So cells c k :: g))) = .ok (.int (c % m)) (So cells (c / m) k :: g) := by
      simp -implicitDefEqProofs [m_n__law_next, ix_so, hc, mod_ok hm, div_ok hm hm2, gSubD, set_so1]
      exact trim_same rfl
    rw [e]
    exact fin c k a1 a2 a3 (by omega)
end P

namespace P
open PySem PySem.Spec PyProof.Rows L2 Q G
variable {h g : AH} {i j k : Int} {s t : Str} {b : Bool} {ds : List Q.D} {ks os : List Str} {N : Nat} {o : O}
theorem r_stream {ns : List Int} (hl : ns.length ≤ 63) : f_n__law_stream [.scr (ns.map .int)] [] = .ok (.ref 0) [So ns 0 0] := by
  rw [e_n__law_stream]
  simp -implicitDefEqProofs [m_n__law_stream]
  exact trim_keep rfl
theorem ok_start {ns : List Int} : Ok 1000000000 (So ns 0 0) := ⟨ns, 0, 0, rfl, by omega, by omega, by omega, by omega⟩
/-- rows that can be picked from -/
structure Rows (g : AH) (x : Q.D) (ds : List Q.D) : Prop where
  len : ∀ o, gLen [x] (o :: g) = some (.int ds.length, o :: g)
  ix : ∀ o i, dIx x (.int i) (o :: g) = (atI ds i).map fun d => (d, o :: g)
  pos : 0 < ds.length
  most : ds.length ≤ 1000000
theorem Rows.tup (h0 : 0 < ds.length) (h1 : ds.length ≤ 1000000) : Rows g (.tup ds) ds := ⟨fun _ => rfl, fun _ _ => rfl, h0, h1⟩
theorem Rows.fro (h0 : 0 < ds.length) (h1 : ds.length ≤ 1000000) : Rows g (.fro ds) ds := ⟨fun _ => rfl, fun _ _ => rfl, h0, h1⟩
theorem r_pick {x : Q.D} (R : Rows g x ds) (O : Ok (N + 1) o) : ∃ d o', f_n__law_pick [.ref 0, x] (o :: g) = .ok d (o' :: g) ∧ d ∈ ds ∧ Ok N o' := by
  have h0 := R.pos
  have h1 := R.most
  obtain ⟨r, o', e, r0, r1, O'⟩ := r_next (g := g) O (m := (ds.length : Int)) (by omega) (by omega)
  obtain ⟨d, ed, at1⟩ := atI_i (xs := ds) r0 r1
  refine ⟨d, o', ?_, List.mem_of_getElem? ed, O'⟩
  rw [e_n__law_pick]
  simp -implicitDefEqProofs [m_n__law_pick, R.len, e, R.ix, at1]
  exact trim_same rfl
theorem r_bit (O : Ok (N + 1) o) : ∃ b o', f_n__law_bit [.ref 0] (o :: g) = .ok (.bl b) (o' :: g) ∧ Ok N o' := by
  obtain ⟨r, o', e, r0, r1, O'⟩ := r_next (g := g) O (m := 2) (by omega) (by omega)
  refine ⟨decide (r = 1), o', ?_, O'⟩
  rw [e_n__law_bit]
  simp -implicitDefEqProofs [m_n__law_bit, e]
  exact trim_same rfl
theorem r_law_flip {t : Tm} : f_n__law_flip [tmD t] h = .ok (tmD (flp t)) h := by
  rw [e_n__law_flip]
  simp -implicitDefEqProofs [m_n__law_flip, flp]
  exact trim_same rfl
/-! ### sentences drawn -/
theorem r_sentence (hk : 0 < ks.length) (hk2 : ks.length ≤ 1000) (O : Ok (N + 8) o) : ∃ s o', f_n__law_sentence [.ref 0, ksD ks] (o :: g) = .ok (snD s) (o' :: g) ∧ Over ks s ∧ Ok N o' := by
  rw [e_n__law_sentence]
  obtain ⟨d1, o1, e1, m1, O1⟩ := r_pick (g := g) (ds := [.str "all", .str "some", .str "more", .str "many"]) (Rows.fro (by simp) (by simp)) O
  obtain ⟨w, hw, rfl⟩ : ∃ w ∈ WD, d1 = .str w := by
    simp only [List.mem_cons, List.not_mem_nil, or_false] at m1
    rcases m1 with rfl | rfl | rfl | rfl
    · exact ⟨_, by simp [WD], rfl⟩
    · exact ⟨_, by simp [WD], rfl⟩
    · exact ⟨_, by simp [WD], rfl⟩
    · exact ⟨_, by simp [WD], rfl⟩
  have RK : Rows g (ksD ks) (ks.map .str) := Rows.tup (by simpa using hk) (by simp; omega)
  obtain ⟨d2, o2, e2, m2, O2⟩ := r_pick RK O1
  obtain ⟨a, ha, rfl⟩ := List.mem_map.mp m2
  obtain ⟨a2, o3, e3, O3⟩ := r_bit (g := g) O2
  obtain ⟨d4, o4, e4, m4, O4⟩ := r_pick RK O3
  obtain ⟨c, hc, rfl⟩ := List.mem_map.mp m4
  obtain ⟨c2, o5, e5, O5⟩ := r_bit (g := g) O4
  obtain ⟨r, o6, e6, _, _, O6⟩ := r_next (g := g) O5 (m := 5) (by omega) (by omega)
  obtain ⟨c3, o7, e7, O7⟩ := r_bit (g := g) O6
  by_cases hr : r = 0
  · refine ⟨⟨w, (a, a2), (a, c3)⟩, o7, ?_, ⟨hw, ha, ha⟩, O7.mono (by omega)⟩
    simp -implicitDefEqProofs [m_n__law_sentence, e1, e2, e3, e4, e5, e6, e7, hr]
    exact trim_same rfl
  · refine ⟨⟨w, (a, a2), (c, c2)⟩, o6, ?_, ⟨hw, ha, hc⟩, O6.mono (by omega)⟩
    simp -implicitDefEqProofs [m_n__law_sentence, e1, e2, e3, e4, e5, e6, hr]
    exact trim_same rfl
end P

namespace P
open PySem PySem.Spec PyProof.Rows L2 Q G
variable {h g : AH} {i j k : Int} {s t : Str} {b : Bool} {ds : List Q.D} {ks os : List Str} {N : Nat} {o : O}
/-! ### kinds drawn -/
def lowB (c : Nat) : Bool := decide (97 ≤ c) && decide (c ≤ 122)
def digB (c : Nat) : Bool := decide (48 ≤ c) && decide (c ≤ 57)
theorem lowB_ok {c : Nat} (h : lowB c = true) : low c := by
  simp only [lowB, Bool.and_eq_true, decide_eq_true_eq] at h; exact h
theorem digB_ok {c : Nat} (h : digB c = true) : dig c := by
  simp only [digB, Bool.and_eq_true, decide_eq_true_eq] at h; exact h
def kindB (s : Str) : Bool := decide (s.cps.size ≤ 12) && (match s.cps.toList with
  | c :: _ => lowB c
  | [] => false) && s.cps.toList.all fun c => lowB c || digB c
theorem kindB_ok (h : kindB s = true) : Kind s := by
  unfold kindB at h
  rw [Bool.and_eq_true, Bool.and_eq_true] at h
  obtain ⟨⟨h1, h2⟩, h3⟩ := h
  refine ⟨of_decide_eq_true h1, ?_, fun c hc => ?_⟩
  · split at h2
    · rename_i c r e
      exact ⟨c, r, e, lowB_ok h2⟩
    · cases h2
  · have := List.all_eq_true.mp h3 c hc
    rw [Bool.or_eq_true] at this
    exact this.imp lowB_ok digB_ok
theorem cps_app {s t : Str} : (s ++ t).cps.toList = s.cps.toList ++ t.cps.toList := by
  show (s.cps ++ t.cps).toList = _
  simp
theorem size_app {s t : Str} : (s ++ t).cps.size = s.cps.size + t.cps.size := by
  rw [← Array.length_toList, cps_app, List.length_append, Array.length_toList, Array.length_toList]
def AZ : Str := "abcdefghijklmnopqrstuvwxyz"
def AZ9 : Str := "abcdefghijklmnopqrstuvwxyz0123456789"
theorem az_low : ∀ c ∈ AZ.cps.toList, low c := fun c hc => lowB_ok (List.all_eq_true.mp (show AZ.cps.toList.all lowB = true by decide +kernel) c hc)
theorem az9_ok : ∀ c ∈ AZ9.cps.toList, low c ∨ dig c := fun c hc => by
  have := List.all_eq_true.mp (show (AZ9.cps.toList.all fun c => lowB c || digB c) = true by decide +kernel) c hc
  rw [Bool.or_eq_true] at this
  exact this.imp lowB_ok digB_ok
theorem az_len : AZ.cps.toList.length = 26 := by decide +kernel
theorem az9_len : AZ9.cps.toList.length = 36 := by decide +kernel
theorem ix_az (h0 : 0 ≤ i) (h1 : i < 26) : ∃ c, low c ∧ ∀ h, dIx (.str "abcdefghijklmnopqrstuvwxyz") (.int i) h = some (.str ⟨#[c]⟩, h) := by
  obtain ⟨c, ec, at1⟩ := atI_i (xs := AZ.cps.toList) h0 (by rw [az_len]; omega)
  refine ⟨c, az_low c (List.mem_of_getElem? ec), fun h => ?_⟩
  show dIx (.str AZ) (.int i) h = _
  rw [ix_str'' (by decide +kernel), at1]
  rfl
theorem ix_az9 (h0 : 0 ≤ i) (h1 : i < 36) : ∃ c, (low c ∨ dig c) ∧ ∀ h, dIx (.str "abcdefghijklmnopqrstuvwxyz0123456789") (.int i) h = some (.str ⟨#[c]⟩, h) := by
  obtain ⟨c, ec, at1⟩ := atI_i (xs := AZ9.cps.toList) h0 (by rw [az9_len]; omega)
  refine ⟨c, az9_ok c (List.mem_of_getElem? ec), fun h => ?_⟩
  show dIx (.str AZ9) (.int i) h = _
  rw [ix_str'' (by decide +kernel), at1]
  rfl
theorem Kind.snoc (K : Kind s) {c : Nat} (hc : low c ∨ dig c) (hl : s.cps.size < 12) : Kind (s ++ ⟨#[c]⟩) := by
  obtain ⟨d, r, e, hd⟩ := K.fst
  refine ⟨by rw [size_app]; show s.cps.size + 1 ≤ 12; omega, ⟨d, r ++ [c], by rw [cps_app, e]; rfl, hd⟩, fun x hx => ?_⟩
  rw [cps_app] at hx
  rcases List.mem_append.mp hx with hx | hx
  · exact K.all x hx
  · rw [show x = c by simpa using hx]; exact hc
theorem Kind.one {c : Nat} (hc : low c) : Kind ⟨#[c]⟩ := ⟨by show 1 ≤ 12; omega, ⟨c, [], rfl, hc⟩, fun x hx => .inl (by rw [show x = c by simpa using hx]; exact hc)⟩
def TX : Str := "all some more many none half only not than equal world sort kinds plain a b z a0 az"
theorem tx_kinds : ∀ s ∈ Txt.split TX " ", Kind s := fun s hs => kindB_ok (List.all_eq_true.mp (show (Txt.split TX " ").all kindB = true by decide +kernel) s hs)
theorem tx_len : (Txt.split TX " ").length = 19 := by decide +kernel
theorem split_of {a b : Str} (hb : (b.length == 0) = false) (ha : a.length + 2 ≤ 16777216) : mSplit (.str a) [.str b] h = some (.fro ((Txt.split a b).map .str), h) := by
  unfold mSplit
  exact if_pos ⟨hb, ha⟩
theorem split_tx : mSplit (.str "all some more many none half only not than equal world sort kinds plain a b z a0 az") [.str " "] h = some (.fro ((Txt.split TX " ").map .str), h) := split_of (by decide +kernel) (by decide +kernel)
theorem r_kind (O : Ok (N + 14) o) : ∃ s o', f_n__law_kind [.ref 0] (o :: g) = .ok (.str s) (o' :: g) ∧ Kind s ∧ Ok N o' := by
  rw [e_n__law_kind]
  obtain ⟨r, o1, e1, _, _, O1⟩ := r_next (g := g) O (m := 5) (by omega) (by omega)
  by_cases hr : r = 0
  · obtain ⟨d, o2, e2, m2, O2⟩ := r_pick (g := g) (ds := (Txt.split TX " ").map .str) (Rows.fro (by rw [List.length_map, tx_len]; omega) (by rw [List.length_map, tx_len]; omega)) O1
    obtain ⟨s, hs, rfl⟩ := List.mem_map.mp m2
    refine ⟨s, o2, ?_, tx_kinds s hs, O2.mono (by omega)⟩
    have hi : ∀ h x, isT "str" h (.str x) = true := fun _ _ => rfl
    simp -implicitDefEqProofs [m_n__law_kind, e1, hr, split_tx, e2, hi]
    exact trim_same rfl
  · obtain ⟨r2, o2, e2, r20, r21, O2⟩ := r_next (g := g) O1 (m := 26) (by omega) (by omega)
    obtain ⟨c, hc, hix⟩ := ix_az r20 r21
    obtain ⟨d3, o3, e3, m3, O3⟩ := r_pick (g := g) (ds := [.int 0, .int 1, .int 2, .int 5, .int 11]) (Rows.fro (by simp) (by simp)) O2
    obtain ⟨n, hn, rfl⟩ : ∃ n : Nat, n ≤ 11 ∧ d3 = .int n := by
      simp only [List.mem_cons, List.not_mem_nil, or_false] at m3
      rcases m3 with rfl | rfl | rfl | rfl | rfl
      · exact ⟨0, by omega, rfl⟩
      · exact ⟨1, by omega, rfl⟩
      · exact ⟨2, by omega, rfl⟩
      · exact ⟨5, by omega, rfl⟩
      · exact ⟨11, by omega, rfl⟩
    have hr2 : ∀ g, rngK (.int (n : Int)) g = .ok (rangeD 0 n, fun _ => True) g := fun g => rngK_of (by omega) (by omega)
    obtain ⟨s, x, o4, e4, K4, O4⟩ := forL_inv (G := fun _ => True) (g := gSlot 2) (body := b_n__law_kind_1)
      (R := fun r => ∃ s x o', r = .nx [some (.ref 0), some (.str s), x, none] (o' :: g) ∧ Kind s ∧ Ok N o')
      (fun ds σ h' => ∃ s x o', σ = [some (.ref 0), some (.str s), x, none] ∧ h' = o' :: g ∧ Kind s ∧ s.cps.size + ds.length ≤ 12 ∧ Ok (N + ds.length) o')
      (fun σ h' ⟨s, x, o', e1, e2, K, l, O⟩ => ⟨trivial, s, x, o', by rw [e1, e2], K, O⟩)
      (fun d ds σ h' ⟨s, x, o', e1, e2, K, l, O⟩ => by
        subst e1 e2
        refine ⟨trivial, [some (.ref 0), some (.str s), some d, none], o' :: g, rfl, ?_⟩
        rw [List.length_cons] at l
        obtain ⟨r, o'', e, r0, r1, O''⟩ := r_next (g := g) (N := N + ds.length) O (m := 36) (by omega) (by omega)
        obtain ⟨c, hc, hix⟩ := ix_az9 r0 r1
        have hp : ∀ h, dPlus (.str s) (.str ⟨#[c]⟩) h = some (.str (s ++ ⟨#[c]⟩), h) := fun h => plus_str (by show s.cps.size + 1 ≤ _; omega)
        have hb : b_n__law_kind_1 [some (.ref 0), some (.str s), some d, none] (o' :: g) = .nx [some (.ref 0), some (.str (s ++ ⟨#[c]⟩)), some d, none] (o'' :: g) := by
          simp -implicitDefEqProofs [b_n__law_kind_1, e, hix, hp]
        rw [hb]
        exact ⟨_, _, o'', rfl, rfl, K.snoc hc (by omega), by rw [size_app]; show s.cps.size + 1 + ds.length ≤ 12; omega, O''⟩)
      (rangeD 0 n) [some (.ref 0), some (.str ⟨#[c]⟩), none, none] (o3 :: g) ⟨_, none, o3, rfl, rfl, Kind.one hc, by rw [rangeD_len]; show 1 + n ≤ 12; omega, O3.mono (by rw [rangeD_len]; omega)⟩
    refine ⟨s, o4, ?_, K4, O4⟩
    simp -implicitDefEqProofs [m_n__law_kind, e1, hr, e2, hix, e3, hr2, e4, -rngK_int]
    exact trim_same rfl
end P

namespace P
open PySem PySem.Spec PyProof.Rows L2 Q G
variable {h g : AH} {i j k : Int} {s t : Str} {b : Bool} {ds : List Q.D} {ks os : List Str} {N : Nat} {o : O}
/-! ### sorted texts -/
def leS (a b : Str) : Bool := !strLt b a
theorem leD_str {a b : Str} : leD (.str a) (.str b) = leS a b := by
  unfold leD leS
  rw [show pdG (.str a) = .str a from rfl, show pdG (.str b) = .str b from rfl, PySem.W.dataLt_str]
  rfl
theorem sortable_strs (hl : ks.length ≤ 16777216) : sortable (ks.map .str) = true := by
  unfold sortable
  simp only [Bool.and_eq_true, Bool.or_eq_true, List.all_eq_true, decide_eq_true_eq, List.length_map]
  refine ⟨⟨⟨⟨fun d hd => ?_, ?_⟩, .inr fun d hd => ?_⟩, hl⟩, fun d hd => ?_⟩
  · obtain ⟨s, _, rfl⟩ := List.mem_map.mp hd
    rfl
  · unfold alikeB
    rw [List.all_eq_true]
    intro p hp
    rw [List.all_eq_true]
    intro q hq
    rw [List.map_map] at hp hq
    obtain ⟨s, _, rfl⟩ := List.mem_map.mp hp
    obtain ⟨t, _, rfl⟩ := List.mem_map.mp hq
    show PySem.W.alike (.str s) (.str t) = true
    rw [PySem.W.alike]
  · rw [List.map_map] at hd
    obtain ⟨s, _, rfl⟩ := List.mem_map.mp hd
    rfl
  · obtain ⟨s, _, rfl⟩ := List.mem_map.mp hd
    show PyData.depth (.str s) ≤ 60
    simp [PyData.depth]
theorem sort_strs {n : Nat} (e : listAt h n = some (ks.map .str)) (hl : ks.length ≤ 16777216) : gSortF [.ref n] h = some (.fro ((ks.mergeSort leS).map .str), h) := by
  have e2 := listAt_some e
  unfold gSortF
  dsimp only
  rw [show lsq h (.ref n) = some (ks.map .str) from by unfold lsq; dsimp only; rw [e2]]
  dsimp only
  rw [if_pos (sortable_strs hl)]
  rw [← List.map_mergeSort (r := leS) (s := leD) (f := Q.D.str) (fun a _ b _ => leD_str.symm)]
theorem strLt_trans {a b c : Str} (h1 : strLt a b = true) (h2 : strLt b c = true) : strLt a c = true := decide_eq_true (List.lt_trans (of_decide_eq_true h1) (of_decide_eq_true h2))
theorem str_ext {a b : Str} (h : a.cps.toList = b.cps.toList) : a = b := by
  cases a; cases b
  simp only at h
  rw [Array.toList_inj.mp h]
theorem strLt_tri {a b : Str} (h1 : strLt a b = false) (h2 : strLt b a = false) : a = b := by
  refine str_ext (List.le_antisymm ?_ ?_)
  · exact List.not_lt.mp (of_decide_eq_false h2)
  · exact List.not_lt.mp (of_decide_eq_false h1)
theorem strLt_asymm {a b : Str} (h1 : strLt a b = true) (h2 : strLt b a = true) : False := List.lt_asymm (of_decide_eq_true h1) (of_decide_eq_true h2)
theorem asc_sort (nd : ks.Nodup) : Asc (ks.mergeSort leS) := by
  have hp : (ks.mergeSort leS).Pairwise fun a b => leS a b = true := List.pairwise_mergeSort (fun a b c h1 h2 => by
      unfold leS at *
      cases e : strLt c a with
      | false => rfl
      | true =>
        cases e2 : strLt b a with
        | true => rw [e2] at h1; cases h1
        | false =>
          cases e3 : strLt c b with
          | true => rw [e3] at h2; cases h2
          | false =>
            cases e4 : strLt a b with
            | true => rw [strLt_trans e e4] at e3; cases e3
            | false =>
              have := strLt_tri e4 e2
              subst this
              rw [e] at e3; cases e3)
    (fun a b => by
      unfold leS
      cases e : strLt b a with
      | false => rfl
      | true =>
        cases e2 : strLt a b with
        | false => rfl
        | true => exact (strLt_asymm e e2).elim) ks
  have hn : (ks.mergeSort leS).Nodup := (List.mergeSort_perm ks leS).nodup_iff.mpr nd
  refine (hp.and hn).imp fun {a b} hab => ?_
  obtain ⟨h1, h2⟩ := hab
  cases e : strLt a b with
  | true => rfl
  | false =>
    unfold leS at h1
    cases e2 : strLt b a with
    | true => rw [e2] at h1; cases h1
    | false => exact (h2 (strLt_tri e e2)).elim
end P

namespace P
open PySem PySem.Spec PyProof.Rows L2 Q G
variable {h g : AH} {i j k : Int} {s t : Str} {b : Bool} {ds : List Q.D} {ks os : List Str} {N : Nat} {o : O}
/-! ### kinds drawn: all of them -/
theorem sIx_some {l d : Nat} {n : Int} (h0 : 0 ≤ n) : HT.sIx l d (some n) = min n.toNat l := by
  have := HT.sIx_nat l d n.toNat
  rw [Int.toNat_of_nonneg h0] at this
  exact this
theorem cut_to {z : Str} {n : Int} (h0 : 0 ≤ n) : (cutS z none (some n)).cps.toList = z.cps.toList.take n.toNat := by
  have hl : z.cps.toList.length = z.length := Array.length_toList
  show ((z.cps.toList.drop (HT.sIx z.length 0 none)).take (HT.sIx z.length z.length (some n) - HT.sIx z.length 0 none)) = _
  rw [sIx_some h0, HT.sIx_none, List.drop_zero, Nat.sub_zero, ← hl]
  by_cases hn : n.toNat ≤ z.cps.toList.length
  · rw [Nat.min_eq_left hn]
  · rw [Nat.min_eq_right (by omega), List.take_length, List.take_of_length_le (by omega)]
theorem cut_from {z : Str} {n : Int} (h0 : 0 ≤ n) : (cutS z (some n) none).cps.toList = z.cps.toList.drop n.toNat := by
  have hl : z.cps.toList.length = z.length := Array.length_toList
  show ((z.cps.toList.drop (HT.sIx z.length 0 (some n))).take (HT.sIx z.length z.length none - HT.sIx z.length 0 (some n))) = _
  rw [sIx_some h0, HT.sIx_none, ← hl]
  by_cases hn : n.toNat ≤ z.cps.toList.length
  · rw [Nat.min_eq_left hn, List.take_of_length_le (by rw [List.length_drop]; omega)]
  · rw [Nat.min_eq_right (by omega), List.drop_length, List.drop_of_length_le (by omega), List.take_nil]
/-- a beginning of a kind -/
structure Stem (s : Str) : Prop where
  len : s.cps.size ≤ 10
  fst : ∃ c r, s.cps.toList = c :: r ∧ low c
  all : ∀ c ∈ s.cps.toList, low c ∨ dig c
theorem Kind.stem (K : Kind s) : Stem (cutS s none (some 10)) := by
  have e := cut_to (z := s) (n := 10) (by omega)
  obtain ⟨c, r, e1, hc⟩ := K.fst
  refine ⟨?_, ?_, fun x hx => ?_⟩
  · rw [← Array.length_toList, e, List.length_take]; show min 10 _ ≤ 10; omega
  · rw [e, e1]
    exact ⟨c, r.take 9, rfl, hc⟩
  · rw [e] at hx
    exact K.all x (List.mem_of_mem_take hx)
theorem size_of {s : Str} : s.cps.size = s.cps.toList.length := Array.length_toList.symm
theorem Stem.kind (S : Stem s) {n : Int} (h0 : 0 ≤ n) (h1 : n ≤ s.cps.size) {c d : Nat} (hc : low c) (hd : low d ∨ dig d) : Kind (((cutS s none (some n) ++ ⟨#[c]⟩) ++ ⟨#[d]⟩) ++ cutS s (some n) none) := by
  have e : (((cutS s none (some n) ++ ⟨#[c]⟩) ++ ⟨#[d]⟩) ++ cutS s (some n) none).cps.toList = s.cps.toList.take n.toNat ++ [c] ++ [d] ++ s.cps.toList.drop n.toNat := by
    rw [cps_app, cps_app, cps_app, cut_to h0, cut_from h0]
  have hl := S.len
  rw [size_of] at hl h1
  refine ⟨?_, ?_, fun x hx => ?_⟩
  · rw [size_of, e]
    simp only [List.length_append, List.length_take, List.length_drop, List.length_cons, List.length_nil]
    omega
  · rw [e]
    obtain ⟨a, r, ea, ha⟩ := S.fst
    rw [ea]
    cases hn : n.toNat with
    | zero => exact ⟨c, _, rfl, hc⟩
    | succ m => exact ⟨a, _, rfl, ha⟩
  · rw [e] at hx
    simp only [List.mem_append, List.mem_singleton] at hx
    rcases hx with ((hx | rfl) | rfl) | hx
    · exact S.all x (List.mem_of_mem_take hx)
    · exact .inl hc
    · exact hd
    · exact S.all x (List.mem_of_mem_drop hx)
theorem kind_a : Kind ("a" : Str) := kindB_ok (by decide +kernel)
theorem clo_ints {n : Nat} : ∀ ns : List Int, closeds n (ns.map Q.D.int) = true
  | [] => rfl
  | k :: ns => by rw [List.map_cons, closeds, clo_ints ns]; rfl
theorem ok_clo {n : Nat} (O : Ok N o) : closedO n o = true := by
  obtain ⟨cells, c, k, rfl, _⟩ := O
  show closeds n [.fro (cells.map .int), .int c, .int k] = true
  rw [closeds, closed, clo_ints]
  rfl
/-- what is forgotten behind the stream -/
theorem trim_str {o' : O} {x : AH} {d : Q.D} {bb : Bool} {N : Nat} (O : Ok N o') (hd : closed (g.length + 1) d = true) : trimR (o :: g) bb (.ok d (o' :: (g ++ x))) = .ok d (o' :: g) :=
  trim_drop (h := o :: g) (h1 := o' :: g) (g := x) rfl (fun y m => by
    rcases List.mem_cons.mp m with rfl | m
    · exact .inr (ok_clo O)
    · exact .inl (List.mem_cons_of_mem _ m)) hd
theorem la_last {o' : O} {xs : List Q.D} : Q.listAt (o' :: (g ++ [.lst xs])) (g.length + 1) = some xs := listAt_eq (by simp)
theorem app_last {o' : O} {xs : List Q.D} {d : Q.D} (hl : xs.length < 16777216) : mAppend (.ref (g.length + 1)) [d] (o' :: (g ++ [.lst xs])) = some (.non, o' :: (g ++ [.lst (xs ++ [d])])) := by
  unfold mAppend
  dsimp only
  rw [la_last]
  dsimp only
  rw [if_pos hl, List.set_cons_succ, last_set]
theorem isT_last {o' : O} {xs : List Q.D} : isT "list" (o' :: (g ++ [.lst xs])) (.ref (g.length + 1)) = true := by
  simp [isT, lsq]
theorem r_kinds {many : Int} (m1 : 1 ≤ many) (m2 : many ≤ 30) (O : Ok (N + 40000) o) : ∃ ks o', f_n__law_kinds [.ref 0, .int many] (o :: g) = .ok (ksD ks) (o' :: g) ∧ Kinds ks ∧ Ok N o' := by
  rw [e_n__law_kinds]
  obtain ⟨s0, o1, e1, K1, O1⟩ := r_kind (N := N + 39900) (g := g ++ [.lst []]) (O.mono (by omega))
  have S := K1.stem
  generalize hst : cutS s0 none (some 10) = st at S
  have hS := S.len
  obtain ⟨at', o2, e2, a0, a1, O2⟩ := r_next (N := N + 39800) (g := g ++ [.lst []]) (m := (st.cps.size : Int) + 1) (O1.mono (by omega)) (by omega) (by omega)
  obtain ⟨fi, o3, e3, f0, f1, O3⟩ := r_next (N := N + 39700) (g := g ++ [.lst []]) (m := 936) (O2.mono (by omega)) (by omega) (by omega)
  obtain ⟨cl, o4, e4, c0, c1, O4⟩ := r_next (N := N + 39600) (g := g ++ [.lst []]) (m := 2) (O3.mono (by omega)) (by omega) (by omega)
  obtain ⟨M, hr, hM⟩ : ∃ M : Nat, (∀ g, rngK (.int 2000) g = .ok (rangeD 0 M, fun _ => True) g) ∧ M = 2000 := ⟨Int.toNat 2000, fun g => rngK_of (by decide) (by decide), rfl⟩
  have n1 := g.length + 1
  obtain ⟨x7, x8, x9, fs, o5, e5, nd, kk, l1, l2, O5⟩ := forL_inv (G := fun _ => True) (g := gSlot 7) (body := b_n__law_kinds_1)
    (R := fun r => ∃ (x7 x8 x9 : Option Q.D) (fs : List Str) (o' : Q.O), r = .nx [some (.ref 0), some (.int many), some (.ref (g.length + 1)), some (.str st), some (.int at'), some (.int fi), some (.int cl), x7, x8, x9] (o' :: (g ++ [.lst (fs.map .str)])) ∧ fs.Nodup ∧ (∀ k ∈ fs, Kind k) ∧ 1 ≤ fs.length ∧ fs.length ≤ many ∧ Ok N o')
    (fun ds σ h' => ∃ (x7 x8 x9 : Option Q.D) (fs : List Str) (o' : Q.O), σ = [some (.ref 0), some (.int many), some (.ref (g.length + 1)), some (.str st), some (.int at'), some (.int fi), some (.int cl), x7, x8, x9] ∧ h' = o' :: (g ++ [.lst (fs.map .str)]) ∧ fs.Nodup ∧ (∀ k ∈ fs, Kind k) ∧ (fs.length = 0 → ds.length = M) ∧ fs.length ≤ many ∧ Ok (N + 15 * ds.length) o' ∧ ∀ d ∈ ds, ∃ i : Nat, i < 2000 ∧ d = .int i)
    (fun σ h' ⟨x7, x8, x9, fs, o', e1, e2, nd, kk, l1, l2, O, _⟩ => ⟨trivial, x7, x8, x9, fs, o', by rw [e1, e2], nd, kk, by
      rcases Nat.eq_zero_or_pos fs.length with z | z
      · have := l1 z
        simp at this
        omega
      · exact z, l2, O.mono (by omega)⟩)
    (fun d ds σ h' ⟨x7, x8, x9, fs, o', e1, e2, nd, kk, l1, l2, O, hd⟩ => by
      subst e1 e2
      obtain ⟨i, hi, rfl⟩ := hd d List.mem_cons_self
      refine ⟨trivial, [some (.ref 0), some (.int many), some (.ref (g.length + 1)), some (.str st), some (.int at'), some (.int fi), some (.int cl), some (.int i), x8, x9], o' :: (g ++ [.lst (fs.map .str)]), rfl, ?_⟩
      have hlen := len_ref (h := o' :: (g ++ [.lst (fs.map .str)])) (n := g.length + 1) la_last
      rw [List.length_map] at hlen
      by_cases hm : (fs.length : Int) = many
      · have hb : b_n__law_kinds_1 [some (.ref 0), some (.int many), some (.ref (g.length + 1)), some (.str st), some (.int at'), some (.int fi), some (.int cl), some (.int i), x8, x9] (o' :: (g ++ [.lst (fs.map .str)])) = .bk [some (.ref 0), some (.int many), some (.ref (g.length + 1)), some (.str st), some (.int at'), some (.int fi), some (.int cl), some (.int i), x8, x9] (o' :: (g ++ [.lst (fs.map .str)])) := by
          simp -implicitDefEqProofs [b_n__law_kinds_1, hlen, hm]
        rw [hb]
        exact ⟨some (.int i), x8, x9, fs, o', rfl, nd, kk, by omega, by omega, O.mono (by omega)⟩
      · rw [List.length_cons] at O l1
        -- the name is put down if it is new
        have fin : ∀ (nm : Str) (o2 : Q.O) (x9' : Option Q.D) (r : Out), Kind nm → Ok (N + 15 * ds.length) o2 →
            r = (if nm ∈ fs then .nx [some (.ref 0), some (.int many), some (.ref (g.length + 1)), some (.str st), some (.int at'), some (.int fi), some (.int cl), some (.int i), some (.str nm), x9'] (o2 :: (g ++ [.lst (fs.map .str)]))
              else .nx [some (.ref 0), some (.int many), some (.ref (g.length + 1)), some (.str st), some (.int at'), some (.int fi), some (.int cl), some (.int i), some (.str nm), x9'] (o2 :: (g ++ [.lst ((fs ++ [nm]).map .str)]))) →
            (match r with
              | .nx σ2 h2 => ∃ (x7 x8 x9 : Option Q.D) (fs : List Str) (o' : Q.O), σ2 = [some (.ref 0), some (.int many), some (.ref (g.length + 1)), some (.str st), some (.int at'), some (.int fi), some (.int cl), x7, x8, x9] ∧ h2 = o' :: (g ++ [.lst (fs.map .str)]) ∧ fs.Nodup ∧ (∀ k ∈ fs, Kind k) ∧ (fs.length = 0 → ds.length = M) ∧ fs.length ≤ many ∧ Ok (N + 15 * ds.length) o' ∧ ∀ d ∈ ds, ∃ i : Nat, i < 2000 ∧ d = .int i
              | .ct σ2 h2 => ∃ (x7 x8 x9 : Option Q.D) (fs : List Str) (o' : Q.O), σ2 = [some (.ref 0), some (.int many), some (.ref (g.length + 1)), some (.str st), some (.int at'), some (.int fi), some (.int cl), x7, x8, x9] ∧ h2 = o' :: (g ++ [.lst (fs.map .str)]) ∧ fs.Nodup ∧ (∀ k ∈ fs, Kind k) ∧ (fs.length = 0 → ds.length = M) ∧ fs.length ≤ many ∧ Ok (N + 15 * ds.length) o' ∧ ∀ d ∈ ds, ∃ i : Nat, i < 2000 ∧ d = .int i
              | .bk σ2 h2 => ∃ (x7 x8 x9 : Option Q.D) (fs : List Str) (o' : Q.O), Out.nx σ2 h2 = .nx [some (.ref 0), some (.int many), some (.ref (g.length + 1)), some (.str st), some (.int at'), some (.int fi), some (.int cl), x7, x8, x9] (o' :: (g ++ [.lst (fs.map .str)])) ∧ fs.Nodup ∧ (∀ k ∈ fs, Kind k) ∧ 1 ≤ fs.length ∧ fs.length ≤ many ∧ Ok N o'
              | r => ∃ (x7 x8 x9 : Option Q.D) (fs : List Str) (o' : Q.O), r = .nx [some (.ref 0), some (.int many), some (.ref (g.length + 1)), some (.str st), some (.int at'), some (.int fi), some (.int cl), x7, x8, x9] (o' :: (g ++ [.lst (fs.map .str)])) ∧ fs.Nodup ∧ (∀ k ∈ fs, Kind k) ∧ 1 ≤ fs.length ∧ fs.length ≤ many ∧ Ok N o') := fun nm o2 x9' r kn O2 er => by
          by_cases hin : nm ∈ fs
          · rw [if_pos hin] at er
            subst er
            exact ⟨some (.int i), some (.str nm), x9', fs, o2, rfl, rfl, nd, kk, (fun z => by rw [List.length_eq_zero_iff.mp z] at hin; cases hin), l2, O2, fun d m => hd d (List.mem_cons_of_mem _ m)⟩
          · rw [if_neg hin] at er
            subst er
            refine ⟨some (.int i), some (.str nm), x9', fs ++ [nm], o2, rfl, rfl, ?_, fun k m => ?_, (fun z => by simp at z), by rw [List.length_append, List.length_singleton]; omega, O2, fun d m => hd d (List.mem_cons_of_mem _ m)⟩
            · rw [List.nodup_append]
              exact ⟨nd, by simp, fun a ha c hc => by rw [List.mem_singleton.mp hc]; exact fun z => hin (z ▸ ha)⟩
            · rcases List.mem_append.mp m with m | m
              · exact kk k m
              · rw [List.mem_singleton.mp m]; exact kn
        have hfs : (fs.map Q.D.str).length < 16777216 := by rw [List.length_map]; omega
        have m3 : ∀ g, dMul (.int 3) (.int many) g = some (.int (3 * many), g) := fun g => mul_ok (by omega) (by omega) (by omega) (by omega)
        have m7 : ∀ g, dMul (.int i) (.int 7) g = some (.int ((i : Int) * 7), g) := fun g => mul_ok (by omega) (by omega) (by omega) (by omega)
        by_cases hA : cl = 0 ∧ (i : Int) < 3 * many
        · obtain ⟨nm, o2, en, kn, O2⟩ := r_kind (N := N + 15 * ds.length) (g := g ++ [.lst (fs.map .str)]) (O.mono (by omega))
          refine fin nm o2 x9 _ kn O2 ?_
          obtain ⟨hA1, hA2⟩ := hA
          have hB : ¬ 3 * many ≤ (i : Int) := by omega
          by_cases hin : nm ∈ fs
          · simp -implicitDefEqProofs [b_n__law_kinds_1, hlen, hm, hA1, hA2, m3, en, in_ref (ks := fs) (n := g.length + 1) la_last, hin, hB, -run_dInt]
          · simp -implicitDefEqProofs [b_n__law_kinds_1, hlen, hm, hA1, hA2, m3, en, in_ref (ks := fs) (n := g.length + 1) la_last, hin, hB, app_last hfs, isT_last, -run_dInt]
        · have hB : (cl = 0 ∧ 3 * many ≤ (i : Int)) ∨ cl = 1 := by omega
          obtain ⟨num, hnum⟩ : ∃ num : Int, num = (fi + (i : Int) * 7) % 936 := ⟨_, rfl⟩
          have hmod : ∀ g, dMod (.int (fi + (i : Int) * 7)) (.int 936) g = some (.int num, g) := fun g => hnum ▸ mod_ok (by omega)
          have u0 : 0 ≤ num := hnum ▸ Int.emod_nonneg _ (by omega)
          have u1 : num < 936 := hnum ▸ Int.emod_lt_of_pos _ (by omega)
          clear hnum
          have hdiv : ∀ g, dDiv (.int num) (.int 36) g = some (.int (num / 36), g) := fun g => div_ok (by omega) (by omega)
          have hmod2 : ∀ g, dMod (.int num) (.int 36) g = some (.int (num % 36), g) := fun g => mod_ok (by omega)
          obtain ⟨c, hc, hix⟩ := ix_az (i := num / 36) (by omega) (by omega)
          obtain ⟨c', hc', hix'⟩ := ix_az9 (i := num % 36) (by omega) (by omega)
          have kn := S.kind a0 (by omega) hc hc'
          have sl1 : ∀ g, dSl (.str st) none (some at') g = some (.str (cutS st none (some at')), g) := fun g => if_pos (by show st.cps.size ≤ _; omega)
          have sl2 : ∀ g, dSl (.str st) (some at') none g = some (.str (cutS st (some at') none), g) := fun g => if_pos (by show st.cps.size ≤ _; omega)
          have z1 := kn.len
          generalize cutS st none (some at') = sa at *
          generalize cutS st (some at') none = sb at *
          rw [size_app, size_app, size_app] at z1
          have p1 : ∀ h, dPlus (.str sa) (.str ⟨#[c]⟩) h = some (.str (sa ++ ⟨#[c]⟩), h) := fun h => plus_str (by show sa.cps.size + 1 ≤ _; omega)
          have p2 : ∀ h, dPlus (.str (sa ++ ⟨#[c]⟩)) (.str ⟨#[c']⟩) h = some (.str ((sa ++ ⟨#[c]⟩) ++ ⟨#[c']⟩), h) := fun h => plus_str (by show (sa ++ ⟨#[c]⟩ : Str).cps.size + 1 ≤ _; rw [size_app]; show sa.cps.size + 1 + 1 ≤ _; omega)
          have p3 : ∀ h, dPlus (.str ((sa ++ ⟨#[c]⟩) ++ ⟨#[c']⟩)) (.str sb) h = some (.str (((sa ++ ⟨#[c]⟩) ++ ⟨#[c']⟩) ++ sb), h) := fun h => plus_str (by show ((sa ++ ⟨#[c]⟩) ++ ⟨#[c']⟩ : Str).cps.size + sb.cps.size ≤ _; rw [size_app, size_app]; omega)
          generalize (((sa ++ ⟨#[c]⟩) ++ ⟨#[c']⟩) ++ sb : Str) = nm at *
          refine fin nm o' (some (.int num)) _ kn (O.mono (by omega)) ?_
          rcases hB with ⟨q1, q2⟩ | q1
          · have q3 : ¬ (i : Int) < 3 * many := by omega
            by_cases hin : nm ∈ fs
            · simp -implicitDefEqProofs [b_n__law_kinds_1, hlen, hm, q1, q2, q3, m3, m7, hmod, hdiv, hmod2, hix, hix', sl1, sl2, p1, p2, p3, in_ref (ks := fs) (n := g.length + 1) la_last, hin, -run_dInt]
            · simp -implicitDefEqProofs [b_n__law_kinds_1, hlen, hm, q1, q2, q3, m3, m7, hmod, hdiv, hmod2, hix, hix', sl1, sl2, p1, p2, p3, in_ref (ks := fs) (n := g.length + 1) la_last, hin, app_last hfs, isT_last, -run_dInt]
          · by_cases hin : nm ∈ fs
            · simp -implicitDefEqProofs [b_n__law_kinds_1, hlen, hm, q1, m3, m7, hmod, hdiv, hmod2, hix, hix', sl1, sl2, p1, p2, p3, in_ref (ks := fs) (n := g.length + 1) la_last, hin, -run_dInt]
            · simp -implicitDefEqProofs [b_n__law_kinds_1, hlen, hm, q1, m3, m7, hmod, hdiv, hmod2, hix, hix', sl1, sl2, p1, p2, p3, in_ref (ks := fs) (n := g.length + 1) la_last, hin, app_last hfs, isT_last, -run_dInt])
    (rangeD 0 M) [some (.ref 0), some (.int many), some (.ref (g.length + 1)), some (.str st), some (.int at'), some (.int fi), some (.int cl), none, none, none] (o4 :: (g ++ [.lst []]))
    ⟨none, none, none, [], o4, rfl, rfl, List.nodup_nil, (fun _ m => nomatch m), (fun _ => rangeD_len), by simp; omega, O4.mono (by rw [rangeD_len]; omega), fun d hd => by
      obtain ⟨i, hi, rfl⟩ := mem_rangeD hd
      exact ⟨i, by omega, by simp⟩⟩
  have srt := sort_strs (h := o5 :: (g ++ [.lst (fs.map .str)])) (n := g.length + 1) (ks := fs) la_last (by omega)
  have pm := List.mergeSort_perm fs leS
  refine ⟨fs.mergeSort leS, o5, ?_, ⟨fun k m => kk k (pm.mem_iff.mp m), asc_sort nd, by rw [pm.length_eq]; exact l1, by rw [pm.length_eq]; omega⟩, O5⟩
  have sl0 : ∀ g, dSl (.str s0) none (some 10) g = some (.str st, g) := fun g => hst ▸ if_pos (by have := K1.len; show s0.cps.size ≤ _; omega)
  have ln : ∀ g, gLen [.str st] g = some (.int (st.cps.size : Int), g) := fun g => len_str' (by show st.cps.size ≤ _; omega)
  simp -implicitDefEqProofs [m_n__law_kinds, e1, sl0, ln, e2, e3, e4, hr, e5, srt, -rngK_int]
  exact trim_str O5 clo_ks
end P

namespace P
open PySem PySem.Spec PyProof.Rows L2 Q G
variable {h g : AH} {i j k : Int} {s t : Str} {b : Bool} {ds : List Q.D} {ks os : List Str} {N : Nat} {o : O}
/-! ### the law's own translation -/
theorem lk_get : ∀ {ks : List Str} {ts : List Tm} {x : Str} {n : Nat}, ts.length = ks.length → ks.Nodup → ks[n]? = some x → ts[n]? = some (lk ks ts x)
  | [], _, _, _, _, _, e => by simp at e
  | k :: ks, [], _, _, l, _, _ => by cases l
  | k :: ks, t :: ts, x, 0, l, nd, e => by
    simp at e
    subst e
    simp [lk]
  | k :: ks, t :: ts, x, n + 1, l, nd, e => by
    rw [List.nodup_cons] at nd
    have e' : ks[n]? = some x := by simpa using e
    have ne : ¬ k = x := fun z => nd.1 (z ▸ List.mem_of_getElem? e')
    simp only [lk, ne, if_false]
    simpa using lk_get (by simpa using l) nd.2 e'
theorem Kinds.nodup (K : Kinds ks) : ks.Nodup := K.asc.imp fun {a b} hab e => by
  subst e
  exact List.lt_irrefl _ (of_decide_eq_true hab)
theorem filter_one {ks : List Str} {x : Str} (nd : ks.Nodup) {n : Nat} (e : ks[n]? = some x) : (List.range ks.length).filter (fun i => decide (ks[i]? = some x)) = [n] := by
  have hn := (List.getElem?_eq_some_iff.mp e).1
  have : ∀ m, m ≤ ks.length → (List.range m).filter (fun i => decide (ks[i]? = some x)) = if n < m then [n] else [] := by
    intro m
    induction m with
    | zero => intro _; simp
    | succ m ih =>
      intro hm
      rw [List.range_succ, List.filter_append, ih (by omega)]
      by_cases hmn : m = n
      · subst hmn
        simp [e]
      · have : ¬ ks[m]? = some x := fun z => hmn ((List.getElem?_inj (by omega) nd).mp (z.trans e.symm))
        simp [this]
        by_cases h1 : n < m
        · simp [h1, show n < m + 1 by omega]
        · simp [h1, show ¬ n < m + 1 by omega]
  rw [this _ (Nat.le_refl _), if_pos hn]
theorem r_term_by {ts : List Tm} (K : Kinds ks) (hl : ts.length = ks.length) {t : Tm} (m : t.1 ∈ ks) : f_n__law_term_by [ksD ks, tsD ts, tmD t] h = .ok (tmD (tr ks ts t)) h := by
  obtain ⟨n, hn⟩ := List.mem_iff_getElem?.mp m
  have hm := K.most
  have hnl := (List.getElem?_eq_some_iff.mp hn).1
  have hr : ∀ g, rngK (.int (ks.length : Int)) g = .ok (rangeD 0 ks.length, fun _ => True) g := fun g => rngK_of (by omega) (by omega)
  have ht := lk_get hl K.nodup hn
  rw [e_n__law_term_by]
  simp -implicitDefEqProofs [m_n__law_term_by, ksD, tsD, hr, -rngK_int]
  rw [rangeD]
  have key := lcL_map (G := fun _ => True) (g := gSlot 4) (t := mB (eOp dEq (eOp dIx (eVar 0) (eVar 4)) (eOp dIx (eVar 2) (eC (.int 0))))) (m := eVar 4) (σ := wipeA [some (.tup (ks.map .str)), some (.tup (ts.map tmD)), some (tmD t), none, none] [4]) (h := h)
    (p := fun d => match d with | .int i => decide (ks[i.toNat]? = some t.1) | _ => false) (f := id) trivial ((List.range ks.length).map fun i : Nat => .int (0 + (i : Int))) [] (fun d hd => by
      obtain ⟨i, hi, rfl⟩ := List.mem_map.mp hd
      have hi' := List.mem_range.mp hi
      refine ⟨_, rfl, ?_, fun _ => ?_⟩
      · have ha : atI (ks.map Q.D.str) (i : Int) = some (.str ks[i]) := atI_n (by simp [hi'])
        simp -implicitDefEqProofs [wipeA, ha, hi']
      · simp -implicitDefEqProofs [wipeA]) (by simp; omega)
  have fl : ((List.range ks.length).map fun i : Nat => Q.D.int (0 + (i : Int))).filter (fun d => match d with | .int i => decide (ks[i.toNat]? = some t.1) | _ => false) = [.int n] := by
    rw [List.filter_map]
    have : ((fun d : Q.D => match d with | .int i => decide (ks[i.toNat]? = some t.1) | _ => false) ∘ fun i : Nat => Q.D.int (0 + (i : Int))) = fun i => decide (ks[i]? = some t.1) := by
      funext i
      simp
    rw [this, filter_one K.nodup hn]
    simp
  rw [fl] at key
  simp only [List.nil_append, List.map_cons, id_eq, List.map_nil] at key
  have ha2 : atI (ts.map tmD) (n : Int) = some (tmD (lk ks ts t.1)) := atI_n (by simp [ht])
  rw [key]
  unfold tr
  cases ht2 : t.2 with
  | true =>
    simp -implicitDefEqProofs [ha2, ht2]
    exact trim_same rfl
  | false =>
    simp -implicitDefEqProofs [ha2, ht2, r_law_flip]
    exact trim_same rfl
end P

namespace P
open PySem PySem.Spec PyProof.Rows L2 Q G
variable {h g : AH} {i j k : Int} {s t : Str} {b : Bool} {ds : List Q.D} {ks os : List Str} {N : Nat} {o : O}
theorem r_sentence_by {ts : List Tm} (K : Kinds ks) (hl : ts.length = ks.length) {s : Sen} (O : Over ks s) : f_n__law_sentence_by [ksD ks, tsD ts, snD s] h = .ok (snD (trS ks ts s)) h := by
  rw [e_n__law_sentence_by]
  simp -implicitDefEqProofs [m_n__law_sentence_by, r_term_by K hl O.a, r_term_by K hl O.b]
  exact trim_same rfl
theorem r_by {ts : List Tm} (K : Kinds ks) (hl : ts.length = ks.length) {q : Qn} (O : OverQ ks q) : f_n__law_by [ksD ks, tsD ts, qnD q] h = .ok (qnD (trQ ks ts q)) h := by
  rw [e_n__law_by]
  cases q with
  | one s =>
    simp -implicitDefEqProofs [m_n__law_by, qnD, trQ, r_sentence_by K hl (show Over ks s from O)]
    exact trim_same rfl
  | many ss =>
    obtain ⟨o1, o2, o3⟩ := O
    match ss, o1 with
    | s0 :: ss', _ =>
      simp -implicitDefEqProofs [m_n__law_by, qnD, trQ]
      rw [← List.map_cons (f := snD), lc_enc snD (fun s => snD (trS ks ts s)) trivial]
      · simp -implicitDefEqProofs [Function.comp_def]
        exact trim_same rfl
      · intro s hs
        refine ⟨_, rfl, ?_⟩
        simp -implicitDefEqProofs [wipeA, r_sentence_by K hl (o3 s hs)]
      · simp at o2 ⊢
        omega
/-! ### terms drawn -/
/-- what a comprehension that draws keeps -/
def Sh (g : AH) (P : O → Prop) (h : AH) : Prop := ∃ o, h = o :: g ∧ P o
theorem Rows.kinds (K : Kinds ks) : Rows g (ksD ks) (ks.map .str) := Rows.tup (by have := K.pos; rw [List.length_map]; omega) (by have := K.most; simp; omega)
theorem terms_of {ys : List Q.D} (h : ∀ y ∈ ys, ∃ t : Tm, y = tmD t ∧ t.1 ∈ os) : ∃ ts : List Tm, ys = ts.map tmD ∧ ∀ t ∈ ts, t.1 ∈ os := by
  induction ys with
  | nil => exact ⟨[], rfl, fun _ m => nomatch m⟩
  | cons y ys ih =>
    obtain ⟨t, rfl, ht⟩ := h y List.mem_cons_self
    obtain ⟨ts, rfl, hts⟩ := ih fun z hz => h z (List.mem_cons_of_mem _ hz)
    refine ⟨t :: ts, rfl, fun u hu => ?_⟩
    rcases List.mem_cons.mp hu with rfl | hu
    · exact ht
    · exact hts u hu
/-- a comprehension that draws: what holds of the heap by the turns that are left, and of each item -/
theorem lc_draw {G : AH → Prop} {g : MG} {m : M} {σ : AS} {J : Nat → AH → Prop} {T : Q.D → Prop} (hG : ∀ n h, J n h → G h) : ∀ (ds acc : List Q.D) (h : AH), J ds.length h → (∀ d ∈ ds, ∀ n h, J (n + 1) h → ∃ σ1 y h2, g d σ h = some (σ1, h) ∧ m σ1 h = .ok y h2 ∧ J n h2 ∧ T y) → acc.length + ds.length ≤ 16777216 →
    ∃ ys h', lcL G g tYesM m σ ds acc h = .ok (acc ++ ys) h' ∧ J 0 h' ∧ ys.length = ds.length ∧ ∀ y ∈ ys, T y
  | [], acc, h, j, _, _ => ⟨[], h, by rw [lcL, if_pos (hG _ h j)]; simp, j, rfl, by simp⟩
  | d :: ds, acc, h, j, hd, hl => by
    obtain ⟨σ1, y, h2, a, b, j2, ty⟩ := hd d List.mem_cons_self _ h j
    rw [List.length_cons] at hl
    obtain ⟨ys, h', e, j', l, tys⟩ := lc_draw hG ds (acc ++ [y]) h2 j2 (fun x hx => hd x (List.mem_cons_of_mem _ hx)) (by simp; omega)
    refine ⟨y :: ys, h', ?_, j', by rw [List.length_cons, List.length_cons, l], fun z hz => ?_⟩
    · rw [lcL, if_pos (hG _ h j), a]
      dsimp only
      rw [run_tYes]
      dsimp only
      rw [b]
      dsimp only
      rw [if_pos (by omega), e]
      simp
    · rcases List.mem_cons.mp hz with rfl | hz
      · exact ty
      · exact tys z hz
/-- the draws of a comprehension over the stream -/
theorem lc_terms {g : AH} {mg : MG} {m : M} {σ : AS} (ds : List Q.D) (c : Nat) {o : Q.O} (O : Ok (N + c * ds.length) o) (hl : ds.length ≤ 30)
    (hd : ∀ d ∈ ds, ∀ n o, Ok (N + c * (n + 1)) o → ∃ (σ1 : AS) (t : Tm) (o2 : Q.O), mg d σ (o :: g) = some (σ1, o :: g) ∧ m σ1 (o :: g) = .ok (tmD t) (o2 :: g) ∧ Ok (N + c * n) o2 ∧ t.1 ∈ os) :
    ∃ (ts : List Tm) (o' : Q.O), lcL (fun _ => True) mg tYesM m σ ds [] (o :: g) = .ok (ts.map tmD) (o' :: g) ∧ Ok N o' ∧ ts.length = ds.length ∧ ∀ t ∈ ts, t.1 ∈ os := by
  obtain ⟨ys, h', e, ⟨o', rfl, O'⟩, l, ty⟩ := lc_draw (G := fun _ => True) (J := fun n h => ∃ o, h = o :: g ∧ Ok (N + c * n) o) (T := fun y => ∃ t : Tm, y = tmD t ∧ t.1 ∈ os) (fun _ _ _ => trivial) ds [] (o :: g) ⟨o, rfl, O⟩
    (fun d hdm n h ⟨o1, eh, O1⟩ => by
      subst eh
      obtain ⟨σ1, t, o2, a, b, O2, ht⟩ := hd d hdm n o1 O1
      exact ⟨σ1, tmD t, o2 :: g, a, b, ⟨o2, rfl, O2⟩, t, rfl, ht⟩) (by simp; omega)
  obtain ⟨ts, rfl, hts⟩ := terms_of ty
  exact ⟨ts, o', by simpa using e, by simpa using O', by simpa using l, hts⟩
theorem r_target (K : Kinds ks) (S : Kinds os) (O : Ok (N + 100) o) : ∃ ts o', f_n__law_target [.ref 0, ksD ks, ksD os] (o :: g) = .ok (tsD ts) (o' :: g) ∧ Terms ks os ts ∧ Ok N o' := by
  have k30 := K.most
  have s30 := S.most
  have s1 := S.pos
  rw [e_n__law_target]
  obtain ⟨w, o1, e1, w0, w1, O1⟩ := r_next (N := N + 99) (g := g) (m := 4) O (by omega) (by omega)
  have hlen : (ks.map Q.D.str).length = ks.length := List.length_map ..
  by_cases hA : w = 0 ∧ ks = os
  · obtain ⟨rfl, rfl⟩ := hA
    obtain ⟨ts, o2, e2, O2, l2, t2⟩ := lc_terms (N := N) (os := ks) (g := g) (mg := gSlot 6) (m := eTup (aCons (eVar 6) (aCons (eOp dGt (eFn f_n__law_next [] (aCons (eVar 0) (aCons (eC (.int 3)) aNil))) (eC (.int 0))) aNil))) (σ := wipeA [some (.ref 0), some (ksD ks), some (ksD ks), some (.int 0), none, none, none, none] [6]) (ks.map .str) 2 (o := o1) (O1.mono (by rw [hlen]; omega)) (by rw [hlen]; omega) (fun d hd n o' O' => by
        obtain ⟨k, hk, rfl⟩ := List.mem_map.mp hd
        obtain ⟨r, o2, e2, _, _, O2⟩ := r_next (N := N + 2 * n + 1) (g := g) (m := 3) (O'.mono (by omega)) (by omega) (by omega)
        refine ⟨_, (k, decide (0 < r)), o2, rfl, ?_, O2.mono (by omega), hk⟩
        simp -implicitDefEqProofs [wipeA, e2]
        rfl)
    refine ⟨ts, o2, ?_, ⟨by rw [l2, hlen], t2⟩, O2⟩
    have es : ∀ h, dEq (ksD ks) (ksD ks) h = some (.bl true, h) := fun h => by rw [ksD, eq_strs]; simp
    have sq : ∀ h, seqK (ksD ks) h = .ok (ks.map .str, fun _ => True) h := fun _ => rfl
    simp -implicitDefEqProofs [m_n__law_target, e1, es, sq, e2]
    exact trim_same rfl
  · have es : ∀ h, dEq (ksD ks) (ksD os) h = some (.bl (decide (ks = os)), h) := fun h => eq_strs
    have sq : ∀ h, seqK (ksD ks) h = .ok (ks.map .str, fun _ => True) h := fun _ => rfl
    have hw : ∀ {α : Type} (x y : α), (if w = 0 then (if ks = os then x else y) else y) = y := fun x y => by
      by_cases h0 : w = 0
      · rw [if_pos h0, if_neg fun z => hA ⟨h0, z⟩]
      · rw [if_neg h0]
    by_cases h1 : w = 1
    · subst h1
      obtain ⟨d2, o2, e2, m2, O2⟩ := r_pick (N := N + 98) (g := g) (Rows.kinds S) O1
      obtain ⟨one, hone, rfl⟩ := List.mem_map.mp m2
      obtain ⟨ts, o3, e3, O3, l3, t3⟩ := lc_terms (N := N) (os := os) (g := g) (mg := gSlot 6) (m := eTup (aCons (eVar 4) (aCons (eFn f_n__law_bit [] (aCons (eVar 0) aNil)) aNil))) (σ := wipeA [some (.ref 0), some (ksD ks), some (ksD os), some (.int 1), some (.str one), none, none, none] [6]) (ks.map .str) 2 (o := o2) (O2.mono (by rw [hlen]; omega)) (by rw [hlen]; omega) (fun d hd n o' O' => by
        obtain ⟨b, o2, e2, O2⟩ := r_bit (N := N + 2 * n + 1) (g := g) (O'.mono (by omega))
        refine ⟨_, (one, b), o2, rfl, ?_, O2.mono (by omega), hone⟩
        simp -implicitDefEqProofs [wipeA, e2]
        rfl)
      refine ⟨ts, o3, ?_, ⟨by rw [l3, hlen], t3⟩, O3⟩
      simp -implicitDefEqProofs [m_n__law_target, e1, es, sq, e2, e3]
      exact trim_same rfl
    · by_cases h2 : w = 2
      · subst h2
        obtain ⟨st, o2, e2, s0, sl, O2⟩ := r_next (N := N + 98) (g := g) (m := (os.length : Int)) O1 (by omega) (by omega)
        have hr : ∀ g, rngK (.int (ks.length : Int)) g = .ok (rangeD 0 ks.length, fun _ => True) g := fun g => rngK_of (by omega) (by omega)
        have ln : ∀ (ks : List Str) g, gLen [ksD ks] g = some (.int ks.length, g) := fun ks g => by rw [ksD, len_tup', List.length_map]
        obtain ⟨ts, o3, e3, O3, l3, t3⟩ := lc_terms (N := N) (os := os) (g := g) (mg := gSlot 7) (m := eTup (aCons (eOp dIx (eVar 2) (eOp dMod (eCall gInt (aCons (eOp dPlus (eVar 7) (eVar 5)) aNil)) (eCall gLen (aCons (eVar 2) aNil)))) (aCons (eFn f_n__law_bit [] (aCons (eVar 0) aNil)) aNil))) (σ := wipeA [some (.ref 0), some (ksD ks), some (ksD os), some (.int 2), none, some (.int st), none, none] [7]) (rangeD 0 ks.length) 2 (o := o2) (O2.mono (by rw [rangeD_len]; omega)) (by rw [rangeD_len]; omega) (fun d hd n o' O' => by
          obtain ⟨i, hi, rfl⟩ := mem_rangeD hd
          obtain ⟨b, o2, e2, O2⟩ := r_bit (N := N + 2 * n + 1) (g := g) (O'.mono (by omega))
          have p0 : 0 ≤ ((0 : Int) + i + st) % (os.length : Int) := Int.emod_nonneg _ (by omega)
          have p1 : ((0 : Int) + i + st) % (os.length : Int) < (os.length : Int) := Int.emod_lt_of_pos _ (by omega)
          obtain ⟨d, ed, at1⟩ := atI_i (xs := os.map Q.D.str) p0 (by rw [List.length_map]; exact p1)
          obtain ⟨x, hx, rfl⟩ := List.mem_map.mp (List.mem_of_getElem? ed)
          have hm : ∀ g, dMod (.int ((0 : Int) + i + st)) (.int (os.length : Int)) g = some (.int (((0 : Int) + i + st) % (os.length : Int)), g) := fun g => mod_ok (by omega)
          have hix : ∀ g, dIx (ksD os) (.int (((0 : Int) + i + st) % (os.length : Int))) g = some (.str x, g) := fun g => by rw [ksD, ix_tup', at1]; rfl
          rw [Int.zero_add] at hm hix
          refine ⟨_, (x, b), o2, rfl, ?_, O2.mono (by omega), hx⟩
          simp -implicitDefEqProofs [wipeA, e2, ln, hm, hix, -run_dInt]
          rfl)
        refine ⟨ts, o3, ?_, ⟨by rw [l3, rangeD_len], t3⟩, O3⟩
        simp -implicitDefEqProofs [m_n__law_target, e1, es, sq, ln, e2, hr, e3, -rngK_int]
        exact trim_same rfl
      · obtain ⟨ts, o3, e3, O3, l3, t3⟩ := lc_terms (N := N) (os := os) (g := g) (mg := gSlot 6) (m := eTup (aCons (eFn f_n__law_pick [] (aCons (eVar 0) (aCons (eVar 2) aNil))) (aCons (eFn f_n__law_bit [] (aCons (eVar 0) aNil)) aNil))) (σ := wipeA [some (.ref 0), some (ksD ks), some (ksD os), some (.int w), none, none, none, none] [6]) (ks.map .str) 3 (o := o1) (O1.mono (by rw [hlen]; omega)) (by rw [hlen]; omega) (fun d hd n o' O' => by
          obtain ⟨d1, o1, e1, m1, O1⟩ := r_pick (N := N + 3 * n + 2) (g := g) (Rows.kinds S) (O'.mono (by omega))
          obtain ⟨x, hx, rfl⟩ := List.mem_map.mp m1
          obtain ⟨b, o2, e2, O2⟩ := r_bit (N := N + 3 * n + 1) (g := g) O1
          refine ⟨_, (x, b), o2, rfl, ?_, O2.mono (by omega), hx⟩
          simp -implicitDefEqProofs [wipeA, e1, e2]
          rfl)
        refine ⟨ts, o3, ?_, ⟨by rw [l3, hlen], t3⟩, O3⟩
        by_cases h0 : w = 0
        · have hne : ¬ ks = os := fun z => hA ⟨h0, z⟩
          subst h0
          simp -implicitDefEqProofs [m_n__law_target, e1, es, sq, e3, hne]
          exact trim_same rfl
        · simp -implicitDefEqProofs [m_n__law_target, e1, es, sq, e3, h0, h1, h2]
          exact trim_same rfl
end P

namespace P
open PySem PySem.Spec PyProof.Rows L2 Q G
variable {h g : AH} {i j k : Int} {s t : Str} {b : Bool} {ds : List Q.D} {ks os : List Str} {N : Nat} {o : O}
/-! ### questions drawn -/
theorem rows_last {xs : List Q.D} (h0 : 0 < xs.length) (h1 : xs.length ≤ 1000000) : Rows (g ++ [.lst xs]) (.ref (g.length + 1)) xs :=
  ⟨fun o => len_ref la_last, fun o i => ix_ref la_last, h0, h1⟩
theorem tup_last {o' : O} {xs : List Q.D} : gTuple [.ref (g.length + 1)] (o' :: (g ++ [.lst xs])) = some (.tup xs, o' :: (g ++ [.lst xs])) := tuple_ref la_last
theorem r_question (K : Kinds ks) (O : Ok (N + 600) o) : ∃ q o', f_n__law_question [.ref 0, ksD ks] (o :: g) = .ok (qnD q) (o' :: g) ∧ OverQ ks q ∧ Ok N o' := by
  have kp := K.pos
  have k30 := K.most
  rw [e_n__law_question]
  obtain ⟨b, o1, e1, O1⟩ := r_bit (N := N + 599) (g := g) O
  cases b with
  | true =>
    obtain ⟨s, o2, e2, S2, O2⟩ := r_sentence (N := N) (g := g) (ks := ks) (by omega) (by omega) (O1.mono (by omega))
    refine ⟨.one s, o2, ?_, S2, O2⟩
    simp -implicitDefEqProofs [m_n__law_question, e1, e2, qnD]
    exact trim_same rfl
  | false =>
    obtain ⟨d3, o3, e3, m3, O3⟩ := r_pick (N := N + 598) (g := g ++ [.lst []]) (ds := [.int 1, .int 2, .int 3, .int 5, .int 39, .int 40]) (Rows.fro (by simp) (by simp)) O1
    obtain ⟨n, hn, hn1, rfl⟩ : ∃ n : Nat, 1 ≤ n ∧ n ≤ 40 ∧ d3 = .int n := by
      simp only [List.mem_cons, List.not_mem_nil, or_false] at m3
      rcases m3 with rfl | rfl | rfl | rfl | rfl | rfl
      · exact ⟨1, by omega, by omega, rfl⟩
      · exact ⟨2, by omega, by omega, rfl⟩
      · exact ⟨3, by omega, by omega, rfl⟩
      · exact ⟨5, by omega, by omega, rfl⟩
      · exact ⟨39, by omega, by omega, rfl⟩
      · exact ⟨40, by omega, by omega, rfl⟩
    have hr2 : ∀ g, rngK (.int (n : Int)) g = .ok (rangeD 0 n, fun _ => True) g := fun g => rngK_of (by omega) (by omega)
    obtain ⟨x3, x4, ss, o5, e5, l5, S5, O5⟩ := forL_inv (G := fun _ => True) (g := gSlot 3) (body := b_n__law_question_1)
      (R := fun r => ∃ (x3 x4 : Option Q.D) (ss : List Sen) (o' : Q.O), r = .nx [some (.ref 0), some (ksD ks), some (.ref (g.length + 1)), x3, x4] (o' :: (g ++ [.lst (ss.map snD)])) ∧ ss.length = n ∧ (∀ s ∈ ss, Over ks s) ∧ Ok N o')
      (fun ds σ h' => ∃ (x3 x4 : Option Q.D) (ss : List Sen) (o' : Q.O), σ = [some (.ref 0), some (ksD ks), some (.ref (g.length + 1)), x3, x4] ∧ h' = o' :: (g ++ [.lst (ss.map snD)]) ∧ ss.length + ds.length = n ∧ (∀ s ∈ ss, Over ks s) ∧ Ok (N + 10 * ds.length) o')
      (fun σ h' ⟨x3, x4, ss, o', e1, e2, l, S, O⟩ => ⟨trivial, x3, x4, ss, o', by rw [e1, e2], by simpa using l, S, O.mono (by omega)⟩)
      (fun d ds σ h' ⟨x3, x4, ss, o', e1, e2, l, S, O⟩ => by
        subst e1 e2
        rw [List.length_cons] at l O
        refine ⟨trivial, [some (.ref 0), some (ksD ks), some (.ref (g.length + 1)), some d, x4], o' :: (g ++ [.lst (ss.map snD)]), rfl, ?_⟩
        have hlen := len_ref (h := o' :: (g ++ [.lst (ss.map snD)])) (n := g.length + 1) la_last
        rw [List.length_map] at hlen
        have hap : ∀ (o2 : Q.O) (d : Q.D), mAppend (.ref (g.length + 1)) [d] (o2 :: (g ++ [.lst (ss.map snD)])) = some (.non, o2 :: (g ++ [.lst (ss.map snD ++ [d])])) := fun o2 d => app_last (by rw [List.length_map]; omega)
        have fin : ∀ (s : Sen) (o2 : Q.O) (x : Option Q.D) (r : Out), Over ks s → Ok (N + 10 * ds.length) o2 → r = .nx [some (.ref 0), some (ksD ks), some (.ref (g.length + 1)), some d, x] (o2 :: (g ++ [.lst (ss.map snD ++ [snD s])])) →
            (match r with
              | .nx σ2 h2 => ∃ (x3 x4 : Option Q.D) (ss : List Sen) (o' : Q.O), σ2 = [some (.ref 0), some (ksD ks), some (.ref (g.length + 1)), x3, x4] ∧ h2 = o' :: (g ++ [.lst (ss.map snD)]) ∧ ss.length + ds.length = n ∧ (∀ s ∈ ss, Over ks s) ∧ Ok (N + 10 * ds.length) o'
              | .ct σ2 h2 => ∃ (x3 x4 : Option Q.D) (ss : List Sen) (o' : Q.O), σ2 = [some (.ref 0), some (ksD ks), some (.ref (g.length + 1)), x3, x4] ∧ h2 = o' :: (g ++ [.lst (ss.map snD)]) ∧ ss.length + ds.length = n ∧ (∀ s ∈ ss, Over ks s) ∧ Ok (N + 10 * ds.length) o'
              | .bk σ2 h2 => ∃ (x3 x4 : Option Q.D) (ss : List Sen) (o' : Q.O), Out.nx σ2 h2 = .nx [some (.ref 0), some (ksD ks), some (.ref (g.length + 1)), x3, x4] (o' :: (g ++ [.lst (ss.map snD)])) ∧ ss.length = n ∧ (∀ s ∈ ss, Over ks s) ∧ Ok N o'
              | r => ∃ (x3 x4 : Option Q.D) (ss : List Sen) (o' : Q.O), r = .nx [some (.ref 0), some (ksD ks), some (.ref (g.length + 1)), x3, x4] (o' :: (g ++ [.lst (ss.map snD)])) ∧ ss.length = n ∧ (∀ s ∈ ss, Over ks s) ∧ Ok N o') := fun s o2 x r Os O2 er => by
          subst er
          refine ⟨some d, x, ss ++ [s], o2, rfl, by rw [List.map_append]; rfl, by rw [List.length_append, List.length_singleton]; omega, fun u hu => ?_, O2⟩
          rcases List.mem_append.mp hu with hu | hu
          · exact S u hu
          · rw [List.mem_singleton.mp hu]; exact Os
        by_cases hz : ss.length = 0
        · obtain ⟨s, o2, e2, S2, O2⟩ := r_sentence (N := N + 10 * ds.length) (g := g ++ [.lst (ss.map snD)]) (ks := ks) (by omega) (by omega) (O.mono (by omega))
          have hnp : ¬ 0 < ss.length := by omega
          refine fin s o2 (some (.bl false)) _ S2 O2 ?_
          simp -implicitDefEqProofs [b_n__law_question_1, hlen, hnp, isT_last, e2, hap]
        · have hp : 0 < ss.length := by omega
          obtain ⟨r, o2, e2, _, _, O2⟩ := r_next (N := N + 10 * ds.length + 9) (g := g ++ [.lst (ss.map snD)]) (m := 6) (O.mono (by omega)) (by omega) (by omega)
          by_cases hr : r = 0
          · obtain ⟨d', o3, e3, m3, O3⟩ := r_pick (N := N + 10 * ds.length + 8) (g := g ++ [.lst (ss.map snD)]) (rows_last (xs := ss.map snD) (by rw [List.length_map]; omega) (by rw [List.length_map]; omega)) O2
            obtain ⟨s, hs, rfl⟩ := List.mem_map.mp m3
            refine fin s o3 (some (.bl true)) _ (S s hs) (O3.mono (by omega)) ?_
            simp -implicitDefEqProofs [b_n__law_question_1, hlen, hp, e2, hr, isT_last, e3, hap]
          · obtain ⟨s, o3, e3, S3, O3⟩ := r_sentence (N := N + 10 * ds.length) (g := g ++ [.lst (ss.map snD)]) (ks := ks) (by omega) (by omega) (O2.mono (by omega))
            refine fin s o3 (some (.bl false)) _ S3 O3 ?_
            simp -implicitDefEqProofs [b_n__law_question_1, hlen, hp, e2, hr, isT_last, e3, hap])
      (rangeD 0 n) [some (.ref 0), some (ksD ks), some (.ref (g.length + 1)), none, none] (o3 :: (g ++ [.lst []])) ⟨none, none, [], o3, rfl, rfl, by simp, (fun _ m => nomatch m), O3.mono (by rw [rangeD_len]; omega)⟩
    refine ⟨.many ss, o5, ?_, ⟨by omega, by omega, S5⟩, O5⟩
    simp -implicitDefEqProofs [m_n__law_question, e1, e3, hr2, e5, tup_last, -rngK_int]
    exact trim_str O5 (clo_qn (q := .many ss))
end P

namespace P
open PySem PySem.Spec PyProof.Rows L2 Q G
variable {h g : AH} {i j k : Int} {s t : Str} {b : Bool} {ds : List Q.D} {ks os : List Str} {N : Nat} {o : O}
/-! ### a list and a dict of what stands in it -/
section
variable {α : Type} [DecidableEq α] (E : KeyEnc α)
def H2 (h : AH) (fs : List Q.D) (as : List α) : AH := h ++ [.lst fs, .dt (E.set as)]
theorem h2_list {fs : List Q.D} {as : List α} : Q.listAt (H2 E h fs as) h.length = some fs := listAt_eq (by simp [H2])
theorem h2_obj {fs : List Q.D} {as : List α} : objAt (H2 E h fs as) (.ref (h.length + 1)) = some (.dt (E.set as)) := by
  show (h ++ [O.lst fs, .dt (E.set as)])[h.length + 1]? = _
  rw [List.getElem?_append_right (by omega)]
  simp
theorem h2_in {fs : List Q.D} {as : List α} {a : α} {neg : Bool} : dIn neg (E.enc a) (.ref (h.length + 1)) (H2 E h fs as) = some (.bl (neg != decide (a ∈ as)), H2 E h fs as) := in_set E (h2_obj E)
theorem h2_put {fs : List Q.D} {as : List α} {a : α} (hl : as.length < 16777216) : dSet (.ref (h.length + 1)) (E.enc a) (.bl true) (H2 E h fs as) = some (H2 E h fs (add as a)) := by
  have := set_set E (h := h ++ [.lst fs]) (as := as) (a := a) hl
  rw [List.length_append, List.length_singleton, List.append_assoc, List.append_assoc] at this
  exact this
theorem h2_app {fs : List Q.D} {as : List α} {d : Q.D} (hl : fs.length < 16777216) : mAppend (.ref h.length) [d] (H2 E h fs as) = some (.non, H2 E h (fs ++ [d]) as) := by
  unfold mAppend
  dsimp only
  rw [h2_list]
  dsimp only
  rw [if_pos hl]
  simp [H2]
theorem h2_isT {fs : List Q.D} {as : List α} : isT "list" (H2 E h fs as) (.ref h.length) = true := by
  have := listAt_some (h2_list E (h := h) (fs := fs) (as := as))
  simp [isT, lsq, this]
theorem h2_len {fs : List Q.D} {as : List α} : gLen [.ref h.length] (H2 E h fs as) = some (.int fs.length, H2 E h fs as) := len_ref (h2_list E)
end
theorem trim_h2 {fs : List Q.D} {as : List En} (hd : closeds h.length fs = true) : trimR h true (.ok (.ref h.length) (H2 EN h fs as)) = .ok (.fro fs) h :=
  trim_fro (h1 := h) (g := [.lst fs, .dt (EN.set as)]) (k := 0) rfl okT_app rfl hd
theorem r_different {es : List En} (hl : es.length ≤ 1000) : f_n__law_different [.fro (es.map enD)] h = .ok (.fro ((ddp [] es).map enD)) h := by
  rw [e_n__law_different]
  obtain ⟨x, e1⟩ := forL_inv (G := fun _ => True) (g := gSlot 3) (body := b_n__law_different_1)
    (R := fun r => ∃ (x : Option Q.D), r = .nx [some (.fro (es.map enD)), some (.ref h.length), some (.ref (h.length + 1)), x] (H2 EN h ((ddp [] es).map enD) (ddp [] es)))
    (fun ds σ h' => ∃ (ys acc : List En) (x : Option Q.D), ds = ys.map enD ∧ ddp acc ys = ddp [] es ∧ acc.length + ys.length ≤ 1000 ∧ σ = [some (.fro (es.map enD)), some (.ref h.length), some (.ref (h.length + 1)), x] ∧ h' = H2 EN h (acc.map enD) acc)
    (fun σ h' ⟨ys, acc, x, e1, e2, e3, e4, e5⟩ => by
      cases ys with
      | cons _ _ => cases e1
      | nil =>
        refine ⟨trivial, x, ?_⟩
        rw [e4, e5, ← e2]
        rfl)
    (fun d ds σ h' ⟨ys, acc, x, e1, e2, e3, e4, e5⟩ => by
      cases ys with
      | nil => cases e1
      | cons y ys =>
        cases e1
        subst e4 e5
        rw [List.length_cons] at e3
        refine ⟨trivial, [some (.fro (es.map enD)), some (.ref h.length), some (.ref (h.length + 1)), some (enD y)], H2 EN h (acc.map enD) acc, rfl, ?_⟩
        have hin : ∀ neg, dIn neg (enD y) (.ref (h.length + 1)) (H2 EN h (acc.map enD) acc) = some (.bl (neg != decide (y ∈ acc)), H2 EN h (acc.map enD) acc) := fun neg => (h2_in EN (a := y)).trans (by congr)
        have hput : dSet (.ref (h.length + 1)) (enD y) (.bl true) (H2 EN h (acc.map enD) acc) = some (H2 EN h (acc.map enD) (add acc y)) := h2_put EN (by omega)
        have happ : mAppend (.ref h.length) [enD y] (H2 EN h (acc.map enD) (add acc y)) = some (.non, H2 EN h (acc.map enD ++ [enD y]) (add acc y)) := h2_app EN (by rw [List.length_map]; omega)
        have hist := h2_isT EN (h := h) (fs := acc.map enD) (as := add acc y)
        by_cases hy : y ∈ acc
        · have hb : b_n__law_different_1 [some (.fro (es.map enD)), some (.ref h.length), some (.ref (h.length + 1)), some (enD y)] (H2 EN h (acc.map enD) acc) = .nx [some (.fro (es.map enD)), some (.ref h.length), some (.ref (h.length + 1)), some (enD y)] (H2 EN h (acc.map enD) acc) := by
            simp -implicitDefEqProofs [b_n__law_different_1, hin, hy]
          rw [hb]
          refine ⟨ys, acc, _, rfl, ?_, by omega, rfl, rfl⟩
          rw [← e2, ddp, add, if_pos hy]
        · have hb : b_n__law_different_1 [some (.fro (es.map enD)), some (.ref h.length), some (.ref (h.length + 1)), some (enD y)] (H2 EN h (acc.map enD) acc) = .nx [some (.fro (es.map enD)), some (.ref h.length), some (.ref (h.length + 1)), some (enD y)] (H2 EN h (acc.map enD ++ [enD y]) (add acc y)) := by
            simp -implicitDefEqProofs [b_n__law_different_1, hin, hy, gSubD, hput, happ, hist]
          rw [hb]
          refine ⟨ys, add acc y, _, rfl, by rw [← e2]; rfl, by have := len_add (as := acc) (a := y); omega, rfl, ?_⟩
          rw [add, if_neg hy, List.map_append]
          rfl)
    (es.map enD) [some (.fro (es.map enD)), some (.ref h.length), some (.ref (h.length + 1)), none] (H2 EN h [] []) ⟨es, [], none, rfl, rfl, by simpa using hl, rfl, rfl⟩
  have e1' : forL (fun _ => True) (gSlot 3) b_n__law_different_1 (es.map enD) [some (.fro (es.map enD)), some (.ref h.length), some (.ref (h.length + 1)), none] (h ++ [.lst [], .dt []]) = .nx [some (.fro (es.map enD)), some (.ref h.length), some (.ref (h.length + 1)), x] (H2 EN h ((ddp [] es).map enD) (ddp [] es)) := e1
  simp -implicitDefEqProofs [m_n__law_different, e1']
  exact trim_h2 (clo_ens _)
end P

namespace P
open PySem PySem.Spec PyProof.Rows L2 Q G
variable {h g : AH} {i j k : Int} {s t : Str} {b : Bool} {ds : List Q.D} {ks os : List Str} {N : Nat} {o : O}
/-! ### numbered sentences -/
theorem ix_ks {n : Int} (h0 : 0 ≤ n) (h1 : n < ks.length) : ∃ k ∈ ks, ∀ h, dIx (ksD ks) (.int n) h = some (.str k, h) := by
  obtain ⟨d, ed, at1⟩ := atI_i (xs := ks.map Q.D.str) h0 (by rw [List.length_map]; exact h1)
  obtain ⟨k, hk, rfl⟩ := List.mem_map.mp (List.mem_of_getElem? ed)
  exact ⟨k, hk, fun h => by rw [ksD, ix_tup', at1]; rfl⟩
theorem ln_ks : gLen [ksD ks] h = some (.int ks.length, h) := by rw [ksD, len_tup', List.length_map]
theorem r_numbered (K : Kinds ks) {n : Int} (h0 : 0 ≤ n) (h1 : n < 10 ^ 60) : ∃ s, f_n__law_numbered [ksD ks, .int n] h = .ok (snD s) h ∧ Over ks s := by
  have kp := K.pos
  have k30 := K.most
  have ln : ∀ h, gLen [ksD ks] h = some (.int ks.length, h) := fun h => ln_ks
  have hT : ∀ h, dMul (.int 2) (.int (ks.length : Int)) h = some (.int (2 * (ks.length : Int)), h) := fun h => mul_ok (by omega) (by omega) (by omega) (by omega)
  obtain ⟨T, hTe⟩ : ∃ T : Int, T = 2 * (ks.length : Int) := ⟨_, rfl⟩
  rw [← hTe] at hT
  have m4 : ∀ h, dMod (.int n) (.int 4) h = some (.int (n % 4), h) := fun h => mod_ok (by omega)
  have d4 : ∀ h, dDiv (.int n) (.int 4) h = some (.int (n / 4), h) := fun h => div_ok (by omega) (by omega)
  have hq : ∀ h, dMul (.int 4) (.int T) h = some (.int (4 * T), h) := fun h => mul_ok (by omega) (by omega) (by omega) (by omega)
  have ma : ∀ x h, dMod (.int x) (.int T) h = some (.int (x % T), h) := fun x h => mod_ok (by omega)
  have dq : ∀ h, dDiv (.int n) (.int (4 * T)) h = some (.int (n / (4 * T)), h) := fun h => div_ok (by omega) (by omega)
  obtain ⟨a, ha⟩ : ∃ a : Int, a = n / 4 % T := ⟨_, rfl⟩
  obtain ⟨c, hc⟩ : ∃ c : Int, c = n / (4 * T) % T := ⟨_, rfl⟩
  have ma1 : ∀ h, dMod (.int (n / 4)) (.int T) h = some (.int a, h) := fun h => ha ▸ ma _ h
  have mc1 : ∀ h, dMod (.int (n / (4 * T))) (.int T) h = some (.int c, h) := fun h => hc ▸ ma _ h
  have a0 : 0 ≤ a := ha ▸ Int.emod_nonneg _ (by omega)
  have a1 : a < T := ha ▸ Int.emod_lt_of_pos _ (by omega)
  have c0 : 0 ≤ c := hc ▸ Int.emod_nonneg _ (by omega)
  have c1 : c < T := hc ▸ Int.emod_lt_of_pos _ (by omega)
  have a2 : ∀ h, dDiv (.int a) (.int 2) h = some (.int (a / 2), h) := fun h => div_ok (by omega) (by omega)
  have c2 : ∀ h, dDiv (.int c) (.int 2) h = some (.int (c / 2), h) := fun h => div_ok (by omega) (by omega)
  have am : ∀ h, dMod (.int a) (.int 2) h = some (.int (a % 2), h) := fun h => mod_ok (by omega)
  have cm : ∀ h, dMod (.int c) (.int 2) h = some (.int (c % 2), h) := fun h => mod_ok (by omega)
  obtain ⟨x, hx, ix⟩ := ix_ks (ks := ks) (n := a / 2) (by omega) (by omega)
  obtain ⟨y, hy, iy⟩ := ix_ks (ks := ks) (n := c / 2) (by omega) (by omega)
  have w0 : 0 ≤ n % 4 := Int.emod_nonneg _ (by omega)
  have w1 : n % 4 < 4 := Int.emod_lt_of_pos _ (by omega)
  obtain ⟨d, ed, at1⟩ := atI_i (xs := [Q.D.str "all", .str "some", .str "more", .str "many"]) w0 (by simpa using w1)
  obtain ⟨w, hw, rfl⟩ : ∃ w ∈ WD, d = .str w := by
    have m1 := List.mem_of_getElem? ed
    simp only [List.mem_cons, List.not_mem_nil, or_false] at m1
    rcases m1 with rfl | rfl | rfl | rfl
    · exact ⟨_, by simp [WD], rfl⟩
    · exact ⟨_, by simp [WD], rfl⟩
    · exact ⟨_, by simp [WD], rfl⟩
    · exact ⟨_, by simp [WD], rfl⟩
  refine ⟨⟨w, (x, decide (a % 2 = 1)), (y, decide (c % 2 = 1))⟩, ?_, ⟨hw, hx, hy⟩⟩
  rw [e_n__law_numbered]
  simp -implicitDefEqProofs [m_n__law_numbered, ln, hT, m4, d4, hq, ma1, mc1, dq, a2, c2, am, cm, ix, iy, at1, -run_dInt]
  exact trim_same rfl
end P

namespace P
open PySem PySem.Spec PyProof.Rows L2 Q G
variable {h g : AH} {i j k : Int} {s t : Str} {b : Bool} {ds : List Q.D} {ks os : List Str} {N : Nat} {o : O} {ts : List Tm}
/-! ### translation goes with contraries and mirrors -/
@[simp] theorem flp_flp {t : Tm} : flp (flp t) = t := by simp [flp]
theorem tr_flp {t : Tm} : tr ks ts (flp t) = flp (tr ks ts t) := by
  unfold tr
  cases h : t.2 <;> simp [flp, h]
theorem cont_tr {s : Sen} : cont (trS ks ts s) = trS ks ts (cont s) := by
  unfold cont
  by_cases h1 : s.w = "all"
  · simp [trS, h1, tr_flp]
  · by_cases h2 : s.w = "some"
    · simp [trS, h1, h2, tr_flp]
    · by_cases h3 : s.w = "more" <;> simp [trS, h1, h2, h3]
theorem mir_tr {s : Sen} : mir (trS ks ts s) = trS ks ts (mir s) := by
  unfold mir
  by_cases h1 : s.w = "some" <;> simp [trS, h1, tr_flp]
theorem alw_tr {s : Sen} (h : alw s = true) : alw (trS ks ts s) = true := by
  unfold alw at *
  simp only [Bool.and_eq_true, decide_eq_true_eq] at h
  simp [trS, h.1, h.2]
theorem alw_cont {s : Sen} (h : alw (cont s) = true) : alw (trS ks ts s) = false := by
  unfold alw cont at *
  by_cases h1 : s.w = "all"
  · simp [h1] at h
  · by_cases h2 : s.w = "some"
    · simp [trS, h2]
    · by_cases h3 : s.w = "more"
      · simp [trS, h3]
      · simp [h1, h2, h3] at h
theorem its_tr {s : Sen} : its s = "open" ∨ its (trS ks ts s) = its s := by
  unfold its
  by_cases h1 : alw s = true
  · rw [if_pos h1, if_pos (alw_tr h1)]; exact .inr rfl
  · rw [if_neg h1]
    by_cases h2 : alw (cont s) = true
    · rw [if_pos h2, if_neg (by rw [alw_cont h2]; simp), cont_tr, if_pos (alw_tr h2)]; exact .inr rfl
    · rw [if_neg h2]; exact .inl rfl
end P

namespace P
open PySem PySem.Spec PyProof.Rows L2 Q G
variable {h g : AH} {i j k : Int} {s : Sen} {b : Bool} {ds : List Q.D} {ks os : List Str} {N : Nat} {o : O} {ts : List Tm}
theorem over_cont (O : Over ks s) : Over ks (cont s) := by
  unfold cont
  by_cases h1 : s.w = "all"
  · rw [if_pos h1]; exact ⟨show ("some" : Str) ∈ WD by decide, O.a, O.b⟩
  · rw [if_neg h1]
    by_cases h2 : s.w = "some"
    · rw [if_pos h2]; exact ⟨show ("all" : Str) ∈ WD by decide, O.a, O.b⟩
    · rw [if_neg h2]
      refine ⟨?_, O.b, O.a⟩
      show (if s.w = "more" then ("many" : Str) else "more") ∈ WD
      split <;> decide
theorem over_mir (O : Over ks s) : Over ks (mir s) := by
  unfold mir
  split
  · exact ⟨O.w, O.b, O.a⟩
  · exact ⟨O.w, O.b, O.a⟩
theorem r_tr1 (K : Kinds ks) (S : Kinds os) (T : Terms ks os ts) (O : Over ks s) : f_translated [ksD ks, ksD os, tsD ts, snD s] h = .ok (snD (trS ks ts s)) h := r_translated (q := .one s) K S T O
theorem sz_sn : sz (snD s) < 2000000 := by simp [snD, tmD, sz, szs]
theorem pln_sn : pln (snD s) = true := by simp [snD, tmD, pln, plns]
theorem r_goes (K : Kinds ks) (S : Kinds os) (T : Terms ks os ts) (O : Over ks s) : f_n__law_goes [ksD ks, ksD os, tsD ts, snD s] h = .ok (.bl true) h := by
  have F := O.free K.kind
  have F2 := (trS_over T O).free S.kind
  have c1 := r_tr1 (h := h) K S T O
  have c2 := r_tr1 (h := h) K S T (over_cont O)
  have c3 := r_tr1 (h := h) K S T (over_mir O)
  have d1 := r_contrary (h := h) F2
  have d2 := r_mirror (h := h) F2
  rw [cont_tr] at d1
  rw [mir_tr] at d2
  rw [e_n__law_goes]
  have ii := its_tr (ks := ks) (ts := ts) (s := s)
  rcases ii with e | e
  · simp -implicitDefEqProofs [m_n__law_goes, c1, r_contrary F, c2, d1, r_law_same sz_sn pln_sn, r_mirror F, c3, d2, r_by_itself F, e]
    exact trim_same rfl
  · simp -implicitDefEqProofs [m_n__law_goes, c1, r_contrary F, c2, d1, r_law_same sz_sn pln_sn, r_mirror F, c3, d2, r_by_itself F, r_by_itself F2, e]
    exact trim_same rfl
end P

namespace P
open PySem PySem.Spec PyProof.Rows L2 Q G
variable {h g : AH} {i j k : Int} {s : Sen} {b : Bool} {ds : List Q.D} {ks os : List Str} {N : Nat} {o : O} {ts ms : List Tm}
theorem lk_map {f : Tm → Tm} : ∀ {ks : List Str} {ts : List Tm} {x : Str}, x ∈ ks → ts.length = ks.length → lk ks (ts.map f) x = f (lk ks ts x)
  | [], _, _, m, _ => by cases m
  | k :: ks, [], _, _, l => by cases l
  | k :: ks, t :: ts, x, m, l => by
    rw [List.map_cons, lk, lk]
    by_cases e : k = x
    · rw [if_pos e, if_pos e]
    · rw [if_neg e, if_neg e]
      rcases List.mem_cons.mp m with z | z
      · exact absurd z.symm e
      · exact lk_map z (by simpa using l)
theorem tr_tr {t : Tm} (hl : ts.length = ks.length) (m : t.1 ∈ ks) : tr os ms (tr ks ts t) = tr ks (ts.map (tr os ms)) t := by
  unfold tr
  cases h : t.2 with
  | true => simp [lk_map m hl, tr]
  | false =>
    simp only [Bool.false_eq_true, if_false, lk_map m hl]
    exact tr_flp
theorem trS_trS (hl : ts.length = ks.length) (O : Over ks s) : trS os ms (trS ks ts s) = trS ks (ts.map (tr os ms)) s := by
  unfold trS
  rw [tr_tr hl O.a, tr_tr hl O.b]
theorem trQ_trQ {q : Qn} (hl : ts.length = ks.length) (O : OverQ ks q) : trQ os ms (trQ ks ts q) = trQ ks (ts.map (tr os ms)) q := by
  cases q with
  | one s => simp only [trQ]; rw [trS_trS hl O]
  | many ss =>
    simp only [trQ, List.map_map]
    congr 1
    exact List.map_congr_left fun s hs => trS_trS hl (O.2.2 s hs)
end P

namespace P
open PySem PySem.Spec PyProof.Rows L2 Q G
variable {h g : AH} {i j k : Int} {s : Sen} {b : Bool} {ds : List Q.D} {ks os : List Str} {N : Nat} {o : O} {ts ms : List Tm}
theorem szs_sns : ∀ ss : List Sen, szs (ss.map snD) = 8 * ss.length
  | [] => rfl
  | s :: ss => by
    rw [List.map_cons, szs, szs_sns ss, List.length_cons]
    simp [snD, tmD, sz, szs]
    omega
theorem plns_sns : ∀ ss : List Sen, plns (ss.map snD) = true
  | [] => rfl
  | s :: ss => by rw [List.map_cons, plns, pln_sn, plns_sns ss]; rfl
theorem sz_qn {q : Qn} (O : OverQ ks q) : sz (qnD q) < 2000000 := by
  cases q with
  | one s => exact sz_sn
  | many ss =>
    have := O.2.1
    rw [qnD, sz, szs_sns]
    omega
theorem pln_qn {q : Qn} : pln (qnD q) = true := by
  cases q with
  | one s => exact pln_sn
  | many ss => rw [qnD, pln]; exact plns_sns ss
theorem terms_map (T : Terms ks os ts) {xs : List Str} (M : Terms os xs ms) : Terms ks xs (ts.map (tr os ms)) := by
  refine ⟨by rw [List.length_map]; exact T.len, fun t ht => ?_⟩
  obtain ⟨u, hu, rfl⟩ := List.mem_map.mp ht
  exact tr_over M (T.ov u hu)
theorem r_twice {q : Qn} (K : Kinds ks) (S : Kinds os) (T : Terms ks os ts) (Q : OverQ ks q) (O : Ok (N + 50000) o) : ∃ o', f_n__law_twice [.ref 0, ksD ks, ksD os, tsD ts, qnD q] (o :: g) = .ok (.bl true) (o' :: g) ∧ Ok N o' := by
  rw [e_n__law_twice]
  obtain ⟨d1, o1, e1, m1, O1⟩ := r_pick (N := N + 49999) (g := g) (ds := [.int 1, .int 2, .int 5, .int 30]) (Rows.fro (by simp) (by simp)) O
  obtain ⟨n, hn, hn1, rfl⟩ : ∃ n : Int, 1 ≤ n ∧ n ≤ 30 ∧ d1 = .int n := by
    simp only [List.mem_cons, List.not_mem_nil, or_false] at m1
    rcases m1 with rfl | rfl | rfl | rfl
    · exact ⟨1, by omega, by omega, rfl⟩
    · exact ⟨2, by omega, by omega, rfl⟩
    · exact ⟨5, by omega, by omega, rfl⟩
    · exact ⟨30, by omega, by omega, rfl⟩
  obtain ⟨xs, o2, e2, X, O2⟩ := r_kinds (N := N + 9000) (g := g) hn hn1 (O1.mono (by omega))
  obtain ⟨ms, o3, e3, M, O3⟩ := r_target (N := N) (g := g) S X (O2.mono (by omega))
  have t1 := r_translated (h := o3 :: g) K S T Q
  have t2 := r_translated (h := o3 :: g) S X M (trQ_over T Q)
  have t3 := r_translated (h := o3 :: g) K X (terms_map T M) Q
  rw [trQ_trQ T.len Q] at t2
  have sm := r_law_same (h := o3 :: g) (sz_qn (trQ_over (terms_map T M) Q)) pln_qn
  have lc : ∀ σ, lcL (fun _ => True) (gSlot 9) tYesM (eFn f_n__law_term_by [] (aCons (eVar 2) (aCons (eVar 6) (aCons (eVar 9) aNil)))) (wipeA [some (.ref 0), some (ksD ks), some (ksD os), some (tsD ts), some (qnD q), some (ksD xs), some (tsD ms), none, none, none] [9]) (ts.map tmD) [] (o3 :: g) = .ok (ts.map fun t => tmD (tr os ms t)) (o3 :: g) := fun _ : Unit => by
    refine lc_enc tmD (fun t => tmD (tr os ms t)) trivial ts (fun t ht => ⟨_, rfl, ?_⟩) (by have := T.len; have := K.most; omega)
    simp -implicitDefEqProofs [wipeA, r_term_by S M.len (T.ov t ht)]
  have lc := lc ()
  have sq : ∀ h, seqK (tsD ts) h = .ok (ts.map tmD, fun _ => True) h := fun _ => rfl
  have ew : _root_.Q.D.tup (ts.map fun t => tmD (tr os ms t)) = tsD (ts.map (tr os ms)) := by rw [tsD, List.map_map]; rfl
  refine ⟨o3, ?_, O3⟩
  simp -implicitDefEqProofs [m_n__law_twice, e1, e2, e3, sq, lc, ew, t1, t2, t3, sm]
  exact trim_same rfl
end P

namespace P
open PySem PySem.Spec PyProof.Rows L2 Q G
variable {h g : AH} {i j k : Int} {b : Bool} {ds : List Q.D} {ks os : List Str} {N : Nat} {o : O} {ts ms : List Tm}
/-! ### entries drawn -/
/-- what is found so far -/
structure Fnd (ks : List Str) (most : Int) (es : List En) : Prop where
  nd : es.Nodup
  ent : ∀ e ∈ es, Entry ks e
  len : es.length ≤ most
abbrev σe (most : Int) (ks : List Str) (n : Nat) (x5 x6 x7 x8 x9 x10 x11 : Option Q.D) : AS := [some (.ref 0), some (ksD ks), some (.int most), some (.ref n), some (.ref (n + 1)), x5, x6, x7, x8, x9, x10, x11]
theorem Fnd.add {most : Int} {es : List En} (F : Fnd ks most es) {e : En} (E : Entry ks e) (hn : e ∉ es) (hl : (es.length : Int) < most) : Fnd ks most (es ++ [e]) := by
  refine ⟨?_, fun x hx => ?_, by rw [List.length_append, List.length_singleton]; omega⟩
  · rw [List.nodup_append]
    exact ⟨F.nd, by simp, fun a ha c hc => by rw [List.mem_singleton.mp hc]; exact fun z => hn (z ▸ ha)⟩
  · rcases List.mem_append.mp hx with hx | hx
    · exact F.ent x hx
    · rw [List.mem_singleton.mp hx]; exact E
section
variable {es : List En} {e : En}
abbrev HH (g : AH) (o : O) (fs as : List En) : AH := o :: (g ++ [.lst (fs.map enD), .dt (EN.set as)])
theorem hh_in {neg : Bool} {fs as : List En} : dIn neg (enD e) (.ref (g.length + 2)) (HH g o fs as) = some (.bl (neg != decide (e ∈ as)), HH g o fs as) := (h2_in EN (h := o :: g) (a := e)).trans (by congr)
theorem hh_put {fs as : List En} (hn : e ∉ as) (hl : as.length < 16777216) : dSet (.ref (g.length + 2)) (enD e) (.bl true) (HH g o fs as) = some (HH g o fs (as ++ [e])) := by
  have := h2_put EN (h := o :: g) (fs := fs.map enD) (as := as) (a := e) hl
  unfold Q.add at this
  rw [if_neg hn] at this
  exact this
theorem hh_app {fs as : List En} (hl : fs.length < 16777216) : mAppend (.ref (g.length + 1)) [enD e] (HH g o fs as) = some (.non, HH g o (fs ++ [e]) as) := by
  have := h2_app EN (h := o :: g) (fs := fs.map enD) (as := as) (d := enD e) (by rw [List.length_map]; exact hl)
  rw [show fs.map enD ++ [enD e] = (fs ++ [e]).map enD by rw [List.map_append]; rfl] at this
  exact this
theorem hh_isT {fs as : List En} : isT "list" (HH g o fs as) (.ref (g.length + 1)) = true := h2_isT EN (h := o :: g)
theorem hh_len {fs as : List En} : gLen [.ref (g.length + 1)] (HH g o fs as) = some (.int fs.length, HH g o fs as) := by
  have := h2_len EN (h := o :: g) (fs := fs.map enD) (as := as)
  rw [List.length_map] at this
  exact this
end
/-- a new entry, if there is room: the first loop's turn -/
theorem ent_turn1 (K : Kinds ks) {most : Int} {es : List En} (F : Fnd ks most es) (hm : most ≤ 150) {x5 x6 x7 x8 x9 x10 x11 : Option Q.D} (O : Ok (N + 9) o) :
    ∃ es' o' y, b_n__law_entries_1 (σe most ks (g.length + 1) x5 x6 x7 x8 x9 x10 x11) (HH g o es es) = .nx (σe most ks (g.length + 1) x5 x6 x7 x8 x9 y x11) (HH g o' es' es') ∧ Fnd ks most es' ∧ Ok N o' := by
  have kp := K.pos
  have k30 := K.most
  have fl := F.len
  obtain ⟨r, o1, e1, r0, r1, O1⟩ := r_next (N := N + 8) (g := g ++ [.lst (es.map enD), .dt (EN.set es)]) (m := 6) O (by omega) (by omega)
  obtain ⟨s, o2, e2, S2, O2⟩ := r_sentence (N := N) (g := g ++ [.lst (es.map enD), .dt (EN.set es)]) (ks := ks) (by omega) (by omega) O1
  have E : Entry ks (r, s) := ⟨r0, by show r ≤ 5; omega, S2⟩
  have hin : dIn true (.tup [.int r, snD s]) (.ref (g.length + 2)) (HH g o2 es es) = some (.bl (true != decide ((r, s) ∈ es)), HH g o2 es es) := hh_in (e := (r, s))
  have hlen := hh_len (g := g) (o := o2) (fs := es) (as := es)
  by_cases hc : (r, s) ∉ es ∧ (es.length : Int) < most
  · obtain ⟨hn, hl⟩ := hc
    have hput : dSet (.ref (g.length + 2)) (.tup [.int r, snD s]) (.bl true) (HH g o2 es es) = some (HH g o2 es (es ++ [(r, s)])) := hh_put (e := (r, s)) hn (by omega)
    have happ : mAppend (.ref (g.length + 1)) [.tup [.int r, snD s]] (HH g o2 es (es ++ [(r, s)])) = some (.non, HH g o2 (es ++ [(r, s)]) (es ++ [(r, s)])) := hh_app (e := (r, s)) (by omega)
    refine ⟨es ++ [(r, s)], o2, some (.tup [.int r, snD s]), ?_, F.add E hn hl, O2⟩
    simp -implicitDefEqProofs [b_n__law_entries_1, σe, HH] at *
    simp -implicitDefEqProofs [b_n__law_entries_1, σe, e1, e2, hin, hn, hlen, hl, gSubD, hput, happ, hh_isT]
  · refine ⟨es, o2, some (.tup [.int r, snD s]), ?_, F, O2⟩
    by_cases hn : (r, s) ∈ es
    · simp -implicitDefEqProofs [b_n__law_entries_1, σe, HH] at *
      simp -implicitDefEqProofs [b_n__law_entries_1, σe, e1, e2, hin, hn]
    · have hl : ¬ (es.length : Int) < most := fun z => hc ⟨hn, z⟩
      simp -implicitDefEqProofs [b_n__law_entries_1, σe, HH] at *
      have hl' : ¬ (es.length : Int) < most := by omega
      simp -implicitDefEqProofs [b_n__law_entries_1, σe, e1, e2, hin, hn, hlen, hl']
/-- the second loop's turn -/
theorem ent_turn2 (K : Kinds ks) {most : Int} {es : List En} (F : Fnd ks most es) (hm : most ≤ 150) {T nu kk : Int} (T0 : 0 < T) (T1 : T < 10 ^ 40) {x5 x9 x10 x11 : Option Q.D} :
    (b_n__law_entries_2 (σe most ks (g.length + 1) x5 (some (.int T)) (some (.int nu)) (some (.int kk)) x9 x10 x11) (HH g o es es) = .bk (σe most ks (g.length + 1) x5 (some (.int T)) (some (.int nu)) (some (.int kk)) x9 x10 x11) (HH g o es es)) ∨
    ∃ es' y z, b_n__law_entries_2 (σe most ks (g.length + 1) x5 (some (.int T)) (some (.int nu)) (some (.int kk)) x9 x10 x11) (HH g o es es) = .nx (σe most ks (g.length + 1) x5 (some (.int T)) (some (.int nu)) (some (.int kk)) x9 y z) (HH g o es' es') ∧ Fnd ks most es' := by
  have fl := F.len
  have hlen := hh_len (g := g) (o := o) (fs := es) (as := es)
  by_cases hc : most ≤ (es.length : Int) ∨ 2000 < kk
  · refine .inl ?_
    simp -implicitDefEqProofs [b_n__law_entries_2, σe, HH] at *
    rcases hc with hc | hc
    · simp -implicitDefEqProofs [b_n__law_entries_2, σe, hlen, hc]
    · by_cases h2 : most ≤ (es.length : Int)
      · simp -implicitDefEqProofs [b_n__law_entries_2, σe, hlen, h2]
      · simp -implicitDefEqProofs [b_n__law_entries_2, σe, hlen, h2, hc]
  · refine .inr ?_
    have hc1 : ¬ most ≤ (es.length : Int) := fun z => hc (.inl z)
    have hc2 : ¬ 2000 < kk := fun z => hc (.inr z)
    obtain ⟨he, hhe⟩ : ∃ he : Int, he = (nu + kk) % T := ⟨_, rfl⟩
    have m1 : ∀ h, dMod (.int (nu + kk)) (.int T) h = some (.int he, h) := fun h => hhe ▸ mod_ok T0
    have b0 : 0 ≤ he := hhe ▸ Int.emod_nonneg _ (by omega)
    have b1 : he < T := hhe ▸ Int.emod_lt_of_pos _ T0
    clear hhe
    have m2 : ∀ h, dMod (.int he) (.int 6) h = some (.int (he % 6), h) := fun h => mod_ok (by omega)
    have d2 : ∀ h, dDiv (.int he) (.int 6) h = some (.int (he / 6), h) := fun h => div_ok (by omega) (by omega)
    obtain ⟨s, e2, S2⟩ := r_numbered (h := HH g o es es) K (n := he / 6) (by omega) (by omega)
    have E : Entry ks (he % 6, s) := ⟨by show 0 ≤ he % 6; omega, by show he % 6 ≤ 5; omega, S2⟩
    have hin : dIn true (.tup [.int (he % 6), snD s]) (.ref (g.length + 2)) (HH g o es es) = some (.bl (true != decide ((he % 6, s) ∈ es)), HH g o es es) := hh_in (e := (he % 6, s))
    by_cases hn : (he % 6, s) ∈ es
    · refine ⟨es, some (.tup [.int (he % 6), snD s]), some (.int he), ?_, F⟩
      simp -implicitDefEqProofs only [HH] at hlen hin e2 ⊢
      have q1 : ¬ most ≤ (es.length : Int) := by omega
      have q2 : ¬ 2000 < kk := by omega
      simp -implicitDefEqProofs [-run_dInt, b_n__law_entries_2, σe, hlen, q1, q2, m1, m2, d2, e2, hin, hn]
    · have hput : dSet (.ref (g.length + 2)) (.tup [.int (he % 6), snD s]) (.bl true) (HH g o es es) = some (HH g o es (es ++ [(he % 6, s)])) := hh_put (e := (he % 6, s)) hn (by omega)
      have happ : mAppend (.ref (g.length + 1)) [.tup [.int (he % 6), snD s]] (HH g o es (es ++ [(he % 6, s)])) = some (.non, HH g o (es ++ [(he % 6, s)]) (es ++ [(he % 6, s)])) := hh_app (e := (he % 6, s)) (by omega)
      refine ⟨es ++ [(he % 6, s)], some (.tup [.int (he % 6), snD s]), some (.int he), ?_, F.add E hn (by omega)⟩
      simp -implicitDefEqProofs only [HH] at hlen hin e2 hput happ ⊢
      have q1 : ¬ most ≤ (es.length : Int) := by omega
      have q2 : ¬ 2000 < kk := by omega
      simp -implicitDefEqProofs [-run_dInt, b_n__law_entries_2, σe, hlen, q1, q2, m1, m2, d2, e2, hin, hn, gSubD, hput, happ, hh_isT]
end P

namespace P
open PySem PySem.Spec PyProof.Rows L2 Q G
variable {h g : AH} {i j k : Int} {b : Bool} {ds : List Q.D} {ks os : List Str} {N : Nat} {o : O} {ts ms : List Tm}
theorem cutD_from {xs : List Q.D} {n : Int} (h0 : 0 ≤ n) : cutD xs (some n) none = xs.drop n.toNat := by
  unfold Q.cutD
  rw [sIx_some h0, HT.sIx_none]
  by_cases hn : n.toNat ≤ xs.length
  · rw [Nat.min_eq_left hn, List.take_of_length_le (by rw [List.length_drop]; omega)]
  · rw [Nat.min_eq_right (by omega), List.drop_length, List.drop_of_length_le (by omega), List.take_nil]
theorem cutD_to {xs : List Q.D} {n : Int} (h0 : 0 ≤ n) : cutD xs none (some n) = xs.take n.toNat := by
  unfold Q.cutD
  rw [sIx_some h0, HT.sIx_none, List.drop_zero, Nat.sub_zero]
  by_cases hn : n.toNat ≤ xs.length
  · rw [Nat.min_eq_left hn]
  · rw [Nat.min_eq_right (by omega), List.take_length, List.take_of_length_le (by omega)]
theorem sl_ref {n : Nat} {xs : List Q.D} {lo hi : Option Int} (e : Q.listAt h n = some xs) : dSl (.ref n) lo hi h = some (.fro (Q.cutD xs lo hi), h) := by
  have e2 := listAt_some e
  simp [dSl, Q.lsq, e2]
theorem Fnd.turn {most : Int} {es : List En} (F : Fnd ks most es) (n : Nat) : Fnd ks most (es.drop n ++ es.take n) := by
  have p : (es.drop n ++ es.take n).Perm es := by
    have := List.perm_append_comm (l₁ := es.drop n) (l₂ := es.take n)
    rw [List.take_append_drop] at this
    exact this
  exact ⟨p.nodup_iff.mpr F.nd, fun e he => F.ent e (p.mem_iff.mp he), by rw [p.length_eq]; exact F.len⟩
theorem r_entries (K : Kinds ks) {most : Int} (m0 : 0 ≤ most) (m1 : most ≤ 150) (O : Ok (N + 400) o) : ∃ es o', f_n__law_entries [.ref 0, ksD ks, .int most] (o :: g) = .ok (.fro (es.map enD)) (o' :: g) ∧ Fnd ks most es ∧ Ok N o' := by
  have kp := K.pos
  have k30 := K.most
  rw [e_n__law_entries]
  obtain ⟨d1, o1, e1, mm, O1⟩ := r_pick (N := N + 399) (g := g ++ [.lst [], .dt []]) (ds := [.int 0, .int 2, .int 6, .int 20]) (Rows.fro (by simp) (by simp)) O
  obtain ⟨n, hn1, rfl⟩ : ∃ n : Nat, n ≤ 20 ∧ d1 = .int n := by
    simp only [List.mem_cons, List.not_mem_nil, or_false] at mm
    rcases mm with rfl | rfl | rfl | rfl
    · exact ⟨0, by omega, rfl⟩
    · exact ⟨2, by omega, rfl⟩
    · exact ⟨6, by omega, rfl⟩
    · exact ⟨20, by omega, rfl⟩
  have hr : ∀ g, rngK (.int (n : Int)) g = .ok (rangeD 0 n, fun _ => True) g := fun g => rngK_of (by omega) (by omega)
  -- the first loop
  obtain ⟨x5, x10, es1, o2, e2, F2, O2⟩ := forL_inv (G := fun _ => True) (g := gSlot 5) (body := b_n__law_entries_1)
    (R := fun r => ∃ (x5 x10 : Option Q.D) (es : List En) (o' : Q.O), r = .nx (σe most ks (g.length + 1) x5 none none none none x10 none) (HH g o' es es) ∧ Fnd ks most es ∧ Ok (N + 10) o')
    (fun ds σ h' => ∃ (x5 x10 : Option Q.D) (es : List En) (o' : Q.O), σ = σe most ks (g.length + 1) x5 none none none none x10 none ∧ h' = HH g o' es es ∧ Fnd ks most es ∧ Ok (N + 10 + 9 * ds.length) o')
    (fun σ h' ⟨x5, x10, es, o', a, c, F, O⟩ => ⟨trivial, x5, x10, es, o', by rw [a, c], F, O.mono (by omega)⟩)
    (fun d ds σ h' ⟨x5, x10, es, o', a, c, F, O⟩ => by
      subst a c
      rw [List.length_cons] at O
      refine ⟨trivial, σe most ks (g.length + 1) (some d) none none none none x10 none, HH g o' es es, rfl, ?_⟩
      obtain ⟨es', o'', y, eb, F', O'⟩ := ent_turn1 (g := g) (x5 := some d) (x6 := none) (x7 := none) (x8 := none) (x9 := none) (x10 := x10) (x11 := none) (N := N + 10 + 9 * ds.length) K F m1 (O.mono (by omega))
      rw [eb]
      exact ⟨some d, y, es', o'', rfl, rfl, F', O'⟩)
    (rangeD 0 n) (σe most ks (g.length + 1) none none none none none none none) (HH g o1 [] []) ⟨none, none, [], o1, rfl, rfl, ⟨List.nodup_nil, (fun _ m => nomatch m), by simpa using m0⟩, O1.mono (by rw [rangeD_len]; omega)⟩
  have l1 := F2.len
  obtain ⟨T, hT⟩ : ∃ T : Int, T = 96 * (ks.length : Int) * (ks.length : Int) := ⟨_, rfl⟩
  have T0 : 0 < T := by rw [hT]; exact Int.mul_pos (by omega) (by omega)
  have T1 : T ≤ 86400 := by
    rw [hT]
    have : (ks.length : Int) * ks.length ≤ 30 * 30 := Int.mul_le_mul (by omega) (by omega) (by omega) (by omega)
    rw [Int.mul_assoc]; omega
  have t1 : ∀ h, dMul (.int 96) (.int (ks.length : Int)) h = some (.int (96 * (ks.length : Int)), h) := fun h => mul_ok (by omega) (by omega) (by omega) (by omega)
  have t2 : ∀ h, dMul (.int (96 * (ks.length : Int))) (.int (ks.length : Int)) h = some (.int T, h) := fun h => hT ▸ mul_ok (by omega) (by omega) (by omega) (by omega)
  clear hT
  obtain ⟨nu, o3, e3, n0, n1, O3⟩ := r_next (N := N + 9) (g := g ++ [.lst (es1.map enD), .dt (EN.set es1)]) (m := T) O2 T0 (by omega)
  have hT2 : ∀ g, rngK (.int T) g = .ok (rangeD 0 T.toNat, fun _ => True) g := fun g => rngK_of (by omega) (by omega)
  obtain ⟨y8, y10, y11, es2, e4, F4⟩ := forL_inv (G := fun _ => True) (g := gSlot 8) (body := b_n__law_entries_2)
    (R := fun r => ∃ (x8 x10 x11 : Option Q.D) (es : List En), r = .nx (σe most ks (g.length + 1) x5 (some (.int T)) (some (.int nu)) x8 none x10 x11) (HH g o3 es es) ∧ Fnd ks most es)
    (fun ds σ h' => (∀ d ∈ ds, ∃ k : Int, d = .int k) ∧ ∃ (x8 x10 x11 : Option Q.D) (es : List En), σ = σe most ks (g.length + 1) x5 (some (.int T)) (some (.int nu)) x8 none x10 x11 ∧ h' = HH g o3 es es ∧ Fnd ks most es)
    (fun σ h' ⟨_, x8, x10, x11, es, a, c, F⟩ => ⟨trivial, x8, x10, x11, es, by rw [a, c], F⟩)
    (fun d ds σ h' ⟨hd, x8, x10, x11, es, a, c, F⟩ => by
      subst a c
      obtain ⟨kk, rfl⟩ := hd d List.mem_cons_self
      refine ⟨trivial, σe most ks (g.length + 1) x5 (some (.int T)) (some (.int nu)) (some (.int kk)) none x10 x11, HH g o3 es es, rfl, ?_⟩
      rcases ent_turn2 (g := g) (o := o3) (x5 := x5) (x9 := none) (x10 := x10) (x11 := x11) (nu := nu) (kk := kk) K F m1 T0 (by omega) with eb | ⟨es', y, z, eb, F'⟩
      · rw [eb]
        exact ⟨_, _, _, es, rfl, F⟩
      · rw [eb]
        exact ⟨fun x hx => hd x (List.mem_cons_of_mem _ hx), _, _, _, es', rfl, rfl, F'⟩)
    (rangeD 0 T.toNat) (σe most ks (g.length + 1) x5 (some (.int T)) (some (.int nu)) none none x10 none) (HH g o3 es1 es1) ⟨fun d hd => (let ⟨i, _, e⟩ := mem_rangeD hd; ⟨_, e⟩), none, x10, none, es1, rfl, rfl, F2⟩
  have l2 := F4.len
  have hlen := hh_len (g := g) (o := o3) (fs := es2) (as := es2)
  obtain ⟨st, o4, e5, s0, s1, O4⟩ := r_next (N := N) (g := g ++ [.lst (es2.map enD), .dt (EN.set es2)]) (m := (es2.length : Int) + 1) (O3.mono (by omega)) (by omega) (by omega)
  have la : Q.listAt (HH g o4 es2 es2) (g.length + 1) = some (es2.map enD) := h2_list EN (h := o4 :: g)
  have c1 : dSl (.ref (g.length + 1)) (some st) none (HH g o4 es2 es2) = some (.fro ((es2.drop st.toNat).map enD), HH g o4 es2 es2) := by
    rw [List.map_drop, ← cutD_from s0]
    exact sl_ref la
  have c2 : dSl (.ref (g.length + 1)) none (some st) (HH g o4 es2 es2) = some (.fro ((es2.take st.toNat).map enD), HH g o4 es2 es2) := by
    rw [List.map_take, ← cutD_to s0]
    exact sl_ref la
  refine ⟨es2.drop st.toNat ++ es2.take st.toNat, o4, ?_, F4.turn _, O4⟩
  have es0 : EN.set ([] : List En) = [] := rfl
  simp -implicitDefEqProofs only [HH, σe, List.map_nil, es0] at hlen c1 c2 e2 e4 ⊢
  simp -implicitDefEqProofs [-rngK_int, -run_dInt, m_n__law_entries, e1, hr, e2, ln_ks, t1, t2, e3, hT2, e4, hlen, e5, c1, c2]
  rw [plus_fro (by rw [List.length_drop, List.length_take, List.length_map]; omega)]
  have cl : closed (g.length + 1) (.fro (List.drop st.toNat (List.map enD es2) ++ List.take st.toNat (List.map enD es2))) = true := by
    rw [← List.map_drop, ← List.map_take, ← List.map_append]
    exact clo_ens _
  exact trim_str O4 cl
end P

namespace P
open PySem PySem.Spec PyProof.Rows L2 Q G
variable {h g : AH} {i j k : Int} {s : Sen} {b : Bool} {ds : List Q.D} {ks os : List Str} {N : Nat} {o : O} {ts ms : List Tm}
theorem szs_kd : ∀ ks : List Str, szs (ks.map Q.D.str) = ks.length
  | [] => rfl
  | s :: ss => by rw [List.map_cons, szs, szs_kd ss, List.length_cons, sz]; omega
theorem plns_kd : ∀ ks : List Str, plns (ks.map Q.D.str) = true
  | [] => rfl
  | s :: ss => by rw [List.map_cons, plns, plns_kd ss]; rfl
theorem szs_ens : ∀ es : List En, szs (es.map enD) = 10 * es.length
  | [] => rfl
  | s :: ss => by
    rw [List.map_cons, szs, szs_ens ss, List.length_cons]
    simp [enD, snD, tmD, sz, szs]
    omega
theorem plns_ens : ∀ es : List En, plns (es.map enD) = true
  | [] => rfl
  | s :: ss => by
    rw [List.map_cons, plns, plns_ens ss]
    simp [enD, snD, tmD, pln, plns]
theorem sz_bk {es : List En} (hk : ks.length ≤ 30) (hl : es.length ≤ 150) : sz (bkD ks es) < 2000000 := by
  simp only [bkD, ksD, sz, szs, szs_kd, szs_ens]
  omega
theorem pln_bk {es : List En} : pln (bkD ks es) = true := by
  simp only [bkD, ksD, pln, plns, plns_kd, plns_ens]
  rfl
theorem book_tr {es : List En} (S : Kinds os) (T : Terms ks os ts) {most : Int} (F : Fnd ks most es) (hm : most ≤ 150) : Book os (ddp [] (es.map (trE ks ts))) := by
  have h1 := len_ddp (es.map (trE ks ts)) []
  have h2 := F.len
  rw [List.length_map] at h1
  refine ⟨S, fun e he => ?_, ?_, ddp_nodup _ _ List.nodup_nil⟩
  · rcases (mem_ddp _ _).mp he with he | he
    · nomatch he
    · obtain ⟨u, hu, rfl⟩ := List.mem_map.mp he
      have := F.ent u hu
      exact ⟨this.1, this.2, trS_over T this.3⟩
  · simp at h1; omega
theorem book_of {es : List En} (K : Kinds ks) {most : Int} (F : Fnd ks most es) (hm : most ≤ 150) : Book ks es := ⟨K, F.ent, by have := F.len; omega, F.nd⟩
/-- terms that are the kinds themselves -/
theorem lk_same : ∀ {ks : List Str} {x : Str}, x ∈ ks → lk ks (ks.map (·, true)) x = (x, true)
  | k :: ks, x, hx => by
    rw [List.map_cons]
    by_cases e : k = x
    · simp [lk, e]
    · have := lk_same (ks := ks) (x := x) (by rcases List.mem_cons.mp hx with h | h; exact absurd h.symm e; exact h)
      simp only [lk]
      first
      | rw [if_neg e]; exact this
      | rw [if_neg (fun z => e z.symm)]; exact this
theorem tr_same {t : Tm} (m : t.1 ∈ ks) : tr ks (ks.map (·, true)) t = t := by
  obtain ⟨x, b⟩ := t
  simp only [tr, lk_same m, flp]
  cases b <;> rfl
theorem trE_same {e : En} (E : Entry ks e) : trE ks (ks.map (·, true)) e = e := by
  have o := E.3
  obtain ⟨r, w, a, b⟩ := e
  simp only [trE, trS, tr_same o.a, tr_same o.b]
theorem terms_same : Terms ks ks (ks.map (·, true)) := ⟨by rw [List.length_map], fun t ht => by
  obtain ⟨u, hu, rfl⟩ := List.mem_map.mp ht
  exact hu⟩
theorem book_same {es : List En} {most : Int} (F : Fnd ks most es) : ddp [] (es.map (trE ks (ks.map (·, true)))) = es := by
  have e : es.map (trE ks (ks.map (·, true))) = es := by
    rw [show es.map (trE ks (ks.map (·, true))) = es.map id from List.map_congr_left fun e he => trE_same (F.ent e he), List.map_id]
  rw [e]
  exact ddp_id es [] F.nd
abbrev σw (ns : List Int) (ks os : List Str) (ts : List Tm) (x5 x6 x7 x8 x9 x10 x11 x12 x13 : Option Q.D) : AS := [some (.scr (ns.map .int)), some (.ref 0), some (ksD ks), some (ksD os), some (tsD ts), x5, x6, x7, x8, x9, x10, x11, x12, x13, none, none]
theorem law_turn {ns : List Int} (K : Kinds ks) (S : Kinds os) (T : Terms ks os ts) (O : Ok (N + 60000) o) {x5 x6 x7 x8 x9 x10 x11 x12 x13 : Option Q.D} : ∃ o' y z, b_law_1 (σw ns ks os ts x5 x6 x7 x8 x9 x10 x11 x12 x13) (o :: g) = .nx (σw ns ks os ts x5 x6 x7 x8 x9 x10 x11 y z) (o' :: g) ∧ Ok N o' := by
  have kp := K.pos
  have k30 := K.most
  obtain ⟨q, o1, e1, Q1, O1⟩ := r_question (N := N + 59000) (g := g) K (O.mono (by omega))
  have t1 := r_translated (h := o1 :: g) K S T Q1
  have t2 := r_by (h := o1 :: g) K T.len Q1
  have sm := r_law_same (h := o1 :: g) (sz_qn (trQ_over T Q1)) pln_qn
  have iq := r_is_question (h := o1 :: g) S (trQ_over T Q1)
  obtain ⟨o2, e2, O2⟩ := r_twice (N := N + 8) (g := g) K S T Q1 (O1.mono (by omega))
  obtain ⟨s, o3, e3, S3, O3⟩ := r_sentence (N := N) (g := g) (ks := ks) (by omega) (by omega) O2
  have gs := r_goes (h := o3 :: g) K S T S3
  refine ⟨o3, some (qnD q), some (qnD (trQ ks ts q)), ?_, O3⟩
  simp -implicitDefEqProofs [b_law_1, σw, e1, e2, e3, t1, t2, sm, iq, gs]
theorem trim_bl {h h' : AH} {b v : Bool} : ∃ h'', trimR h b (.ok (.bl v) h') = .ok (.bl v) h'' := by
  rw [trimR_ok]
  by_cases h1 : h'.length = h.length
  · exact ⟨_, by rw [if_pos h1]⟩
  · rw [if_neg h1]
    by_cases h2 : okT h h' ∧ closed h.length (.bl v) = true
    · exact ⟨_, by rw [if_pos h2]⟩
    · exact ⟨_, by rw [if_neg h2]; rfl⟩
/-- the plain law -/
theorem law_plain {ns : List Int} (hl : ns.length ≤ 63) : ∃ h', f_law [.scr (ns.map .int)] [] = .ok (.bl true) h' := by
  rw [e_law]
  have e0 := r_stream hl
  obtain ⟨d1, o1, e1, mm, O1⟩ := r_pick (N := 999999999) (g := []) (ds := [.int 1, .int 2, .int 3, .int 6, .int 30]) (Rows.fro (by simp) (by simp)) (ok_start (ns := ns))
  obtain ⟨n, hn1, hn2, rfl⟩ : ∃ n : Int, 1 ≤ n ∧ n ≤ 30 ∧ d1 = .int n := by
    simp only [List.mem_cons, List.not_mem_nil, or_false] at mm
    rcases mm with rfl | rfl | rfl | rfl | rfl
    · exact ⟨1, by omega, by omega, rfl⟩
    · exact ⟨2, by omega, by omega, rfl⟩
    · exact ⟨3, by omega, by omega, rfl⟩
    · exact ⟨6, by omega, by omega, rfl⟩
    · exact ⟨30, by omega, by omega, rfl⟩
  obtain ⟨ks, o2, e2, K, O2⟩ := r_kinds (N := 900000000) (g := []) hn1 hn2 (O1.mono (by omega))
  have kp := K.pos
  have k30 := K.most
  obtain ⟨r, o3, e3, r0, r1, O3⟩ := r_next (N := 899999999) (g := []) (m := 3) O2 (by omega) (by omega)
  -- the other kinds
  obtain ⟨os, o4, e4, S, O4⟩ : ∃ (os : List Str) (o4 : Q.O), eIf (mB (eOp dEq (eFn f_n__law_next [] (aCons (eVar 1) (aCons (eC (.int 3)) aNil))) (eC (.int 0)))) (eVar 2) (eFn f_n__law_kinds [] (aCons (eVar 1) (aCons (eFn f_n__law_pick [] (aCons (eVar 1) (aCons (eLst (aCons (eC (.int 1)) (aCons (eC (.int 2)) (aCons (eC (.int 4)) (aCons (eC (.int 30)) (aCons (eCall gLen (aCons (eVar 2) aNil)) aNil)))))) aNil))) aNil)))
      [some (.scr (ns.map .int)), some (.ref 0), some (ksD ks), none, none, none, none, none, none, none, none, none, none, none, none, none] [o2] = .ok (ksD os) [o4] ∧ Kinds os ∧ Ok 800000000 o4 := by
    by_cases hr : r = 0
    · refine ⟨ks, o3, ?_, K, O3.mono (by omega)⟩
      simp -implicitDefEqProofs [e3, hr]
    · obtain ⟨d2, o4, e4, m2, O4⟩ := r_pick (N := 899000000) (g := []) (ds := [.int 1, .int 2, .int 4, .int 30, .int ks.length]) (Rows.fro (by simp) (by simp)) (O3.mono (by omega))
      obtain ⟨n, hn1, hn2, rfl⟩ : ∃ n : Int, 1 ≤ n ∧ n ≤ 30 ∧ d2 = .int n := by
        simp only [List.mem_cons, List.not_mem_nil, or_false] at m2
        rcases m2 with rfl | rfl | rfl | rfl | rfl
        · exact ⟨1, by omega, by omega, rfl⟩
        · exact ⟨2, by omega, by omega, rfl⟩
        · exact ⟨4, by omega, by omega, rfl⟩
        · exact ⟨30, by omega, by omega, rfl⟩
        · exact ⟨ks.length, by omega, by omega, rfl⟩
      obtain ⟨os, o5, e5, S, O5⟩ := r_kinds (N := 800000000) (g := []) hn1 hn2 (O4.mono (by omega))
      refine ⟨os, o5, ?_, S, O5⟩
      simp -implicitDefEqProofs [e3, hr, ln_ks, e4, e5]
  obtain ⟨ts, o5, e5, T, O5⟩ := r_target (N := 700000000) (g := []) K S (O4.mono (by omega))
  -- six turns
  obtain ⟨x5, x12, x13, o6, e6, O6⟩ := forL_inv (G := fun _ => True) (g := gSlot 5) (body := b_law_1)
    (R := fun r => ∃ (x5 x12 x13 : Option Q.D) (o' : Q.O), r = .nx (σw ns ks os ts x5 none none none none none none x12 x13) [o'] ∧ Ok 600000000 o')
    (fun ds σ h' => ∃ (x5 x12 x13 : Option Q.D) (o' : Q.O), σ = σw ns ks os ts x5 none none none none none none x12 x13 ∧ h' = [o'] ∧ Ok (600000000 + 60000 * ds.length) o')
    (fun σ h' ⟨x5, x12, x13, o', a, c, O⟩ => ⟨trivial, x5, x12, x13, o', by rw [a, c], O.mono (by omega)⟩)
    (fun d ds σ h' ⟨x5, x12, x13, o', a, c, O⟩ => by
      subst a c
      rw [List.length_cons] at O
      refine ⟨trivial, σw ns ks os ts (some d) none none none none none none x12 x13, [o'], rfl, ?_⟩
      obtain ⟨o'', y, z, eb, O'⟩ := law_turn (g := []) (ns := ns) (x5 := some d) (x6 := none) (x7 := none) (x8 := none) (x9 := none) (x10 := none) (x11 := none) (x12 := x12) (x13 := x13) (N := 600000000 + 60000 * ds.length) K S T (O.mono (by omega))
      rw [eb]
      exact ⟨some d, y, z, o'', rfl, rfl, O'⟩)
    (rangeD 0 6) (σw ns ks os ts none none none none none none none none none) [o5] ⟨none, none, none, o5, rfl, rfl, O5.mono (by rw [rangeD_len]; omega)⟩
  obtain ⟨bb, o7, e7, O7⟩ := r_bit (N := 500000000) (g := []) (O6.mono (by omega))
  obtain ⟨k, km, ek⟩ := ix_ks (ks := ks) (n := 0) (by omega) (by omega)
  have efl : ∀ h, f_n__law_flip [.tup [.str k, .bl bb]] h = .ok (.tup [.str k, .bl (!bb)]) h := fun h => r_law_flip (t := (k, bb))
  -- four sentences
  obtain ⟨x7, e8⟩ := forL_inv (G := fun _ => True) (g := gSlot 7) (body := b_law_2)
    (R := fun r => ∃ (x7 : Option Q.D), r = .nx (σw ns ks os ts x5 (some (.tup [.str k, .bl bb])) x7 none none none none x12 x13) [o7])
    (fun ds σ h' => (∀ d ∈ ds, ∃ s, d = snD s ∧ Over ks s) ∧ ∃ (x7 : Option Q.D), σ = σw ns ks os ts x5 (some (.tup [.str k, .bl bb])) x7 none none none none x12 x13 ∧ h' = [o7])
    (fun σ h' ⟨_, x7, a, c⟩ => ⟨trivial, x7, by rw [a, c]⟩)
    (fun d ds σ h' ⟨hd, x7, a, c⟩ => by
      subst a c
      obtain ⟨s, rfl, O⟩ := hd d List.mem_cons_self
      refine ⟨trivial, σw ns ks os ts x5 (some (.tup [.str k, .bl bb])) (some (snD s)) none none none none x12 x13, [o7], rfl, ?_⟩
      have eb : b_law_2 (σw ns ks os ts x5 (some (.tup [.str k, .bl bb])) (some (snD s)) none none none none x12 x13) [o7] = .nx (σw ns ks os ts x5 (some (.tup [.str k, .bl bb])) (some (snD s)) none none none none x12 x13) [o7] := by
        simp -implicitDefEqProofs [b_law_2, σw, r_goes K S T O]
      rw [eb]
      exact ⟨fun x hx => hd x (List.mem_cons_of_mem _ hx), some (snD s), rfl, rfl⟩)
    [snD ⟨"all", (k, bb), (k, bb)⟩, snD ⟨"many", (k, bb), (k, bb)⟩, snD ⟨"more", (k, bb), (k, bb)⟩, snD ⟨"some", (k, bb), (k, !bb)⟩] (σw ns ks os ts x5 (some (.tup [.str k, .bl bb])) none none none none none x12 x13) [o7]
    ⟨fun d hd => by
      simp only [List.mem_cons, List.not_mem_nil, or_false] at hd
      rcases hd with rfl | rfl | rfl | rfl
      · exact ⟨_, rfl, (show ("all" : Str) ∈ WD by decide), km, km⟩
      · exact ⟨_, rfl, (show ("many" : Str) ∈ WD by decide), km, km⟩
      · exact ⟨_, rfl, (show ("more" : Str) ∈ WD by decide), km, km⟩
      · exact ⟨_, rfl, (show ("some" : Str) ∈ WD by decide), km, km⟩, none, rfl, rfl⟩
  -- the book
  obtain ⟨d3, o8, e9, m3, O8⟩ := r_pick (N := 400000000) (g := []) (ds := [.int 0, .int 2, .int 30, .int 150]) (Rows.fro (by simp) (by simp)) (O7.mono (by omega))
  obtain ⟨most, hm1, hm2, rfl⟩ : ∃ n : Int, 0 ≤ n ∧ n ≤ 150 ∧ d3 = .int n := by
    simp only [List.mem_cons, List.not_mem_nil, or_false] at m3
    rcases m3 with rfl | rfl | rfl | rfl
    · exact ⟨0, by omega, by omega, rfl⟩
    · exact ⟨2, by omega, by omega, rfl⟩
    · exact ⟨30, by omega, by omega, rfl⟩
    · exact ⟨150, by omega, by omega, rfl⟩
  obtain ⟨es, o9, e10, F, O9⟩ := r_entries (N := 300000000) (g := []) K hm1 hm2 (O8.mono (by omega))
  have fl := F.len
  have lc : lcL (fun _ => True) (gSlot 14) tYesM (eTup (aCons (eOp dIx (eVar 14) (eC (.int 0))) (aCons (eFn f_n__law_sentence_by [] (aCons (eVar 2) (aCons (eVar 4) (aCons (eOp dIx (eVar 14) (eC (.int 1))) aNil)))) aNil)))
      (wipeA [some (.scr (ns.map .int)), some (.ref 0), some (ksD ks), some (ksD os), some (tsD ts), x5, some (.tup [.str k, .bl bb]), x7, some (.fro (es.map enD)), none, none, none, x12, x13, none, none] [14]) (es.map enD) [] [o9] = .ok (es.map fun e => enD (trE ks ts e)) [o9] := by
    refine lc_enc enD (fun e => enD (trE ks ts e)) trivial es (fun e he => ⟨_, rfl, ?_⟩) (by omega)
    simp -implicitDefEqProofs [wipeA, r_sentence_by K T.len (F.ent e he).ov]
    rfl
  have em : (es.map fun e => enD (trE ks ts e)) = (es.map (trE ks ts)).map enD := by rw [List.map_map]; rfl
  have df := r_different (h := [o9]) (es := es.map (trE ks ts)) (by rw [List.length_map]; omega)
  rw [← em] at df
  obtain ⟨dd, hdd⟩ : ∃ dd, dd = ddp [] (es.map (trE ks ts)) := ⟨_, rfl⟩
  have tb : f_translated_book [.tup [ksD ks, .tup (es.map enD)], ksD os, tsD ts] [o9] = .ok (.tup [ksD os, .tup (dd.map enD)]) [o9] := hdd ▸ r_translated_book (book_of K F hm2) S T
  have bk : Book os dd := hdd ▸ book_tr S T F hm2
  rw [← hdd] at df
  have sm : f_n__law_same [.tup [ksD os, .tup (dd.map enD)], .tup [ksD os, .tup (dd.map enD)]] [o9] = .ok (.bl true) [o9] := r_law_same (d := bkD os dd) (sz_bk S.most bk.most) pln_bk
  have ib : f_is_book [.tup [ksD os, .tup (dd.map enD)]] [o9] = .ok (.bl true) [o9] := r_is_book bk
  have lc2 : ∀ x9 x10 : Option Q.D, lcL (fun _ => True) (gSlot 15) tYesM (eTup (aCons (eVar 15) (aCons (eC (.bl true)) aNil)))
      (wipeA [some (.scr (ns.map .int)), some (.ref 0), some (ksD ks), some (ksD os), some (tsD ts), x5, some (.tup [.str k, .bl bb]), x7, some (.fro (es.map enD)), x9, x10, none, x12, x13, none, none] [15]) (ks.map .str) [] [o9] = .ok (ks.map fun k => tmD (k, true)) [o9] := fun x9 x10 => by
    refine lc_enc .str (fun k => tmD (k, true)) trivial ks (fun e he => ⟨_, rfl, ?_⟩) (by omega)
    simp -implicitDefEqProofs [wipeA]
    rfl
  have em2 : _root_.Q.D.tup (ks.map fun k => tmD (k, true)) = tsD (ks.map (·, true)) := by rw [tsD, List.map_map]; rfl
  have tb2 : f_translated_book [.tup [ksD ks, .tup (es.map enD)], ksD ks, tsD (ks.map (·, true))] [o9] = .ok (.tup [ksD ks, .tup (es.map enD)]) [o9] := by
    have := r_translated_book (h := [o9]) (book_of K F hm2) K terms_same
    rw [book_same F] at this
    exact this
  have sm2 : f_n__law_same [.tup [ksD ks, .tup (es.map enD)], .tup [ksD ks, .tup (es.map enD)]] [o9] = .ok (.bl true) [o9] := r_law_same (d := bkD ks es) (sz_bk K.most (by omega)) pln_bk
  have sq : ∀ h, seqK (ksD ks) h = .ok (ks.map .str, fun _ => True) h := fun _ => rfl
  simp -implicitDefEqProofs only [snD, tmD, σw] at e8 e6
  simp -implicitDefEqProofs [m_law, e0, e1, e2, ↓e4, e5, e6, e7, ek, efl, e8, e9, e10, lc, df, tb, sm, ib, sq, lc2, em2, tb2, sm2]
  exact trim_bl
end P

theorem PySem.Challenge.cw_morethan_k06_whole_translated_sentences_holds : PySem.Challenge.rw_morethan_k06_whole_translated_sentences.Holds :=
  G.holds_of fun ns hl => P.law_plain hl
