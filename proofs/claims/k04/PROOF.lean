import PyProof.Rows.All
import Wide.All
import OpenK.AllK
import Wide.FinOn
import HandS.ForMost
import HandS.Zip
import HandS.IsInst
import HandS.Wide
import HandS.Defaults
import HandS.Exc
import HandS.WordsExc
import KE.KDictKeyed
import KE.KeyNested
import KE.SortData
import KE.LtData
import HandS.TupAny
import HandS.Style
import HandS.Deep
import KE.DataEq
import KE.DataCmp
import KE.DataMinMax
import HandS.ExcOwn
import HandS.Comp
import HandS.Walk
import HandS.ExcInit
import HandS.ExcInitHot
import HandS.ExcField
import HandS.TryOnly
import KE.KExcIs
import HandS.HotCalls
import HandS.HeadHook2
import HandS.Head0
import HandS.Head1
import HandS.Head2
import HandS.HeadEnd
import HandS.HeadHook1
import HandS.HeadHook3
import HandS.HeadHook4
import PySem.Challenge.RW_morethan_k04_whole_books_and_their_limit
set_option Elab.async false
set_option linter.all false
set_option maxRecDepth 100000
set_option maxHeartbeats 0
/-! Q1: data as trees, an abstract heap of lists and dicts, and how both lie in the layer's heap. -/
namespace Q
open PySem PySem.Spec PyProof.Rows L2

/-- a value as a tree: fro is a list that nothing changes any more, scr one from outside, ref n the n-th changing object, exn an exception at a that is handled (its dict at d) -/
inductive D where
  | non | bl (b : Bool) | int (i : Int) | str (s : Str) | tup (ds : List D) | fro (ds : List D) | scr (ds : List D) | ref (n : Nat) | exn (a d : Addr) (c : Str) (ns : List Str) (xs : List D)
instance : Inhabited D := ⟨.non⟩
/-- an object that changes: a list; a dict with int and text keys; a dict with tuple keys -/
inductive O where
  | lst (ds : List D) | dk (kvs : List (Key × D)) | dt (kvs : List (D × D))
abbrev AH := List O
abbrev AS := List (Option D)
/-- an exception of the program's own: its class, its fields -/
structure Ex where
  cls : Str
  ns : List Str
  xs : List D
inductive Res (α : Type) where
  | stuck | ok (a : α) (h : AH) | ex (e : Ex) (h : AH)

/-- the addresses of the changing objects, in their order; those of lists that are just being made, which nobody sees -/
structure Mu where
  l : List Addr
  f : List Addr
instance : Membership Addr Mu := ⟨fun μ a => a ∈ μ.l ∨ a ∈ μ.f⟩
def Mu.push (μ : Mu) (p : Addr) : Mu := ⟨μ.l ++ [p], μ.f⟩
theorem mem_push {μ : Mu} {p a : Addr} : a ∈ μ.push p ↔ a ∈ μ ∨ a = p := by
  show (a ∈ μ.l ++ [p] ∨ a ∈ μ.f) ↔ (a ∈ μ.l ∨ a ∈ μ.f) ∨ a = p
  rw [List.mem_append, List.mem_singleton]
  exact ⟨fun h => h.elim (fun h => h.elim (fun h => .inl (.inl h)) .inr) fun h => .inl (.inr h), fun h => h.elim (fun h => h.elim (fun h => .inl (.inl h)) .inr) fun h => .inl (.inr h)⟩
theorem mem_at {μ : Mu} {n : Nat} {a : Addr} (h : μ.l[n]? = some a) : a ∈ μ := .inl (List.mem_of_getElem? h)
/-- how one state of the layer's heap comes out of another one: the changing objects stay in their places, all else stays -/
structure Stp0 (μ μ' : Mu) (H H' : Hp) : Prop where
  pre : ∀ (n : Nat) (a : Addr), μ.l[n]? = some a → μ'.l[n]? = some a
  new : ∀ a ∈ μ', a ∉ μ → H a = none
  keep : ∀ (a : Addr) (o : HO), H a = some o → a ∉ μ → H' a = some o
structure Stp (μ μ' : Mu) (H H' : Hp) : Prop extends Stp0 μ μ' H H' where
  fz : μ'.f = μ.f
  hid : ∀ (a : Addr) (o : HO), a ∈ μ.f → H a = some o → H' a = some o
theorem Stp.refl {μ : Mu} {H : Hp} : Stp μ μ H H := ⟨⟨fun _ _ h => h, fun a h n => absurd h n, fun _ _ h _ => h⟩, rfl, fun _ _ _ e => e⟩
theorem Stp0.stay {μ μ' : Mu} {H H' : Hp} {a : Addr} {o : HO} (s : Stp0 μ μ' H H') (e : H a = some o) (n : a ∉ μ) : a ∉ μ' := fun h => by
  have z := s.new a h n
  rw [e] at z; cases z
theorem Stp0.trans {μ μ1 μ2 : Mu} {H H1 H2 : Hp} (s : Stp0 μ μ1 H H1) (t : Stp0 μ1 μ2 H1 H2) : Stp0 μ μ2 H H2 where
  pre := fun n a h => t.pre n a (s.pre n a h)
  new := fun a h n => by
    by_cases h1 : a ∈ μ1
    · exact s.new a h1 n
    · have z := t.new a h h1
      cases e : H a with
      | none => rfl
      | some o => rw [s.keep a o e n] at z; cases z
  keep := fun a o e n => t.keep a o (s.keep a o e n) (s.stay e n)
theorem Stp.trans {μ μ1 μ2 : Mu} {H H1 H2 : Hp} (s : Stp μ μ1 H H1) (t : Stp μ1 μ2 H1 H2) : Stp μ μ2 H H2 where
  toStp0 := s.toStp0.trans t.toStp0
  fz := t.fz.trans s.fz
  hid := fun a o m e => t.hid a o (by rw [s.fz]; exact m) (s.hid a o m e)

/-- a tuple, a list that stands still -/
def TupAt (K : PySem.W.Frag) (H : Hp) (μ : Mu) (a : Addr) (xs : List V) : Prop :=
  (Rd H a (.tup xs) ∧ a ∉ μ) ∨ ∃ (o : Obj) (its : Array Value) (n : Nat), K.lookup a = some o ∧ o.cls = .type "tuple" ∧ o.data = .seq its n ∧ its.size ≤ sizeLine ∧ Vals xs its.toList
def LstAt (K : PySem.W.Frag) (H : Hp) (μ : Mu) (a : Addr) (xs : List V) : Prop :=
  (Rd H a (.lst xs) ∧ a ∉ μ) ∨ ∃ (o : Obj) (its : Array Value) (n : Nat), K.lookup a = some o ∧ o.cls = .type "list" ∧ o.dict = none ∧ o.data = .seq its n ∧ its.size ≤ sizeLine ∧ Vals xs its.toList
section
variable {K : PySem.W.Frag} {H H' : Hp} {μ μ' : Mu} {a : Addr} {xs : List V}
theorem TupAt.sq (t : TupAt K H μ a xs) : SqT K H a xs := t.imp (·.1) id
theorem LstAt.sq (t : LstAt K H μ a xs) : SqL K H a xs := t.imp (·.1) id
theorem Rd.stp {u : HO} (s : Stp0 μ μ' H H') (r : Rd H a u) (n : a ∉ μ) : Rd H' a u ∧ a ∉ μ' := by
  rcases r with e | ⟨o, e⟩
  · exact ⟨.inl (s.keep a _ e n), s.stay e n⟩
  · exact ⟨.inr ⟨o, s.keep a _ e n⟩, s.stay e n⟩
theorem TupAt.stp0 (s : Stp0 μ μ' H H') (t : TupAt K H μ a xs) : TupAt K H' μ' a xs := t.imp (fun z => Rd.stp s z.1 z.2) id
theorem LstAt.stp0 (s : Stp0 μ μ' H H') (t : LstAt K H μ a xs) : LstAt K H' μ' a xs := t.imp (fun z => Rd.stp s z.1 z.2) id
theorem TupAt.stp (s : Stp μ μ' H H') (t : TupAt K H μ a xs) : TupAt K H' μ' a xs := t.stp0 s.toStp0
theorem LstAt.stp (s : Stp μ μ' H H') (t : LstAt K H μ a xs) : LstAt K H' μ' a xs := t.stp0 s.toStp0
end

mutual
/-- a tree lies at a value -/
inductive RD (K : PySem.W.Frag) (H : Hp) (μ : Mu) : D → V → Prop
  | non : RD K H μ .non .non
  | bl (b : Bool) : RD K H μ (.bl b) (.bl b)
  | int (i : Int) : RD K H μ (.int i) (.int i)
  | str (s : Str) : RD K H μ (.str s) (.str s)
  | tup {ds : List D} {a : Addr} {xs : List V} : TupAt K H μ a xs → RDs K H μ ds xs → RD K H μ (.tup ds) (.ref a)
  | fro {ds : List D} {a : Addr} {xs : List V} : H a = some (.lst xs) → a ∉ μ → RDs K H μ ds xs → RD K H μ (.fro ds) (.ref a)
  | scr {ds : List D} {a : Addr} {xs : List V} : LstAt K H μ a xs → RDs K H μ ds xs → RD K H μ (.scr ds) (.ref a)
  | ref {n : Nat} {a : Addr} : μ.l[n]? = some a → RD K H μ (.ref n) (.ref a)
  | exn {a d : Addr} {c : Str} {ns : List Str} {xs : List D} {vs : List V} : H d = some (.xd (ns.zip vs)) → d ∉ μ → RDs K H μ xs vs → RD K H μ (.exn a d c ns xs) (.ref a)
inductive RDs (K : PySem.W.Frag) (H : Hp) (μ : Mu) : List D → List V → Prop
  | nil : RDs K H μ [] []
  | cons {d : D} {v : V} {ds : List D} {vs : List V} : RD K H μ d v → RDs K H μ ds vs → RDs K H μ (d :: ds) (v :: vs)
end
section
variable {K : PySem.W.Frag} {H H' : Hp} {μ μ' : Mu}
mutual
theorem RD.stp0 (s : Stp0 μ μ' H H') : ∀ {d : D} {v : V}, RD K H μ d v → RD K H' μ' d v
  | .non, _, h => by cases h; exact .non
  | .bl b, _, h => by cases h; exact .bl b
  | .int i, _, h => by cases h; exact .int i
  | .str x, _, h => by cases h; exact .str x
  | .tup ds, _, h => by cases h with | tup t r => exact .tup (t.stp0 s) (RDs.stp0 s r)
  | .fro ds, _, h => by cases h with | fro e n r => exact .fro (s.keep _ _ e n) (s.stay e n) (RDs.stp0 s r)
  | .scr ds, _, h => by cases h with | scr t r => exact .scr (t.stp0 s) (RDs.stp0 s r)
  | .ref n, _, h => by cases h with | ref e => exact .ref (s.pre _ _ e)
  | .exn a d c ns xs, _, h => by cases h with | exn e n r => exact .exn (s.keep _ _ e n) (s.stay e n) (RDs.stp0 s r)
theorem RDs.stp0 (s : Stp0 μ μ' H H') : ∀ {ds : List D} {vs : List V}, RDs K H μ ds vs → RDs K H' μ' ds vs
  | [], _, h => by cases h; exact .nil
  | d :: ds, _, h => by cases h with | cons h1 h2 => exact .cons (RD.stp0 s h1) (RDs.stp0 s h2)
end
theorem RD.stp (s : Stp μ μ' H H') {d : D} {v : V} (r : RD K H μ d v) : RD K H' μ' d v := r.stp0 s.toStp0
theorem RDs.stp (s : Stp μ μ' H H') {ds : List D} {vs : List V} (r : RDs K H μ ds vs) : RDs K H' μ' ds vs := r.stp0 s.toStp0
theorem RDs.length : ∀ {ds : List D} {vs : List V}, RDs K H μ ds vs → vs.length = ds.length
  | [], _, h => by cases h; rfl
  | _ :: ds, _, h => by cases h with | cons _ h2 => simp [RDs.length h2]
theorem RDs.get : ∀ {ds : List D} {vs : List V} {i : Nat} {d : D}, RDs K H μ ds vs → ds[i]? = some d → ∃ v, vs[i]? = some v ∧ RD K H μ d v
  | [], _, _, _, _, e => by simp at e
  | _ :: _, _, 0, _, h, e => by
    cases h with
    | cons h1 _ => simp at e; subst e; exact ⟨_, rfl, h1⟩
  | _ :: ds, _, i + 1, _, h, e => by
    cases h with
    | cons _ h2 =>
      obtain ⟨v, e1, r⟩ := RDs.get (i := i) h2 (by simpa using e)
      exact ⟨v, by simpa using e1, r⟩
theorem RDs.get' : ∀ {ds : List D} {vs : List V} {i : Nat} {v : V}, RDs K H μ ds vs → vs[i]? = some v → ∃ d, ds[i]? = some d ∧ RD K H μ d v
  | [], _, _, _, h, e => by cases h; simp at e
  | d :: _, _, 0, _, h, e => by
    cases h with
    | cons h1 _ => simp at e; subst e; exact ⟨d, rfl, h1⟩
  | _ :: ds, _, i + 1, _, h, e => by
    cases h with
    | cons _ h2 =>
      obtain ⟨v, e1, r⟩ := RDs.get' (i := i) h2 (by simpa using e)
      exact ⟨v, by simpa using e1, r⟩
theorem RDs.append : ∀ {ds es : List D} {vs ws : List V}, RDs K H μ ds vs → RDs K H μ es ws → RDs K H μ (ds ++ es) (vs ++ ws)
  | [], _, _, _, h, r => by cases h; exact r
  | _ :: _, _, _, _, h, r => by cases h with | cons h1 h2 => exact .cons h1 (RDs.append h2 r)
theorem RDs.take : ∀ {ds : List D} {vs : List V} (n : Nat), RDs K H μ ds vs → RDs K H μ (ds.take n) (vs.take n)
  | _, _, 0, _ => .nil
  | [], _, _ + 1, h => by cases h; exact .nil
  | _ :: _, _, n + 1, h => by cases h with | cons h1 h2 => exact .cons h1 (RDs.take n h2)
theorem RDs.drop : ∀ {ds : List D} {vs : List V} (n : Nat), RDs K H μ ds vs → RDs K H μ (ds.drop n) (vs.drop n)
  | _, _, 0, h => h
  | [], _, _ + 1, h => by cases h; exact .nil
  | _ :: _, _, n + 1, h => by cases h with | cons h1 h2 => exact RDs.drop n h2
theorem RDs.set {d : D} {v : V} (r : RD K H μ d v) : ∀ {ds : List D} {vs : List V} (n : Nat), RDs K H μ ds vs → RDs K H μ (ds.set n d) (vs.set n v)
  | [], _, _, h => by cases h; exact .nil
  | _ :: _, _, 0, h => by cases h with | cons h1 h2 => exact .cons r h2
  | _ :: _, _, n + 1, h => by cases h with | cons h1 h2 => exact .cons h1 (RDs.set r n h2)
theorem RDs.reverse : ∀ {ds : List D} {vs : List V}, RDs K H μ ds vs → RDs K H μ ds.reverse vs.reverse
  | [], _, h => by cases h; exact .nil
  | _ :: _, _, h => by
    cases h with
    | cons h1 h2 =>
      rw [List.reverse_cons, List.reverse_cons]
      exact (RDs.reverse h2).append (.cons h1 .nil)
theorem RDs.dropLast {ds : List D} {vs : List V} (h : RDs K H μ ds vs) : RDs K H μ ds.dropLast vs.dropLast := by
  rw [List.dropLast_eq_take, List.dropLast_eq_take, h.length]
  exact h.take _
theorem RDs.eraseIdx : ∀ {ds : List D} {vs : List V} (n : Nat), RDs K H μ ds vs → RDs K H μ (ds.eraseIdx n) (vs.eraseIdx n)
  | [], _, _, h => by cases h; exact .nil
  | _ :: _, _, 0, h => by cases h with | cons h1 h2 => exact h2
  | _ :: _, _, n + 1, h => by cases h with | cons h1 h2 => exact .cons h1 (RDs.eraseIdx n h2)
theorem RDs.one {d : D} {vs : List V} (h : RDs K H μ [d] vs) : ∃ v, vs = [v] ∧ RD K H μ d v := by
  cases h with | cons h1 h2 => cases h2; exact ⟨_, rfl, h1⟩
theorem RDs.two {d e : D} {vs : List V} (h : RDs K H μ [d, e] vs) : ∃ v w, vs = [v, w] ∧ RD K H μ d v ∧ RD K H μ e w := by
  cases h with | cons h1 h2 => obtain ⟨w, rfl, h3⟩ := h2.one; exact ⟨_, w, rfl, h1, h3⟩
theorem RDs.ints : ∀ {ns : List Int} {vs : List V}, RDs K H μ (ns.map D.int) vs → vs = ns.map V.int
  | [], _, h => by cases h; rfl
  | n :: ns, _, h => by
    cases h with
    | cons h1 h2 => cases h1; rw [RDs.ints h2]; rfl
theorem RDs.of_ints : ∀ (ns : List Int), RDs K H μ (ns.map D.int) (ns.map V.int)
  | [] => .nil
  | n :: ns => .cons (.int n) (RDs.of_ints ns)
theorem RDs.bls : ∀ {ns : List Bool} {vs : List V}, RDs K H μ (ns.map D.bl) vs → vs = ns.map V.bl
  | [], _, h => by cases h; rfl
  | n :: ns, _, h => by
    cases h with
    | cons h1 h2 => cases h1; rw [RDs.bls h2]; rfl
theorem RDs.strs : ∀ {ns : List Str} {vs : List V}, RDs K H μ (ns.map D.str) vs → vs = ns.map V.str
  | [], _, h => by cases h; rfl
  | n :: ns, _, h => by
    cases h with
    | cons h1 h2 => cases h1; rw [RDs.strs h2]; rfl
theorem RDs.of_strs : ∀ (ns : List Str), RDs K H μ (ns.map D.str) (ns.map V.str)
  | [] => .nil
  | n :: ns => .cons (.str n) (RDs.of_strs ns)
end

/-! ### keys -/
mutual
/-- a tree as a key of a dict -/
def nk : D → Option NestedKey
  | .non => some .none
  | .bl b => some (.num (if b = true then 1 else 0))
  | .int i => some (.num i)
  | .str s => some (.text s)
  | .tup ds => (nks ds).map .tup
  | .fro _ => none
  | .scr _ => none
  | .ref _ => none
  | .exn _ _ _ _ _ => none
def nks : List D → Option (List NestedKey)
  | [] => some []
  | d :: ds => match nk d, nks ds with
    | some k, some ks => some (k :: ks)
    | _, _ => none
end
section
variable {X : Cx} {pins : List (Addr × Obj)} {σ : L2.St} {H : Hp} {s : Shared} {μ : Mu}
mutual
theorem RD.nested (I : Inv X pins σ H s) : ∀ (d : D) (v : V) (u : Value) (k : NestedKey), RD X.K H μ d v → RelV v u → nk d = some k → NestedIs s.heap k u
  | .non, _, _, _, h, r, e => by cases h; cases r; cases e; exact .none
  | .bl b, _, _, _, h, r, e => by cases h; cases r; cases e; exact .bool rfl
  | .int i, _, _, _, h, r, e => by cases h; obtain ⟨t, rfl⟩ := r; cases e; exact .int i t
  | .str x, _, _, _, h, r, e => by cases h; obtain ⟨t, rfl⟩ := r; cases e; exact .text x t
  | .tup ds, _, _, _, h, r, e => by
    cases h with
    | tup t rr =>
      cases r
      obtain ⟨its, rv, ⟨o, ho, hc, n, hd⟩, _⟩ := I.tuple t.sq
      rw [nk] at e
      obtain ⟨ks, hks, rfl⟩ := Option.map_eq_some_iff.mp e
      exact .tup ho hc hd (by simpa using RDs.nested I ds _ _ ks rr rv hks)
  | .fro _, _, _, _, _, _, e => by cases e
  | .scr _, _, _, _, _, _, e => by cases e
  | .ref _, _, _, _, _, _, e => by cases e
  | .exn _ _ _ _ _, _, _, _, _, _, e => by cases e
theorem RDs.nested (I : Inv X pins σ H s) : ∀ (ds : List D) (vs : List V) (us : List Value) (ks : List NestedKey), RDs X.K H μ ds vs → Vals vs us → nks ds = some ks → NestedAll s.heap ks us
  | [], _, _, _, h, r, e => by cases h; cases r; cases e; exact .nil
  | d :: ds, _, _, _, h, r, e => by
    cases h with
    | cons h1 h2 =>
      cases r with
      | cons r1 r2 =>
        rw [nks] at e
        split at e
        · rename_i k ks e1 e2
          cases e
          exact .cons (RD.nested I d _ _ k h1 r1 e1) (RDs.nested I ds _ _ ks h2 r2 e2)
        · cases e
end
end
end Q

/-! Q2: the abstract heap in the layer's heap; readings of evaluators. -/
namespace Q
open PySem PySem.Spec PyProof.Rows L2

/-- the dict at a, by its entries -/
def dxO (a : Addr) (es : List DictEntry) : HO := .ext fun h => ∃ o ep, h.get? a = some o ∧ o.ExactDict ∧ o.data = .dict es.toArray ep
def RKV (K : PySem.W.Frag) (H : Hp) (μ : Mu) : List (Key × D) → List (Key × V) → Prop := Paired fun p q => p.1 = q.1 ∧ RD K H μ p.2 q.2
structure RT (K : PySem.W.Frag) (H : Hp) (μ : Mu) (p : D × D) (x : NestedKey × Addr × Value) : Prop where
  key : nk p.1 = some x.1
  dep : x.1.depth ≤ 8
  rk : RD K H μ p.1 (.ref x.2.1)
  val : ∃ v, RelV v x.2.2 ∧ RD K H μ p.2 v
inductive RelO (P : Program) (w : World) (K : PySem.W.Frag) (H : Hp) (μ : Mu) : O → Addr → Prop
  | lst {ds : List D} {a : Addr} {xs : List V} : H a = some (.lst xs) → RDs K H μ ds xs → RelO P w K H μ (.lst ds) a
  | dk {kvs : List (Key × D)} {a : Addr} {qs : List (Key × V)} : H a = some (.dK qs) → RKV K H μ kvs qs → RelO P w K H μ (.dk kvs) a
  | dt {kvs : List (D × D)} {a : Addr} {xs : List (NestedKey × Addr × Value)} : H a = some (dxO a (xs.map (entryOfKey (nestedKind P w)))) → (a == sysModules) = false → kvs.length ≤ sizeLine → Paired (RT K H μ) kvs xs → (xs.map (·.1)).Nodup → RelO P w K H μ (.dt kvs) a
structure RelH (P : Program) (w : World) (K : PySem.W.Frag) (H : Hp) (μ : Mu) (h : AH) : Prop where
  len : μ.l.length = h.length
  nd : μ.l.Nodup
  dj : ∀ a ∈ μ.l, a ∉ μ.f
  fo : ∀ a ∈ μ.f, ∃ u, H a = some u
  obj : ∀ (n : Nat) (o : O) (a : Addr), h[n]? = some o → μ.l[n]? = some a → RelO P w K H μ o a

section
variable {P : Program} {w : World} {K : PySem.W.Frag} {H H' : Hp} {μ μ' : Mu} {h h' : AH} {a p : Addr} {o : O} {n : Nat}
theorem RelO.there (r : RelO P w K H μ o a) : ∃ u, H a = some u := by
  cases r with
  | lst e _ => exact ⟨_, e⟩
  | dk e _ => exact ⟨_, e⟩
  | dt e _ _ _ _ => exact ⟨_, e⟩
theorem RelO.mut (r : RelO P w K H μ o a) : Mut (H a) := by
  cases r with
  | lst e _ => rw [e]; trivial
  | dk e _ => rw [e]; trivial
  | dt e _ _ _ _ => rw [e]; trivial
theorem paired_mono {α β : Type} {F G : α → β → Prop} (f : ∀ a b, F a b → G a b) : ∀ {l₁ : List α} {l₂ : List β}, Paired F l₁ l₂ → Paired G l₁ l₂
  | _, _, .nil => .nil
  | _, _, .cons r t => .cons (f _ _ r) (paired_mono f t)
theorem RT.stp0 {p : D × D} {x : NestedKey × Addr × Value} (s : Stp0 μ μ' H H') (r : RT K H μ p x) : RT K H' μ' p x :=
  ⟨r.key, r.dep, r.rk.stp0 s, let ⟨v, a, b⟩ := r.val; ⟨v, a, b.stp0 s⟩⟩
theorem RT.stp {p : D × D} {x : NestedKey × Addr × Value} (s : Stp μ μ' H H') (r : RT K H μ p x) : RT K H' μ' p x := r.stp0 s.toStp0
theorem RKV.stp0 {kvs : List (Key × D)} {qs : List (Key × V)} (s : Stp0 μ μ' H H') (r : RKV K H μ kvs qs) : RKV K H' μ' kvs qs := paired_mono (fun _ _ z => ⟨z.1, z.2.stp0 s⟩) r
theorem RKV.stp {kvs : List (Key × D)} {qs : List (Key × V)} (s : Stp μ μ' H H') (r : RKV K H μ kvs qs) : RKV K H' μ' kvs qs := RKV.stp0 s.toStp0 r
theorem RelO.stp0 (s : Stp0 μ μ' H H') (e : H' a = H a) (r : RelO P w K H μ o a) : RelO P w K H' μ' o a := by
  cases r with
  | lst e1 r => exact .lst (e.trans e1) (r.stp0 s)
  | dk e1 r => exact .dk (e.trans e1) (r.stp0 s)
  | dt e1 z l r nd => exact .dt (e.trans e1) z l (paired_mono (fun _ _ q => q.stp0 s) r) nd
theorem RelO.stp (s : Stp μ μ' H H') (e : H' a = H a) (r : RelO P w K H μ o a) : RelO P w K H' μ' o a := r.stp0 s.toStp0 e
theorem RelH.at (r : RelH P w K H μ h) (e : μ.l[n]? = some a) : ∃ o, h[n]? = some o ∧ RelO P w K H μ o a := by
  have hn : n < h.length := by rw [← r.len]; exact (List.getElem?_eq_some_iff.mp e).1
  exact ⟨h[n], List.getElem?_eq_getElem hn, r.obj n _ a (List.getElem?_eq_getElem hn) e⟩
theorem RelH.addr (r : RelH P w K H μ h) (e : h[n]? = some o) : ∃ a, μ.l[n]? = some a ∧ RelO P w K H μ o a := by
  have hn : n < μ.l.length := by rw [r.len]; exact (List.getElem?_eq_some_iff.mp e).1
  exact ⟨μ.l[n], List.getElem?_eq_getElem hn, r.obj n o _ e (List.getElem?_eq_getElem hn)⟩
theorem RelH.mem (r : RelH P w K H μ h) (m : a ∈ μ) : ∃ u, H a = some u := by
  rcases m with m | m
  · obtain ⟨n, e⟩ := List.mem_iff_getElem?.mp m
    obtain ⟨o, _, q⟩ := r.at e
    exact q.there
  · exact r.fo a m
theorem RelH.fresh (r : RelH P w K H μ h) (e : H p = none) : p ∉ μ := fun m => by
  obtain ⟨u, q⟩ := r.mem m
  rw [e] at q; cases q
/-- the changing objects stand as they stood -/
theorem RelH.stp (s : Stp μ μ H H') (same : ∀ a ∈ μ.l, H' a = H a) (r : RelH P w K H μ h) : RelH P w K H' μ h :=
  ⟨r.len, r.nd, r.dj, fun a m => let ⟨u, e⟩ := r.fo a m; ⟨u, s.hid a u m e⟩, fun n o a e1 e2 => (r.obj n o a e1 e2).stp s (same a (List.mem_of_getElem? e2))⟩
/-- something new that does not change -/
theorem Stp.laid {u : HO} (e : H p = none) : Stp μ μ H (upd H p u) :=
  ⟨⟨fun _ _ z => z, fun a m n => absurd m n, fun a o q _ => by rw [upd_ne (ne_of_none q e)]; exact q⟩, rfl, fun a o _ q => by rw [upd_ne (ne_of_none q e)]; exact q⟩
theorem RelH.laid {u : HO} (e : H p = none) (r : RelH P w K H μ h) : RelH P w K (upd H p u) μ h :=
  r.stp (Stp.laid e) fun a m => upd_ne fun z => r.fresh e (z ▸ .inl m)
theorem RD.tup_laid {ds : List D} {xs : List V} (r : RelH P w K H μ h) (e : H p = none) (q : RDs K H μ ds xs) : RD K (upd H p (.tup xs)) μ (.tup ds) (.ref p) :=
  .tup (.inl ⟨.inl upd_same, r.fresh e⟩) (q.stp (Stp.laid e))
theorem RD.fro_laid {ds : List D} {xs : List V} (r : RelH P w K H μ h) (e : H p = none) (q : RDs K H μ ds xs) : RD K (upd H p (.lst xs)) μ (.fro ds) (.ref p) :=
  .fro upd_same (r.fresh e) (q.stp (Stp.laid e))
theorem get_append_new {α : Type} {l : List α} {x : α} : (l ++ [x])[l.length]? = some x := by simp
/-- a changing object more -/
theorem Stp.more {u : HO} (e : H p = none) : Stp μ (μ.push p) H (upd H p u) where
  pre := fun n a z => by
    have hn := (List.getElem?_eq_some_iff.mp z).1
    show (μ.l ++ [p])[n]? = some a
    rw [List.getElem?_append_left hn]; exact z
  new := fun a m n => by
    rcases mem_push.mp m with q | q
    · exact absurd q n
    · rw [q]; exact e
  keep := fun a o q _ => by rw [upd_ne (ne_of_none q e)]; exact q
  fz := rfl
  hid := fun a o _ q => by rw [upd_ne (ne_of_none q e)]; exact q
theorem RelH.more {u : HO} (e : H p = none) (r : RelH P w K H μ h) (q : RelO P w K (upd H p u) (μ.push p) o p) : RelH P w K (upd H p u) (μ.push p) (h ++ [o]) where
  len := by simp [Mu.push, r.len]
  nd := by
    show (μ.l ++ [p]).Nodup
    rw [List.nodup_append]
    refine ⟨r.nd, by simp, fun a m b mb => ?_⟩
    rw [List.mem_singleton.mp mb]
    rintro rfl
    exact r.fresh e (.inl m)
  dj := fun a m => by
    rcases List.mem_append.mp (show a ∈ μ.l ++ [p] from m) with m | m
    · exact r.dj a m
    · rw [List.mem_singleton.mp m]
      exact fun z => r.fresh e (.inr z)
  fo := fun a m => let ⟨u, q⟩ := r.fo a m; ⟨u, by rw [upd_ne (ne_of_none q e)]; exact q⟩
  obj := fun n o' a e1 e2 => by
    replace e2 : (μ.l ++ [p])[n]? = some a := e2
    by_cases hn : n < μ.l.length
    · rw [List.getElem?_append_left (by rw [← r.len]; exact hn)] at e1
      rw [List.getElem?_append_left hn] at e2
      refine (r.obj n o' a e1 e2).stp (Stp.more e) (upd_ne ?_)
      rintro rfl
      exact r.fresh e (.inl (List.mem_of_getElem? e2))
    · have hl : n < (h ++ [o]).length := (List.getElem?_eq_some_iff.mp e1).1
      have hl' : n < h.length + 1 := by simpa using hl
      have en : n = μ.l.length := by have := r.len; omega
      subst en
      rw [get_append_new] at e2
      cases e2
      rw [r.len, get_append_new] at e1
      cases e1
      exact q
theorem RD.last {p : Addr} : RD K H (μ.push p) (.ref μ.l.length) (.ref p) := .ref (by simp [Mu.push])
/-- a changing object written -/
theorem Stp.wrote {u : HO} (r : RelH P w K H μ h) (e : μ.l[n]? = some a) : Stp μ μ H (upd H a u) :=
  ⟨⟨fun _ _ z => z, fun a m n => absurd m n, fun b o q nb => by
    have hne : b ≠ a := fun z => nb (by rw [z]; exact mem_at e)
    rw [upd_ne hne]; exact q⟩, rfl, fun b o m q => by
    have hne : b ≠ a := fun z => r.dj a (List.mem_of_getElem? e) (z ▸ m)
    rw [upd_ne hne]; exact q⟩
theorem RelH.wrote {u : HO} (e : μ.l[n]? = some a) (r : RelH P w K H μ h) (q : RelO P w K (upd H a u) μ o a) : RelH P w K (upd H a u) μ (h.set n o) where
  len := by simp [r.len]
  nd := r.nd
  dj := r.dj
  fo := fun b m => let ⟨v, q⟩ := r.fo b m; ⟨v, (Stp.wrote r e).hid b v m q⟩
  obj := fun k o' b e1 e2 => by
    by_cases hk : n = k
    · subst hk
      rw [e] at e2; cases e2
      have hn : n < h.length := by rw [← r.len]; exact (List.getElem?_eq_some_iff.mp e).1
      rw [List.getElem?_set_self hn] at e1
      cases e1
      exact q
    · rw [List.getElem?_set_ne hk] at e1
      refine (r.obj k o' b e1 e2).stp (Stp.wrote r e) (upd_ne ?_)
      rintro rfl
      obtain ⟨h1, g1⟩ := List.getElem?_eq_some_iff.mp e
      obtain ⟨h2, g2⟩ := List.getElem?_eq_some_iff.mp e2
      exact hk ((List.getElem_inj r.nd).mp (g1.trans g2.symm))
/-! ### a list that is being made -/
def Mu.hide (μ : Mu) (p : Addr) : Mu := ⟨μ.l, p :: μ.f⟩
theorem Stp0.hide {u : HO} (e : H p = none) : Stp0 μ (μ.hide p) H (upd H p u) where
  pre := fun _ _ z => z
  new := fun a m n => by
    rcases m with m | m
    · exact absurd (.inl m) n
    · rcases List.mem_cons.mp m with rfl | m
      · exact e
      · exact absurd (.inr m) n
  keep := fun a o q _ => by rw [upd_ne (ne_of_none q e)]; exact q
theorem RelH.hide {u : HO} (e : H p = none) (r : RelH P w K H μ h) : RelH P w K (upd H p u) (μ.hide p) h where
  len := r.len
  nd := r.nd
  dj := fun a m => fun z => by
    rcases List.mem_cons.mp z with rfl | z
    · exact r.fresh e (.inl m)
    · exact r.dj a m z
  fo := fun a m => by
    rcases List.mem_cons.mp m with rfl | m
    · exact ⟨u, upd_same⟩
    · obtain ⟨v, q⟩ := r.fo a m
      exact ⟨v, by rw [upd_ne (ne_of_none q e)]; exact q⟩
  obj := fun n o a e1 e2 => (r.obj n o a e1 e2).stp0 (Stp0.hide e) (upd_ne fun z => r.fresh e (z ▸ mem_at e2))
/-- the hidden list is written -/
theorem Stp0.poke {u : HO} (m : p ∈ μ.f) : Stp0 μ μ H (upd H p u) :=
  ⟨fun _ _ z => z, fun a m n => absurd m n, fun a o q n => by
    have hne : a ≠ p := fun z => n (by rw [z]; exact .inr m)
    rw [upd_ne hne]; exact q⟩
theorem RelH.poke {u : HO} (m : p ∈ μ.f) (r : RelH P w K H μ h) : RelH P w K (upd H p u) μ h where
  len := r.len
  nd := r.nd
  dj := r.dj
  fo := fun a ma => by
    by_cases ha : a = p
    · rw [ha]; exact ⟨u, upd_same⟩
    · rw [upd_ne ha]; exact r.fo a ma
  obj := fun n o a e1 e2 => (r.obj n o a e1 e2).stp0 (Stp0.poke m) (upd_ne fun z => r.dj a (List.mem_of_getElem? e2) (z ▸ m))
/-- seen again -/
theorem Stp0.show {f : List Addr} (hf : ∀ a ∈ f, a ∈ μ.f) : Stp0 μ ⟨μ.l, f⟩ H H :=
  ⟨fun _ _ z => z, fun a m n => (n (m.elim .inl fun z => .inr (hf a z))).elim, fun _ _ q _ => q⟩
theorem RelH.show {f : List Addr} (hf : ∀ a ∈ f, a ∈ μ.f) (r : RelH P w K H μ h) : RelH P w K H ⟨μ.l, f⟩ h where
  len := r.len
  nd := r.nd
  dj := fun a m z => r.dj a m (hf a z)
  fo := fun a m => r.fo a (hf a m)
  obj := fun n o a e1 e2 => (r.obj n o a e1 e2).stp0 (Stp0.show hf) rfl
/-- a step in the midst of the making, as one from its beginning -/
theorem Stp.within {H2 : Hp} {μ2 : Mu} {f : List Addr} (s : Stp μ ⟨μ'.l, μ.f⟩ H H') (hp : H p = none) (hf : μ'.f = p :: μ.f) (t : Stp μ' μ2 H' H2) (dj : ∀ a ∈ μ2.l, a ∉ μ2.f) : Stp μ ⟨μ2.l, μ.f⟩ H H2 where
  pre := fun n a h => t.pre n a (s.pre n a h)
  new := fun a m n => by
    have hl : a ∈ μ2.l := m.elim id fun z => absurd (.inr z) n
    by_cases h1 : a ∈ μ'.l
    · exact s.new a (.inl h1) n
    · have h2 : a ∉ μ' := fun z => z.elim h1 fun z => dj a hl (by rw [t.fz]; exact z)
      have z := t.new a (.inl hl) h2
      cases e : H a with
      | none => rfl
      | some o => rw [s.keep a o e n] at z; cases z
  keep := fun a o e n => by
    have h1 := s.keep a o e n
    have h2 := s.toStp0.stay e n
    refine t.keep a o h1 fun z => ?_
    rcases z with z | z
    · exact h2 (.inl z)
    · rw [hf] at z
      rcases List.mem_cons.mp z with rfl | z
      · rw [hp] at e; cases e
      · exact h2 (.inr z)
  fz := rfl
  hid := fun a o m e => t.hid a o (by rw [hf]; exact List.mem_cons_of_mem _ m) (s.hid a o m e)
end

/-! ### slots -/
def RelS (K : PySem.W.Frag) (H : Hp) (μ : Mu) (σ : AS) (τ : L2.St) : Prop := σ.length = τ.length ∧ ∀ (i : Nat) (d : D), σ[i]? = some (some d) → ∃ v, τ[i]? = some (some v) ∧ RD K H μ d v
section
variable {K : PySem.W.Frag} {H H' : Hp} {μ μ' : Mu} {σ : AS} {τ : L2.St}
theorem RelS.stp (s : Stp μ μ' H H') (r : RelS K H μ σ τ) : RelS K H' μ' σ τ := ⟨r.1, fun i d e => let ⟨v, a, b⟩ := r.2 i d e; ⟨v, a, b.stp s⟩⟩
theorem RelS.set {d : D} {v : V} (r : RelS K H μ σ τ) (q : RD K H μ d v) (i : Nat) : RelS K H μ (σ.set i (some d)) (τ.set i (some v)) := by
  refine ⟨by simp [r.1], fun j e h => ?_⟩
  by_cases hj : i = j
  · subst hj
    have hi : i < σ.length := by
      have := (List.getElem?_eq_some_iff.mp h).1
      simpa using this
    rw [List.getElem?_set_self hi] at h
    cases h
    exact ⟨v, List.getElem?_set_self (by rw [← r.1]; exact hi), q⟩
  · rw [List.getElem?_set_ne hj] at h
    rw [List.getElem?_set_ne hj]
    exact r.2 j e h
/-- slots forgotten -/
def wipeA (σ : AS) : List Nat → AS
  | [] => σ
  | v :: vs => (wipeA σ vs).set v none
theorem RelS.wipe (r : RelS K H μ σ τ) : ∀ vs : List Nat, RelS K H μ (wipeA σ vs) (L2.wipe τ vs)
  | [] => r
  | v :: vs => by
    have ih := RelS.wipe r vs
    refine ⟨by simp [wipeA, L2.wipe, ih.1], fun j e h => ?_⟩
    simp only [wipeA, L2.wipe] at h ⊢
    by_cases hj : v = j
    · subst hj
      have hi : v < (wipeA σ vs).length := by
        have := (List.getElem?_eq_some_iff.mp h).1
        simpa using this
      rw [List.getElem?_set_self hi] at h
      cases h
    · rw [List.getElem?_set_ne hj] at h
      rw [List.getElem?_set_ne hj]
      exact ih.2 j e h
end

/-! ### an exception of the program's own -/
def RX (mg : Str → Option Value) (K : PySem.W.Frag) (H : Hp) (μ : Mu) (e : Ex) (cls : Value) (dd : Option Addr) : Prop :=
  ∃ (C d : Addr) (vs : List V), mg e.cls = some (.ref C) ∧ cls = .ref C ∧ dd = some d ∧ d ∉ μ ∧ H d = some (.xd (e.ns.zip vs)) ∧ RDs K H μ e.xs vs

/-! ### readings -/
abbrev M := AS → AH → Res D
abbrev MB := AS → AH → Res Bool
abbrev ML := AS → AH → Res (List D)
/-- what follows an evaluation: ok, or an exception -/
def Post (X : Cx) (W : WX) (τ : L2.St) (H : Hp) (μ : Mu) {α β : Type} (Rel : Hp → Mu → α → β → Prop) (Q : β → Hp → Prop) : Res α → Prop
  | .stuck => False
  | .ok d h' => ∀ (v : β) (H' : Hp) (μ' : Mu), Stp μ μ' H H' → RelH X.prog X.w X.K H' μ' h' → Rel H' μ' d v → Q v H'
  | .ex e h' => ∀ (cls : Value) (dd : Option Addr) (H' : Hp) (μ' : Mu), Stp μ μ' H H' → RelH X.prog X.w X.K H' μ' h' → RX X.mg X.K H' μ' e cls dd → W cls dd τ H'
def tG (X : Cx) (W : WX) {α β : Type} (Rel : Hp → Mu → α → β → Prop) (m : AS → AH → Res α) : L2.St → Hp → (β → Hp → Prop) → Prop := fun τ H Q =>
  ∃ (σ : AS) (h : AH) (μ : Mu), RelS X.K H μ σ τ ∧ RelH X.prog X.w X.K H μ h ∧ Post X W τ H μ Rel Q (m σ h)
def rB : Hp → Mu → Bool → Bool → Prop := fun _ _ a b => a = b
abbrev tE (X : Cx) (W : WX) (m : M) : TE := tG X W (RD X.K) m
abbrev tT (X : Cx) (W : WX) (m : MB) : TT := tG X W rB m
abbrev tL (X : Cx) (W : WX) (m : ML) : TA := tG X W (RDs X.K) m
def QE (X : Cx) (W : WX) (m : M) (e : Expr) : Prop := PE X e (tE X W m)
def QT (X : Cx) (W : WX) (m : MB) (e : Expr) : Prop := PT X e (tT X W m)
def QW (X : Cx) (W : WX) (m : MB) (e : Expr) : Prop := PW X e (tT X W m)
def QA (X : Cx) (W : WX) (m : ML) (es : List Expr) : Prop := PA X es (tL X W m)
theorem QE.of {X : Cx} {W : WX} {m : M} {e : Expr} {t : TE} (h : PE X e t) (i : ∀ τ H Q, tE X W m τ H Q → t τ H Q) : QE X W m e := ⟨fun pins s σ H Q I q => h.run pins s σ H Q I (i _ _ _ q)⟩
theorem QT.of {X : Cx} {W : WX} {m : MB} {e : Expr} {t : TT} (h : PT X e t) (i : ∀ τ H Q, tT X W m τ H Q → t τ H Q) : QT X W m e := ⟨fun pins s σ H Q I q => h.run pins s σ H Q I (i _ _ _ q)⟩
theorem QW.of {X : Cx} {W : WX} {m : MB} {e : Expr} {t : TT} (h : PW X e t) (i : ∀ τ H Q, tT X W m τ H Q → t τ H Q) : QW X W m e := ⟨fun wh pins s σ H Q I q => h.run wh pins s σ H Q I (i _ _ _ q)⟩
theorem QA.of {X : Cx} {W : WX} {m : ML} {es : List Expr} {t : TA} (h : PA X es t) (i : ∀ τ H Q, tL X W m τ H Q → t τ H Q) : QA X W m es := ⟨fun pos pins s σ H Q I q => h.run pos pins s σ H Q I (i _ _ _ q)⟩

/-- one evaluation behind another -/
def Res.bind {α β : Type} (r : Res α) (f : α → AH → Res β) : Res β := match r with
  | .stuck => .stuck
  | .ok a h => f a h
  | .ex e h => .ex e h
@[simp] theorem Res.bind_ok {α β : Type} (a : α) (h : AH) (f : α → AH → Res β) : (Res.ok a h).bind f = f a h := rfl
@[simp] theorem Res.bind_ex {α β : Type} (e : Ex) (h : AH) (f : α → AH → Res β) : (Res.ex e h : Res α).bind f = .ex e h := rfl
@[simp] theorem Res.bind_stuck {α β : Type} (f : α → AH → Res β) : (Res.stuck : Res α).bind f = .stuck := rfl
section
variable {X : Cx} {W : WX} {τ : L2.St} {H : Hp} {μ : Mu} {α β γ δ : Type} {RA : Hp → Mu → α → β → Prop} {RB : Hp → Mu → γ → δ → Prop} {Q : δ → Hp → Prop}
/-- the reading of m, then that of f: from the reading of both -/
theorem tG.bind {m : AS → AH → Res α} {f : AS → α → AH → Res γ} {t : L2.St → Hp → (β → Hp → Prop) → Prop} (ht : ∀ τ H Q, tG X W RA m τ H Q → t τ H Q) {k : β → Hp → Prop}
    (hk : ∀ (σ : AS) (a : α) (h1 : AH) (b : β) (H1 : Hp) (μ1 : Mu), RelS X.K H1 μ1 σ τ → RelH X.prog X.w X.K H1 μ1 h1 → RA H1 μ1 a b → Post X W τ H1 μ1 RB Q (f σ a h1) → k b H1)
    (q : tG X W RB (fun σ h => (m σ h).bind (f σ)) τ H Q) : t τ H k := by
  obtain ⟨σ, h, μ, rs, rh, q⟩ := q
  refine ht τ H k ⟨σ, h, μ, rs, rh, ?_⟩
  dsimp only at q
  cases e : m σ h with
  | stuck => rw [e] at q; exact q
  | ex x h' => rw [e] at q; exact q
  | ok a h' =>
    rw [e] at q
    intro b H' μ' s rh' ra
    refine hk σ a h' b H' μ' (rs.stp s) rh' ra ?_
    rw [Res.bind_ok] at q
    cases e2 : f σ a h' with
    | stuck => rw [e2] at q; exact q
    | ok c h2 => rw [e2] at q; exact fun v H2 μ2 s2 => q v H2 μ2 (s.trans s2)
    | ex x h2 => rw [e2] at q; exact fun cls dd H2 μ2 s2 => q cls dd H2 μ2 (s.trans s2)
theorem Post.ok {RC : Hp → Mu → γ → δ → Prop} {c : γ} {h' : AH} {v : δ} (q : Post X W τ H μ RC Q (.ok c h')) {H' : Hp} {μ' : Mu} (s : Stp μ μ' H H') (rh : RelH X.prog X.w X.K H' μ' h') (r : RC H' μ' c v) : Q v H' := q v H' μ' s rh r
/-- an answer with nothing changed -/
theorem Post.now {RC : Hp → Mu → γ → δ → Prop} {c : γ} {h : AH} {v : δ} (q : Post X W τ H μ RC Q (.ok c h)) (rh : RelH X.prog X.w X.K H μ h) (r : RC H μ c v) : Q v H := q v H μ Stp.refl rh r
end
end Q

/-! Q3: expressions. -/
namespace Q
open PySem PySem.Spec PyProof.Rows L2
section
variable {X : Cx} {W : WX} {τ : L2.St} {H : Hp} {μ : Mu} {α β γ δ : Type} {RA : Hp → Mu → α → β → Prop} {RB : Hp → Mu → γ → δ → Prop} {Q : δ → Hp → Prop}
/-- go on from the reading of both to that of the first -/
theorem go {σ : AS} {h : AH} {m : AS → AH → Res α} {f : α → AH → Res γ} {k : β → Hp → Prop} (rs : RelS X.K H μ σ τ) (rh : RelH X.prog X.w X.K H μ h) (q : Post X W τ H μ RB Q ((m σ h).bind f))
    (hk : ∀ (a : α) (h1 : AH) (b : β) (H1 : Hp) (μ1 : Mu), Stp μ μ1 H H1 → RelS X.K H1 μ1 σ τ → RelH X.prog X.w X.K H1 μ1 h1 → RA H1 μ1 a b → Post X W τ H1 μ1 RB Q (f a h1) → k b H1) : tG X W RA m τ H k := by
  refine ⟨σ, h, μ, rs, rh, ?_⟩
  cases e : m σ h with
  | stuck => rw [e] at q; exact q
  | ex x h' => rw [e] at q; exact q
  | ok a h' =>
    rw [e] at q
    intro b H' μ' s rh' ra
    refine hk a h' b H' μ' s (rs.stp s) rh' ra ?_
    rw [Res.bind_ok] at q
    cases e2 : f a h' with
    | stuck => rw [e2] at q; exact q
    | ok c h2 => rw [e2] at q; exact fun v H2 μ2 s2 => q v H2 μ2 (s.trans s2)
    | ex x h2 => rw [e2] at q; exact fun cls dd H2 μ2 s2 => q cls dd H2 μ2 (s.trans s2)
end

section
variable {X : Cx} {W : WX} {pos : Pos}
/-! ### names and constants -/
def eVar (i : Nat) : M := fun σ h => match σ[i]? with
  | some (some d) => .ok d h
  | _ => .stuck
theorem q_var {i : Nat} {x : Str} (hN : X.N[i]? = some x) (hv : Vis X.env.scope x) (hd : (x == ("__debug__" : Str)) = false := by decide) (hcd : (x == ("__classdict__" : Str)) = false := by decide) : QE X W (eVar i) (.Name x pos) :=
  QE.of (pe_var hN hv hd hcd) fun τ H Q ⟨σ, h, μ, rs, rh, q⟩ => by
    unfold eVar at q
    split at q
    · rename_i d e
      obtain ⟨v, e1, r⟩ := rs.2 i d e
      exact ⟨v, e1, q.now rh r⟩
    · exact q.elim
def eC (d : D) : M := fun _ h => .ok d h
theorem q_c {d : D} {v : V} {e : Expr} (hp : PE X e (tC v)) (hr : ∀ H μ, RD X.K H μ d v) : QE X W (eC d) e := QE.of hp fun τ H Q ⟨σ, h, μ, rs, rh, q⟩ => q.now rh (hr _ _)
theorem q_int {i j} : QE X W (eC (.int i)) (.Constant (.int i) j pos) := q_c pe_int fun _ _ => .int i
theorem q_bl {b j} : QE X W (eC (.bl b)) (.Constant (.bool b) j pos) := q_c pe_bl fun _ _ => .bl b
theorem q_non {j} : QE X W (eC .non) (.Constant .none j pos) := q_c pe_non fun _ _ => .non
theorem q_str {x j} : QE X W (eC (.str x)) (.Constant (.str x) j pos) := q_c pe_str fun _ _ => .str x
/-- a constant of the module -/
def GC (X : Cx) (x : Str) (d : D) : Prop := ∃ (v : V) (u : Value), X.mg x = some u ∧ RelV v u ∧ ∀ H μ, RD X.K H μ d v
theorem q_glob {x : Str} {d : D} (g : GC X x d) (hg : Gl X x) (hd : (x == ("__debug__" : Str)) = false := by decide) : QE X W (eC d) (.Name x pos) := by
  obtain ⟨v, u, hm, r, hr⟩ := g
  exact q_c (pe_glob hg hm r hd) hr

/-! ### argument lists, tuples, lists -/
def aNil : ML := fun _ h => .ok [] h
def aCons (m : M) (r : ML) : ML := fun σ h => (m σ h).bind fun d h1 => (r σ h1).bind fun ds h2 => .ok (d :: ds) h2
theorem qa_nil : QA X W aNil [] := QA.of pa_nil fun τ H Q ⟨σ, h, μ, rs, rh, q⟩ => q.now rh .nil
theorem qa_cons {m : M} {r : ML} {e : Expr} {es : List Expr} (hm : QE X W m e) (hr : QA X W r es) (hs : starEach (e :: es) X.env = (false, eval e X.env) :: starEach es X.env := by rfl) : QA X W (aCons m r) (e :: es) :=
  QA.of (pa_cons hm hr hs) fun τ H Q ⟨σ, h, μ, rs, rh, q⟩ =>
    go rs rh q fun d h1 v H1 μ1 s1 rs1 rh1 rd q1 => go rs1 rh1 q1 fun ds h2 vs H2 μ2 s2 rs2 rh2 rds q2 => q2.now rh2 (.cons (rd.stp s2) rds)
def eTup (r : ML) : M := fun σ h => (r σ h).bind fun ds h1 => if ds.length ≤ 16777216 then .ok (.tup ds) h1 else .stuck
theorem q_tup {r : ML} {es : List Expr} {k : Nat} (hr : QA X W r es) : QE X W (eTup r) (.Tuple es k pos) :=
  QE.of (pe_tup hr) fun τ H Q ⟨σ, h, μ, rs, rh, q⟩ => go rs rh q fun ds h1 vs H1 μ1 s1 rs1 rh1 rds q1 => by
    split at q1
    · rename_i hl
      refine ⟨by rw [sizeLine_eq, rds.length]; exact hl, fun p hp => ?_⟩
      exact q1 _ _ μ1 (Stp.laid hp) (rh1.laid hp) (RD.tup_laid rh1 hp rds)
    · exact q1.elim
/-- a list that nothing will change -/
def eLst (r : ML) : M := fun σ h => (r σ h).bind fun ds h1 => if ds.length ≤ 16777216 then .ok (.fro ds) h1 else .stuck
theorem q_lst {r : ML} {es : List Expr} (hr : QA X W r es) : QE X W (eLst r) (.List es pos) :=
  QE.of (pe_lst hr) fun τ H Q ⟨σ, h, μ, rs, rh, q⟩ => go rs rh q fun ds h1 vs H1 μ1 s1 rs1 rh1 rds q1 => by
    split at q1
    · rename_i hl
      refine ⟨by rw [sizeLine_eq, rds.length]; exact hl, fun p hp => ?_⟩
      exact q1 _ _ μ1 (Stp.laid hp) (rh1.laid hp) (RD.fro_laid rh1 hp rds)
    · exact q1.elim
/-- a new changing list -/
def eNewL (r : ML) : M := fun σ h => (r σ h).bind fun ds h1 => if ds.length ≤ 16777216 then .ok (.ref h1.length) (h1 ++ [.lst ds]) else .stuck
theorem q_newL {r : ML} {es : List Expr} (hr : QA X W r es) : QE X W (eNewL r) (.List es pos) :=
  QE.of (pe_lst hr) fun τ H Q ⟨σ, h, μ, rs, rh, q⟩ => go rs rh q fun ds h1 vs H1 μ1 s1 rs1 rh1 rds q1 => by
    split at q1
    · rename_i hl
      refine ⟨by rw [sizeLine_eq, rds.length]; exact hl, fun p hp => ?_⟩
      refine q1 _ _ (μ1.push p) (Stp.more hp) (rh1.more hp (.lst upd_same (rds.stp (Stp.more hp)))) ?_
      rw [← rh1.len]
      exact RD.last
    · exact q1.elim

/-! ### operators -/
abbrev Opt := Option (D × AH)
def lif : Opt → Res D
  | some (d, h) => .ok d h
  | none => .stuck
@[simp] theorem lif_some (d : D) (h : AH) : lif (some (d, h)) = .ok d h := rfl
@[simp] theorem lif_none : lif none = .stuck := rfl
abbrev F2 := D → D → AH → Opt
/-- what follows the answer of an operation -/
def PO2 (X : Cx) (H : Hp) (μ : Mu) (Q : VK) (r : Opt) : Prop := ∃ (z : D) (h' : AH), r = some (z, h') ∧ ∀ (v : V) (H' : Hp) (μ' : Mu), Stp μ μ' H H' → RelH X.prog X.w X.K H' μ' h' → RD X.K H' μ' z v → Q v H'
theorem PO2.of {r : Opt} {τ : L2.St} {H : Hp} {μ : Mu} {Q : VK} (q : Post X W τ H μ (RD X.K) Q (lif r)) : PO2 X H μ Q r := by
  cases e : r with
  | none => rw [e] at q; exact False.elim q
  | some p =>
    obtain ⟨z, h'⟩ := p
    rw [e] at q
    exact ⟨z, h', rfl, fun v H' μ' s rh rd => q v H' μ' s rh rd⟩
theorem PO2.bind {γ δ : Type} {RB : Hp → Mu → γ → δ → Prop} {Q2 : δ → Hp → Prop} {r : Opt} {σ : AS} {τ : L2.St} {H : Hp} {μ : Mu} {k : D → AH → Res γ} {Q : VK} (rs : RelS X.K H μ σ τ)
    (q : Post X W τ H μ RB Q2 ((lif r).bind k)) (hk : ∀ (z : D) (h1 : AH) (t : V) (H1 : Hp) (μ1 : Mu), Stp μ μ1 H H1 → RelS X.K H1 μ1 σ τ → RelH X.prog X.w X.K H1 μ1 h1 → RD X.K H1 μ1 z t → Post X W τ H1 μ1 RB Q2 (k z h1) → Q t H1) : PO2 X H μ Q r := by
  cases e : r with
  | none => rw [e] at q; exact False.elim q
  | some p =>
    obtain ⟨a, h'⟩ := p
    rw [e] at q
    refine ⟨a, h', rfl, fun b H' μ' s rh' ra => ?_⟩
    refine hk a h' b H' μ' s (rs.stp s) rh' ra ?_
    rw [lif_some, Res.bind_ok] at q
    cases e2 : k a h' with
    | stuck => rw [e2] at q; exact q
    | ok c h2 => rw [e2] at q; exact fun v H2 μ2 s2 => q v H2 μ2 (s.trans s2)
    | ex x h2 => rw [e2] at q; exact fun cls dd H2 μ2 s2 => q cls dd H2 μ2 (s.trans s2)
/-- an answer where nothing changed -/
theorem PO2.now {H : Hp} {μ : Mu} {h : AH} {Q : VK} {r : Opt} {z : D} {v : V} (q : PO2 X H μ Q r) (e : r = some (z, h)) (rh : RelH X.prog X.w X.K H μ h) (rz : RD X.K H μ z v) : Q v H := by
  obtain ⟨z', h', e', q⟩ := q
  rw [e] at e'; cases e'
  exact q v H μ Stp.refl rh rz
def rOf (X : Cx) (f : F2) : R2 := fun v u H Q => ∃ (x y : D) (μ : Mu) (h : AH), RelH X.prog X.w X.K H μ h ∧ RD X.K H μ x v ∧ RD X.K H μ y u ∧ PO2 X H μ Q (f x y h)
/-- an operator by values -/
def OpD (X : Cx) (op : Value → Value → Sem Value) (f : F2) : Prop := OpR X op (rOf X f)
theorem OpD.of {op : Value → Value → Sem Value} {r : R2} {f : F2} (ho : OpR X op r) (hi : ∀ v u H Q, rOf X f v u H Q → r v u H Q) : OpD X op f := fun pins s σ H x y v u Q I rx ry q => ho pins s σ H x y v u Q I rx ry (hi x y H Q q)
def eOp (f : F2) (a b : M) : M := fun σ h => (a σ h).bind fun x h1 => (b σ h1).bind fun y h2 => lif (f x y h2)
theorem two {a b : M} {f : F2} : ∀ τ H Q, tE X W (eOp f a b) τ H Q → tOp (rOf X f) (tE X W a) (tE X W b) τ H Q := fun τ H Q ⟨σ, h, μ, rs, rh, q⟩ =>
  go rs rh q fun x h1 v H1 μ1 s1 rs1 rh1 rx q1 => go rs1 rh1 q1 fun y h2 u H2 μ2 s2 rs2 rh2 ry q2 => ⟨x, y, μ2, h2, rh2, rx.stp s2, ry, .of q2⟩
theorem q_op {op : Operator} {f : F2} {a b : M} {ea eb : Expr} (ho : OpD X (binaryOp op) f) (ha : QE X W a ea) (hb : QE X W b eb) : QE X W (eOp f a b) (.BinOp ea op eb pos) :=
  QE.of (pe_op ho ha hb) two
theorem q_cmp {op : CmpOp} {f : F2} {a b : M} {ea eb : Expr} (ho : OpD X (compareOp op) f) (ha : QE X W a ea) (hb : QE X W b eb) (hm : behindInMarks op eb = false) : QE X W (eOp f a b) (.Compare ea [op] [eb] pos) :=
  QE.of (pe_cmpR ho ha hb hm) two
/-- a value as a test -/
def asB : Res D → Res Bool
  | .ok (.bl b) h => .ok b h
  | .ex e h => .ex e h
  | _ => .stuck
@[simp] theorem asB_bl (b : Bool) (h : AH) : asB (.ok (.bl b) h) = .ok b h := rfl
@[simp] theorem asB_ex (e : Ex) (h : AH) : asB (.ex e h) = .ex e h := rfl
def mB (m : M) : MB := fun σ h => asB (m σ h)
theorem Post.asB {τ : L2.St} {H : Hp} {μ : Mu} {Q : Bool → Hp → Prop} {r : Res D} (q : Post X W τ H μ rB Q (asB r)) : Post X W τ H μ (RD X.K) (fun v H' => ∃ k, v = .bl k ∧ Q k H') r := by
  cases r with
  | stuck => exact q
  | ex e h => exact q
  | ok d h =>
    cases d with
    | bl b =>
      intro v H' μ' s rh rd
      cases rd
      exact ⟨b, rfl, q b H' μ' s rh rfl⟩
    | _ => exact False.elim q
theorem tE_asB {m : M} {τ : L2.St} {H : Hp} {Q : Bool → Hp → Prop} (q : tT X W (mB m) τ H Q) : tE X W m τ H (fun v H' => ∃ k, v = .bl k ∧ Q k H') := by
  obtain ⟨σ, h, μ, rs, rh, q⟩ := q
  exact ⟨σ, h, μ, rs, rh, Post.asB q⟩
theorem qt_val {m : M} {e : Expr} (hm : QE X W m e) (he : ∀ whole, isTrue e X.env whole = (do let v ← whole; standAt e.pos; holding [v] (truthy v)) := by intro _; rfl) : QT X W (mB m) e :=
  QT.of (pt_val hm he) fun τ H Q q => tE_asB q
theorem qt_cmp {op : CmpOp} {f : F2} {a b : M} {ea eb : Expr} (ho : OpD X (compareOp op) f) (ha : QE X W a ea) (hb : QE X W b eb) (hm : behindInMarks op eb = false) : QT X W (mB (eOp f a b)) (.Compare ea [op] [eb] pos) :=
  QT.of (pt_cmpR ho ha hb hm) fun τ H Q q => two τ H _ (tE_asB q)
/-- a op b op' c -/
def eChain (f g : F2) (a b c : M) : M := fun σ h => (a σ h).bind fun x h1 => (b σ h1).bind fun y h2 => (lif (f x y h2)).bind fun z h3 => match z with
  | .bl true => (c σ h3).bind fun w h4 => lif (g y w h4)
  | .bl false => .ok (.bl false) h3
  | _ => .stuck
theorem chain_go {f g : F2} {a b c : M} : ∀ τ H Q, tE X W (eChain f g a b c) τ H Q → tChain (rOf X f) (rOf X g) (tE X W a) (tE X W b) (tE X W c) τ H Q := fun τ H Q ⟨σ, h, μ, rs, rh, q⟩ =>
  go rs rh q fun x h1 v H1 μ1 s1 rs1 rh1 rx q1 => go rs1 rh1 q1 fun y h2 u H2 μ2 s2 rs2 rh2 ry q2 => ⟨x, y, μ2, h2, rh2, rx.stp s2, ry, PO2.bind rs2 q2 fun z h3 t H3 μ3 s3 rs3 rh3 rz q3 => by
    cases z with
    | bl k =>
      cases rz
      refine ⟨k, rfl, ?_⟩
      cases k with
      | true =>
        rw [if_pos rfl]
        exact go rs3 rh3 q3 fun w h4 o H4 μ4 s4 rs4 rh4 rw q4 => ⟨y, w, μ4, h4, rh4, (ry.stp s3).stp s4, rw, .of q4⟩
      | false =>
        rw [if_neg Bool.false_ne_true]
        exact q3.now rh3 (.bl false)
    | _ => exact False.elim q3⟩
theorem q_chain {op op' : CmpOp} {f g : F2} {a b c : M} {ea eb ec : Expr} (ho : OpD X (compareOp op) f) (ho' : OpD X (compareOp op') g) (ha : QE X W a ea) (hb : QE X W b eb) (hc : QE X W c ec)
    (hm : lastMarks [op, op'] [eb, ec] = false := by with_unfolding_all rfl) : QE X W (eChain f g a b c) (.Compare ea [op, op'] [eb, ec] pos) := QE.of (pe_chain ho ho' ha hb hc hm) chain_go
theorem qt_chain {op op' : CmpOp} {f g : F2} {a b c : M} {ea eb ec : Expr} (ho : OpD X (compareOp op) f) (ho' : OpD X (compareOp op') g) (ha : QE X W a ea) (hb : QE X W b eb) (hc : QE X W c ec)
    (hm : lastMarks [op, op'] [eb, ec] = false := by with_unfolding_all rfl) : QT X W (mB (eChain f g a b c)) (.Compare ea [op, op'] [eb, ec] pos) :=
  QT.of (pt_chain ho ho' ha hb hc hm) fun τ H Q q => chain_go τ H _ (tE_asB q)

/-! ### and, or, not, if -/
def tAndM (a b : MB) : MB := fun σ h => (a σ h).bind fun c h1 => if c = true then b σ h1 else .ok false h1
def tOrM (a b : MB) : MB := fun σ h => (a σ h).bind fun c h1 => if c = true then .ok true h1 else b σ h1
def tNotM (a : MB) : MB := fun σ h => (a σ h).bind fun c h1 => .ok (!c) h1
variable {a b : MB} {ea eb : Expr} {rest : List Expr}
theorem qw_and1 (ha : QT X W a ea) : QW X W a (.BoolOp .And [ea] pos) := pw_and1 ha
theorem qw_or1 (ha : QT X W a ea) : QW X W a (.BoolOp .Or [ea] pos) := pw_or1 ha
theorem qw_and (ha : QT X W a ea) (hb : QW X W b (.BoolOp .And (eb :: rest) pos)) : QW X W (tAndM a b) (.BoolOp .And (ea :: eb :: rest) pos) :=
  QW.of (pw_and ha hb) fun τ H Q ⟨σ, h, μ, rs, rh, q⟩ => go rs rh q fun c h1 c' H1 μ1 s1 rs1 rh1 rc q1 => by
    cases (show c = c' from rc)
    cases c with
    | true => rw [if_pos rfl] at q1 ⊢; exact ⟨σ, h1, μ1, rs1, rh1, q1⟩
    | false => rw [if_neg Bool.false_ne_true] at q1 ⊢; exact q1.now rh1 rfl
theorem qw_or (ha : QT X W a ea) (hb : QW X W b (.BoolOp .Or (eb :: rest) pos)) : QW X W (tOrM a b) (.BoolOp .Or (ea :: eb :: rest) pos) :=
  QW.of (pw_or ha hb) fun τ H Q ⟨σ, h, μ, rs, rh, q⟩ => go rs rh q fun c h1 c' H1 μ1 s1 rs1 rh1 rc q1 => by
    cases (show c = c' from rc)
    cases c with
    | true => rw [if_pos rfl] at q1 ⊢; exact q1.now rh1 rfl
    | false => rw [if_neg Bool.false_ne_true] at q1 ⊢; exact ⟨σ, h1, μ1, rs1, rh1, q1⟩
theorem QW.qt (h : QW X W a ea) : QT X W a ea := PW.pt h
theorem qt_not (ha : QT X W a ea) : QT X W (tNotM a) (.UnaryOp .Not ea pos) :=
  QT.of (pt_not ha) fun τ H Q ⟨σ, h, μ, rs, rh, q⟩ => go rs rh q fun c h1 c' H1 μ1 s1 rs1 rh1 rc q1 => by
    cases (show c = c' from rc)
    exact q1.now rh1 rfl
/-- as values -/
def eAnd (a b : M) : M := fun σ h => (a σ h).bind fun c h1 => match c with
  | .bl true => b σ h1
  | .bl false => .ok (.bl false) h1
  | _ => .stuck
def eOr (a b : M) : M := fun σ h => (a σ h).bind fun c h1 => match c with
  | .bl true => .ok (.bl true) h1
  | .bl false => b σ h1
  | _ => .stuck
def eNot (a : M) : M := fun σ h => (a σ h).bind fun c h1 => match c with
  | .bl k => .ok (.bl (!k)) h1
  | _ => .stuck
variable {m n : M}
theorem q_one {op} (hm : QE X W m ea) : QE X W m (.BoolOp op [ea] pos) := pe_one hm
theorem q_and (hm : QE X W m ea) (hn : QE X W n (.BoolOp .And (eb :: rest) pos)) : QE X W (eAnd m n) (.BoolOp .And (ea :: eb :: rest) pos) :=
  QE.of (pe_and hm hn) fun τ H Q ⟨σ, h, μ, rs, rh, q⟩ => go rs rh q fun c h1 v H1 μ1 s1 rs1 rh1 rc q1 => by
    cases c with
    | bl k =>
      cases rc
      refine ⟨k, rfl, ?_⟩
      cases k with
      | true => rw [if_pos rfl]; exact ⟨σ, h1, μ1, rs1, rh1, q1⟩
      | false => rw [if_neg Bool.false_ne_true]; exact q1.now rh1 (.bl false)
    | _ => exact False.elim q1
theorem q_or (hm : QE X W m ea) (hn : QE X W n (.BoolOp .Or (eb :: rest) pos)) : QE X W (eOr m n) (.BoolOp .Or (ea :: eb :: rest) pos) :=
  QE.of (pe_or hm hn) fun τ H Q ⟨σ, h, μ, rs, rh, q⟩ => go rs rh q fun c h1 v H1 μ1 s1 rs1 rh1 rc q1 => by
    cases c with
    | bl k =>
      cases rc
      refine ⟨k, rfl, ?_⟩
      cases k with
      | true => rw [if_pos rfl]; exact q1.now rh1 (.bl true)
      | false => rw [if_neg Bool.false_ne_true]; exact ⟨σ, h1, μ1, rs1, rh1, q1⟩
    | _ => exact False.elim q1
theorem q_not (hm : QE X W m ea) : QE X W (eNot m) (.UnaryOp .Not ea pos) :=
  QE.of (pe_not hm) fun τ H Q ⟨σ, h, μ, rs, rh, q⟩ => go rs rh q fun c h1 v H1 μ1 s1 rs1 rh1 rc q1 => by
    cases c with
    | bl k => cases rc; exact ⟨k, rfl, q1.now rh1 (.bl (!k))⟩
    | _ => exact False.elim q1
def eIf (t : MB) (m n : M) : M := fun σ h => (t σ h).bind fun c h1 => if c = true then m σ h1 else n σ h1
theorem q_if {c : Expr} (ht : QT X W a c) (hm : QE X W m ea) (hn : QE X W n eb) : QE X W (eIf a m n) (.IfExp c ea eb pos) :=
  QE.of (pe_ifExp ht hm hn) fun τ H Q ⟨σ, h, μ, rs, rh, q⟩ => go rs rh q fun c h1 c' H1 μ1 s1 rs1 rh1 rc q1 => by
    cases (show c = c' from rc)
    cases c with
    | true => rw [if_pos rfl] at q1 ⊢; exact ⟨σ, h1, μ1, rs1, rh1, q1⟩
    | false => rw [if_neg Bool.false_ne_true] at q1 ⊢; exact ⟨σ, h1, μ1, rs1, rh1, q1⟩
end
end Q

/-! Q4: operators by values. -/
namespace Q
open PySem PySem.Spec PyProof.Rows L2

/-! ### trees as data -/
mutual
def pd : D → Option PyData
  | .non => some .none
  | .bl b => some (.bool b)
  | .int i => some (.int i)
  | .str s => some (.str s)
  | .tup ds => (pds ds).map .tuple
  | .fro ds => (pds ds).map .list
  | .scr ds => (pds ds).map .list
  | .ref _ => none
  | .exn _ _ _ _ _ => none
def pds : List D → Option (List PyData)
  | [] => some []
  | d :: ds => match pd d, pds ds with
    | some k, some ks => some (k :: ks)
    | _, _ => none
end
section
variable {X : Cx} {pins : List (Addr × Obj)} {σ : L2.St} {H : Hp} {s : Shared} {μ : Mu} {h : AH}
mutual
theorem RD.reads (I : Inv X pins σ H s) : ∀ (d : D) (v : V) (u : Value) (p : PyData), RD X.K H μ d v → RelV v u → pd d = some p → (∃ as, Reads s.heap u p as) ∧ p.plain = true
  | .non, _, _, _, h, r, e => by cases h; cases r; cases e; exact ⟨⟨_, .none⟩, rfl⟩
  | .bl b, _, _, _, h, r, e => by cases h; cases r; cases e; exact ⟨⟨_, .bool b⟩, rfl⟩
  | .int i, _, _, _, h, r, e => by cases h; obtain ⟨t, rfl⟩ := r; cases e; exact ⟨⟨_, .int i t⟩, rfl⟩
  | .str x, _, _, _, h, r, e => by cases h; obtain ⟨t, rfl⟩ := r; cases e; exact ⟨⟨_, .str x t⟩, rfl⟩
  | .tup ds, _, _, _, h, r, e => by
    cases h with
    | tup t rr =>
      cases r
      obtain ⟨its, rv, ⟨o, ho, hc, n, hd⟩, _⟩ := I.tuple t.sq
      rw [pd] at e
      obtain ⟨ks, hks, rfl⟩ := Option.map_eq_some_iff.mp e
      obtain ⟨⟨as, q⟩, pl⟩ := RDs.reads I ds _ its ks rr rv hks
      exact ⟨⟨_, Reads.tuple ho hc hd q⟩, by rw [PyData.plain]; exact pl⟩
  | .fro ds, _, _, _, h, r, e => by
    cases h with
    | fro t nm rr =>
      cases r
      obtain ⟨its, rv, ⟨o, n, ho, hc, _, hd⟩, _⟩ := I.list (SqL.of t)
      rw [pd] at e
      obtain ⟨ks, hks, rfl⟩ := Option.map_eq_some_iff.mp e
      obtain ⟨⟨as, q⟩, pl⟩ := RDs.reads I ds _ its ks rr rv hks
      exact ⟨⟨_, Reads.list ho hc hd q⟩, by rw [PyData.plain]; exact pl⟩
  | .scr ds, _, _, _, h, r, e => by
    cases h with
    | scr t rr =>
      cases r
      obtain ⟨its, rv, ⟨o, n, ho, hc, _, hd⟩, _⟩ := I.list t.sq
      rw [pd] at e
      obtain ⟨ks, hks, rfl⟩ := Option.map_eq_some_iff.mp e
      obtain ⟨⟨as, q⟩, pl⟩ := RDs.reads I ds _ its ks rr rv hks
      exact ⟨⟨_, Reads.list ho hc hd q⟩, by rw [PyData.plain]; exact pl⟩
  | .ref _, _, _, _, _, _, e => by cases e
  | .exn _ _ _ _ _, _, _, _, _, _, e => by cases e
theorem RDs.reads (I : Inv X pins σ H s) : ∀ (ds : List D) (vs : List V) (us : List Value) (ps : List PyData), RDs X.K H μ ds vs → Vals vs us → pds ds = some ps → (∃ as, ReadsAll s.heap us ps as) ∧ PyData.plainAll ps = true
  | [], _, _, _, h, r, e => by cases h; cases r; cases e; exact ⟨⟨_, .nil⟩, rfl⟩
  | d :: ds, _, _, _, h, r, e => by
    cases h with
    | cons h1 h2 =>
      cases r with
      | cons r1 r2 =>
        rw [pds] at e
        split at e
        · rename_i k ks e1 e2
          cases e
          obtain ⟨⟨as, q1⟩, p1⟩ := RD.reads I d _ _ k h1 r1 e1
          obtain ⟨⟨bs, q2⟩, p2⟩ := RDs.reads I ds _ _ ks h2 r2 e2
          exact ⟨⟨_, .cons q1 q2⟩, by rw [PyData.plainAll, p1, p2]; rfl⟩
        · cases e
end
/-- with the changing list itself -/
def pdH (h : AH) : D → Option PyData
  | .ref n => match h[n]? with
    | some (.lst ds) => (pds ds).map .list
    | _ => none
  | d => pd d
theorem RD.readsH (I : Inv X pins σ H s) (rh : RelH X.prog X.w X.K H μ h) {d : D} {v : V} {u : Value} {p : PyData} (r : RD X.K H μ d v) (rv : RelV v u) (e : pdH h d = some p) : (∃ as, Reads s.heap u p as) ∧ p.plain = true := by
  cases d with
  | ref n =>
    simp only [pdH] at e
    split at e
    · rename_i ds eh
      obtain ⟨ks, hks, rfl⟩ := Option.map_eq_some_iff.mp e
      cases r with
      | ref hm =>
        cases rv
        cases rh.obj n _ _ eh hm with
        | lst ha rr =>
          obtain ⟨its, rv, ⟨o, n, ho, hc, _, hd⟩, _⟩ := I.list (SqL.of ha)
          obtain ⟨⟨as, q⟩, pl⟩ := RDs.reads I ds _ its ks rr rv hks
          exact ⟨⟨_, Reads.list ho hc hd q⟩, by rw [PyData.plain]; exact pl⟩
    · cases e
  | _ => exact RD.reads I _ v u p r rv e
end

/-! ### sequences -/
def lsq (h : AH) : D → Option (List D)
  | .fro ds => some ds
  | .scr ds => some ds
  | .ref n => match h[n]? with
    | some (.lst ds) => some ds
    | _ => none
  | _ => none
def ssq (h : AH) : D → Option (List D)
  | .tup ds => some ds
  | .fro ds => some ds
  | .scr ds => some ds
  | .ref n => match h[n]? with
    | some (.lst ds) => some ds
    | _ => none
  | _ => none
section
variable {P : Program} {w : World} {K : PySem.W.Frag} {H : Hp} {μ : Mu} {h : AH} {d : D} {v : V} {ds : List D}
theorem lsq_ok (rh : RelH P w K H μ h) (r : RD K H μ d v) (e : lsq h d = some ds) : ∃ p xs, v = .ref p ∧ SqL K H p xs ∧ RDs K H μ ds xs := by
  unfold lsq at e
  split at e
  · cases e; cases r with | fro t n rr => exact ⟨_, _, rfl, SqL.of t, rr⟩
  · cases e; cases r with | scr t rr => exact ⟨_, _, rfl, t.sq, rr⟩
  · split at e
    · cases e
      rename_i eh
      cases r with
      | ref hm =>
        cases rh.obj _ _ _ eh hm with
        | lst ha rr => exact ⟨_, _, rfl, SqL.of ha, rr⟩
    · cases e
  · cases e
theorem ssq_ok (rh : RelH P w K H μ h) (r : RD K H μ d v) (e : ssq h d = some ds) : ∃ p xs, v = .ref p ∧ (SqL K H p xs ∨ SqT K H p xs) ∧ RDs K H μ ds xs := by
  cases d with
  | tup es => cases e; cases r with | tup t rr => exact ⟨_, _, rfl, .inr t.sq, rr⟩
  | _ => exact let ⟨p, xs, a, b, c⟩ := lsq_ok (d := _) rh r e; ⟨p, xs, a, .inl b, c⟩
end

section
variable {X : Cx}
/-! ### numbers -/
def dInt (C : Int → Int → Prop) [∀ i j, Decidable (C i j)] (g : Int → Int → Int) : F2 := fun x y h => match x, y with
  | .int i, .int j => if C i j then some (.int (g i j), h) else none
  | _, _ => none
theorem PO2.elim {H : Hp} {μ : Mu} {Q : VK} (q : PO2 X H μ Q none) {p : Prop} : p := by
  obtain ⟨_, _, e, _⟩ := q
  cases e
theorem opd_int {op : Value → Value → Sem Value} {C : Int → Int → Prop} [∀ i j, Decidable (C i j)] {g : Int → Int → Int} (ho : OpR X op (rI C fun i j => .int (g i j))) : OpD X op (dInt C g) :=
  .of ho fun v u H Q ⟨x, y, μ, h, rh, rx, ry, q⟩ => by
    unfold dInt at q
    split at q
    · split at q
      · rename_i hc
        cases rx; cases ry
        exact ⟨_, _, rfl, rfl, hc, q.now rfl rh (.int _)⟩
      · exact q.elim
    · exact q.elim
theorem opd_int0 {op : Value → Value → Sem Value} {g : Int → Int → Int} (ho : OpR X op (rI0 fun i j => .int (g i j))) : OpD X op (dInt (fun _ _ => True) g) :=
  .of ho fun v u H Q ⟨x, y, μ, h, rh, rx, ry, q⟩ => by
    unfold dInt at q
    split at q
    · rw [if_pos trivial] at q
      cases rx; cases ry
      exact ⟨_, _, rfl, rfl, q.now rfl rh (.int _)⟩
    · exact q.elim
abbrev dSub : F2 := dInt (fun _ _ => True) (· - ·)
theorem opd_sub : OpD X (binaryOp .Sub) dSub := opd_int0 op_sub
abbrev dMul : F2 := dInt (fun i j => i.natAbs < 2 ^ 4000 ∧ j.natAbs < 2 ^ 4000) (· * ·)
theorem opd_mul : OpD X (binaryOp .Mult) dMul := opd_int fun pins s σ H x y v u Q I rx ry q => op_mulW pins s σ H x y v u Q I rx ry (by
  obtain ⟨i, j, e1, e2, ⟨c1, c2⟩, q⟩ := q
  exact ⟨i, j, e1, e2, wide_mul c1 c2 (by decide) (by decide) (by decide), q⟩)
abbrev dDiv : F2 := dInt (fun _ j => 0 < j ∧ j.natAbs < 2 ^ 4000) (· / ·)
theorem opd_div : OpD X (binaryOp .FloorDiv) dDiv := opd_int fun pins s σ H x y v u Q I rx ry q => op_fdivW pins s σ H x y v u Q I rx ry (by
  obtain ⟨i, j, e1, e2, ⟨c1, c2⟩, q⟩ := q
  exact ⟨i, j, e1, e2, wide_div c1 c2 (by decide) (by decide), q⟩)
abbrev dMod : F2 := dInt (fun _ j => 0 < j) (· % ·)
theorem opd_mod : OpD X (binaryOp .Mod) dMod := opd_int op_mod
abbrev dPow : F2 := dInt (fun i j => 0 ≤ j ∧ j ≤ 1000000 ∧ i.natAbs < 2 ^ 64) fun i j => i ^ j.toNat
theorem opd_pow : OpD X (binaryOp .Pow) dPow := opd_int op_pow

/-! ### + -/
def dAdd : F2 := fun x y h => match x, y with
  | .int i, .int j => some (.int (i + j), h)
  | .str a, .str b => if a.length + b.length ≤ 16777216 then some (.str (a ++ b), h) else none
  | .tup a, .tup b => if a.length + b.length ≤ 16777216 then some (.tup (a ++ b), h) else none
  | _, _ => none
theorem opd_add : OpD X (binaryOp .Add) dAdd := fun pins s σ H v u v' u' Q I rv ru ⟨x, y, μ, h, rh, rx, ry, q⟩ => by
  unfold dAdd at q
  split at q
  · cases rx; cases ry
    exact op_add pins s σ H _ _ _ _ Q I rv ru ⟨_, _, rfl, rfl, q.now rfl rh (.int _)⟩
  · split at q
    · rename_i hl
      cases rx; cases ry
      exact op_add_str pins s σ H _ _ _ _ Q I rv ru ⟨_, _, rfl, rfl, by rw [sizeLine_eq]; exact hl, q.now rfl rh (.str _)⟩
    · exact q.elim
  · split at q
    · rename_i hl
      cases rx with
      | tup ta ra =>
        cases ry with
        | tup tb rb =>
          refine op_catA pins s σ H _ _ _ _ Q I rv ru ⟨_, _, _, _, rfl, rfl, ta.sq, tb.sq, by rw [sizeLine_eq, ra.length, rb.length]; exact hl, fun e => ?_, fun _ e => ?_, fun _ _ p hp => ?_⟩
          · subst e
            cases ra
            exact q.now rfl rh (.tup tb rb)
          · subst e
            cases rb
            exact q.now rfl rh (.tup ta (by rw [List.append_nil]; exact ra))
          · obtain ⟨z, h', e, q⟩ := q
            cases e
            exact q _ _ μ (Stp.laid hp) (rh.laid hp) (RD.tup_laid rh hp (ra.append rb))
    · exact q.elim
  · exact q.elim
/-- lists, to one that stays -/
def lchg (h : AH) : D → Option (List D)
  | .fro ds => some ds
  | .ref n => match h[n]? with
    | some (.lst ds) => some ds
    | _ => none
  | _ => none
theorem lchg_ok {P : Program} {w : World} {K : PySem.W.Frag} {H : Hp} {μ : Mu} {h : AH} {d : D} {v : V} {ds : List D} (rh : RelH P w K H μ h) (r : RD K H μ d v) (e : lchg h d = some ds) : ∃ p xs, v = .ref p ∧ H p = some (.lst xs) ∧ RDs K H μ ds xs := by
  unfold lchg at e
  split at e
  · cases e; cases r with | fro t n rr => exact ⟨_, _, rfl, t, rr⟩
  · split at e
    · cases e
      rename_i eh
      cases r with
      | ref hm =>
        cases rh.obj _ _ _ eh hm with
        | lst ha rr => exact ⟨_, _, rfl, ha, rr⟩
    · cases e
  · cases e
def dCat : F2 := fun x y h => match lchg h x, lchg h y with
  | some a, some b => if a.length + b.length ≤ 16777216 then some (.fro (a ++ b), h) else none
  | _, _ => none
theorem opd_cat : OpD X (binaryOp .Add) dCat := .of op_cat fun v u H Q ⟨x, y, μ, h, rh, rx, ry, q⟩ => by
  unfold dCat at q
  split at q
  · rename_i a b ea eb
    split at q
    · rename_i hl
      obtain ⟨p1, xs, rfl, h1, r1⟩ := lchg_ok rh rx ea
      obtain ⟨p2, ys, rfl, h2, r2⟩ := lchg_ok rh ry eb
      refine ⟨p1, p2, xs, ys, rfl, rfl, h1, h2, by rw [sizeLine_eq, r1.length, r2.length]; exact hl, fun p hp => ?_⟩
      obtain ⟨z, h', e, q⟩ := q
      cases e
      exact q _ _ μ (Stp.laid hp) (rh.laid hp) (RD.fro_laid rh hp (r1.append r2))
    · exact q.elim
  · exact q.elim
/-- lists, to a new changing one -/
theorem PO2.list {H : Hp} {μ : Mu} {h : AH} {Q : VK} {ds : List D} {xs : List V} (q : PO2 X H μ Q (some (.ref h.length, h ++ [.lst ds]))) (rh : RelH X.prog X.w X.K H μ h) (r : RDs X.K H μ ds xs) : ∀ p, H p = none → Q (.ref p) (upd H p (.lst xs)) := fun p hp => by
  obtain ⟨z, h', e, q⟩ := q
  cases e
  refine q _ _ (μ.push p) (Stp.more hp) (rh.more hp (.lst upd_same (r.stp (Stp.more hp)))) ?_
  rw [← rh.len]
  exact RD.last
theorem PO2.fro {H : Hp} {μ : Mu} {h : AH} {Q : VK} {ds : List D} {xs : List V} (q : PO2 X H μ Q (some (.fro ds, h))) (rh : RelH X.prog X.w X.K H μ h) (r : RDs X.K H μ ds xs) : ∀ p, H p = none → Q (.ref p) (upd H p (.lst xs)) := fun p hp => by
  obtain ⟨z, h', e, q⟩ := q
  cases e
  exact q _ _ μ (Stp.laid hp) (rh.laid hp) (RD.fro_laid rh hp r)
theorem PO2.tup {H : Hp} {μ : Mu} {h : AH} {Q : VK} {ds : List D} {xs : List V} (q : PO2 X H μ Q (some (.tup ds, h))) (rh : RelH X.prog X.w X.K H μ h) (r : RDs X.K H μ ds xs) : ∀ p, H p = none → Q (.ref p) (upd H p (.tup xs)) := fun p hp => by
  obtain ⟨z, h', e, q⟩ := q
  cases e
  exact q _ _ μ (Stp.laid hp) (rh.laid hp) (RD.tup_laid rh hp r)
def dCatR : F2 := fun x y h => match lchg h x, lchg h y with
  | some a, some b => if a.length + b.length ≤ 16777216 then some (.ref h.length, h ++ [.lst (a ++ b)]) else none
  | _, _ => none
theorem opd_catR : OpD X (binaryOp .Add) dCatR := .of op_cat fun v u H Q ⟨x, y, μ, h, rh, rx, ry, q⟩ => by
  unfold dCatR at q
  split at q
  · rename_i a b ea eb
    split at q
    · rename_i hl
      obtain ⟨p1, xs, rfl, h1, r1⟩ := lchg_ok rh rx ea
      obtain ⟨p2, ys, rfl, h2, r2⟩ := lchg_ok rh ry eb
      exact ⟨p1, p2, xs, ys, rfl, rfl, h1, h2, by rw [sizeLine_eq, r1.length, r2.length]; exact hl, q.list rh (r1.append r2)⟩
    · exact q.elim
  · exact q.elim

/-! ### comparisons of data -/
def dCmp (C : PyData → PyData → Bool) (g : PyData → PyData → Bool) : F2 := fun x y h => match pdH h x, pdH h y with
  | some p, some q => if C p q = true ∧ min p.depth q.depth ≤ 64 then some (.bl (g p q), h) else none
  | _, _ => none
theorem opd_cmp {op : Value → Value → Sem Value} {C g : PyData → PyData → Bool} (hu : X.A.units + 64 < cLine)
    (rule : ∀ (s : Shared) (a b : Value) (da db : PyData) (as bs : List Addr) (Q : Value → Shared → Prop) (E : Value → Shared → Prop), Reads s.heap a da as → Reads s.heap b db bs → da.plain = true → db.plain = true → C da db = true → X.A.units + min da.depth db.depth < cLine → Q (.bool (g da db)) s → wpAny (model X.prog X.w) X.A (op a b) Q E s) : OpD X op (dCmp C g) :=
  fun pins s σ H v u v' u' Q I rv ru ⟨x, y, μ, h, rh, rx, ry, q⟩ => by
    unfold dCmp at q
    split at q
    · rename_i p r e1 e2
      split at q
      · rename_i hc
        obtain ⟨⟨as, r1⟩, p1⟩ := RD.readsH I rh rx rv e1
        obtain ⟨⟨bs, r2⟩, p2⟩ := RD.readsH I rh ry ru e2
        exact rule s v' u' p r as bs _ _ r1 r2 p1 p2 hc.1 (by omega) ⟨.bl _, H, I, rfl, q.now rfl rh (.bl _)⟩
      · exact q.elim
    · exact q.elim
def notNone : PyData → Bool
  | .none => false
  | _ => true
theorem notNone_ne {p : PyData} (h : notNone p = true) : p ≠ .none := fun e => by subst e; cases h
abbrev cAny : PyData → PyData → Bool := fun _ _ => true
abbrev cOrd : PyData → PyData → Bool := fun p q => PySem.W.alike p q && notNone p
abbrev dEq : F2 := dCmp cAny PyData.eqv
abbrev dNe : F2 := dCmp cAny fun p q => !PyData.eqv p q
abbrev dLt : F2 := dCmp cOrd PySem.W.dataLt
abbrev dGt : F2 := dCmp cOrd fun p q => PySem.W.dataLt q p
abbrev dLe : F2 := dCmp cOrd fun p q => !PySem.W.dataLt q p
abbrev dGe : F2 := dCmp cOrd fun p q => !PySem.W.dataLt p q
theorem opd_eq (hu : X.A.units + 64 < cLine) : OpD X (compareOp .Eq) dEq := opd_cmp hu fun s a b da db as bs Q E r1 r2 p1 p2 _ hu' q => PySem.SeqAt.eq_plain r1 r2 p1 p2 hu' q
theorem opd_ne (hu : X.A.units + 64 < cLine) : OpD X (compareOp .NotEq) dNe := opd_cmp hu fun s a b da db as bs Q E r1 r2 p1 p2 _ hu' q => PySem.SeqAt.ne_plain r1 r2 p1 p2 hu' q
theorem cOrd_of {p q : PyData} (h : cOrd p q = true) : PySem.W.alike p q = true ∧ p ≠ .none := by
  rw [cOrd, Bool.and_eq_true] at h
  exact ⟨h.1, notNone_ne h.2⟩
theorem opd_lt (hu : X.A.units + 64 < cLine) : OpD X (compareOp .Lt) dLt := opd_cmp hu fun s a b da db as bs Q E r1 r2 _ _ c hu' q => PySem.W.lt_data r1 r2 (cOrd_of c).1 (cOrd_of c).2 hu' q
theorem opd_gt (hu : X.A.units + 64 < cLine) : OpD X (compareOp .Gt) dGt := opd_cmp hu fun s a b da db as bs Q E r1 r2 _ _ c hu' q => PySem.W.gt_data r1 r2 (cOrd_of c).1 (cOrd_of c).2 hu' q
theorem opd_le (hu : X.A.units + 64 < cLine) : OpD X (compareOp .LtE) dLe := opd_cmp hu fun s a b da db as bs Q E r1 r2 _ _ c hu' q => PySem.W.le_data r1 r2 (cOrd_of c).1 (cOrd_of c).2 hu' q
theorem opd_ge (hu : X.A.units + 64 < cLine) : OpD X (compareOp .GtE) dGe := opd_cmp hu fun s a b da db as bs Q E r1 r2 _ _ c hu' q => PySem.W.ge_data r1 r2 (cOrd_of c).1 (cOrd_of c).2 hu' q

/-! ### is -/
def dIs : F2 := fun x y h => match x, y with
  | .bl a, .bl b => some (.bl (decide (a = b)), h)
  | _, _ => none
def dIsNot : F2 := fun x y h => match x, y with
  | .bl a, .bl b => some (.bl (!decide (a = b)), h)
  | _, _ => none
theorem opd_is : OpD X (compareOp .Is) dIs := .of op_isBl fun v u H Q ⟨x, y, μ, h, rh, rx, ry, q⟩ => by
  unfold dIs at q
  split at q
  · cases rx; cases ry
    exact ⟨_, _, rfl, rfl, q.now rfl rh (.bl _)⟩
  · exact q.elim
theorem opd_isNot : OpD X (compareOp .IsNot) dIsNot := .of op_notBl fun v u H Q ⟨x, y, μ, h, rh, rx, ry, q⟩ => by
  unfold dIsNot at q
  split at q
  · cases rx; cases ry
    exact ⟨_, _, rfl, rfl, q.now rfl rh (.bl _)⟩
  · exact q.elim
def isNonD : D → Bool
  | .non => true
  | _ => false
theorem isNonD_V {K : PySem.W.Frag} {H : Hp} {μ : Mu} {d : D} {v : V} (r : RD K H μ d v) : decide (v = .non) = isNonD d := by cases r <;> rfl
def dIsN : F2 := fun x y h => match y with
  | .non => some (.bl (isNonD x), h)
  | _ => none
def dNotN : F2 := fun x y h => match y with
  | .non => some (.bl (!isNonD x), h)
  | _ => none
theorem opd_isN : OpD X (compareOp .Is) dIsN := .of op_isN fun v u H Q ⟨x, y, μ, h, rh, rx, ry, q⟩ => by
  unfold dIsN at q
  split at q
  · cases ry
    refine ⟨rfl, ?_⟩
    rw [isNonD_V rx]
    exact q.now rfl rh (.bl _)
  · exact q.elim
theorem opd_notN : OpD X (compareOp .IsNot) dNotN := .of op_notN fun v u H Q ⟨x, y, μ, h, rh, rx, ry, q⟩ => by
  unfold dNotN at q
  split at q
  · cases ry
    refine ⟨rfl, ?_⟩
    rw [isNonD_V rx]
    exact q.now rfl rh (.bl _)
  · exact q.elim

/-! ### in, of sequences -/
def dInS (neg : Bool) : F2 := fun x y h => match pd x, pdH h y with
  | some p, some (.list ps) => if min (PyData.depthAll ps) p.depth ≤ 63 then some (.bl (neg != ps.any fun z => PyData.eqv z p), h) else none
  | some p, some (.tuple ps) => if min (PyData.depthAll ps) p.depth ≤ 63 then some (.bl (neg != ps.any fun z => PyData.eqv z p), h) else none
  | _, _ => none
theorem plain_list {ps : List PyData} (h : PyData.plain (.list ps) = true) : PyData.plainAll ps = true := by rw [PyData.plain] at h; exact h
theorem plain_tuple {ps : List PyData} (h : PyData.plain (.tuple ps) = true) : PyData.plainAll ps = true := by rw [PyData.plain] at h; exact h
theorem opd_inS (hu : X.A.units + 64 < cLine) : OpD X (compareOp .In) (dInS false) := fun pins s σ H v u v' u' Q I rv ru ⟨x, y, μ, h, rh, rx, ry, q⟩ => by
  unfold dInS at q
  split at q
  · rename_i p ps e1 e2
    split at q
    · rename_i hc
      obtain ⟨⟨as, r1⟩, p1⟩ := RD.reads I _ _ _ _ rx rv e1
      obtain ⟨⟨bs, r2⟩, p2⟩ := RD.readsH I rh ry ru e2
      refine PySem.SeqAt.in_list_data r2 r1 (plain_list p2) p1 (by omega) ⟨.bl _, H, I, rfl, ?_⟩
      rw [Bool.false_bne] at q
      exact q.now rfl rh (.bl _)
    · exact q.elim
  · rename_i p ps e1 e2
    split at q
    · rename_i hc
      obtain ⟨⟨as, r1⟩, p1⟩ := RD.reads I _ _ _ _ rx rv e1
      obtain ⟨⟨bs, r2⟩, p2⟩ := RD.readsH I rh ry ru e2
      refine PySem.SeqAt.in_tuple_data r2 r1 (plain_tuple p2) p1 (by omega) ⟨.bl _, H, I, rfl, ?_⟩
      rw [Bool.false_bne] at q
      exact q.now rfl rh (.bl _)
    · exact q.elim
  · exact q.elim
theorem opd_notInS (hu : X.A.units + 64 < cLine) : OpD X (compareOp .NotIn) (dInS true) := fun pins s σ H v u v' u' Q I rv ru ⟨x, y, μ, h, rh, rx, ry, q⟩ => by
  unfold dInS at q
  split at q
  · rename_i p ps e1 e2
    split at q
    · rename_i hc
      obtain ⟨⟨as, r1⟩, p1⟩ := RD.reads I _ _ _ _ rx rv e1
      obtain ⟨⟨bs, r2⟩, p2⟩ := RD.readsH I rh ry ru e2
      refine PySem.SeqAt.notIn_list_data r2 r1 (plain_list p2) p1 (by omega) ⟨.bl _, H, I, rfl, ?_⟩
      rw [Bool.true_bne] at q
      exact q.now rfl rh (.bl _)
    · exact q.elim
  · rename_i p ps e1 e2
    split at q
    · rename_i hc
      obtain ⟨⟨as, r1⟩, p1⟩ := RD.reads I _ _ _ _ rx rv e1
      obtain ⟨⟨bs, r2⟩, p2⟩ := RD.readsH I rh ry ru e2
      refine PySem.SeqAt.notIn_tuple_data r2 r1 (plain_tuple p2) p1 (by omega) ⟨.bl _, H, I, rfl, ?_⟩
      rw [Bool.true_bne] at q
      exact q.now rfl rh (.bl _)
    · exact q.elim
  · exact q.elim
end
end Q

/-! Q5: dicts. -/
namespace Q
open PySem PySem.Spec PyProof.Rows L2

def dtGet (kvs : List (D × D)) (k : NestedKey) : Option D := (kvs.find? fun p => decide (nk p.1 = some k)).map (·.2)
def dtPut (kvs : List (D × D)) (d : D) (k : NestedKey) (v : D) : List (D × D) :=
  if (dtGet kvs k).isSome then kvs.map (fun p => if nk p.1 = some k then (p.1, v) else p) else kvs ++ [(d, v)]
def dkGet (kvs : List (Key × D)) (k : Key) : Option D := (kvs.find? fun p => decide (p.1 = k)).map (·.2)
def dkPut (kvs : List (Key × D)) (k : Key) (v : D) : List (Key × D) :=
  if (kvs.any fun kv => decide (kv.1 = k)) = true then kvs.map (fun kv => if kv.1 = k then (kv.1, v) else kv) else kvs ++ [(k, v)]
def keyD : D → Option Key
  | .int i => some (.inl i)
  | .str s => some (.inr s)
  | _ => none
/-- a tuple as a key -/
def tkey : D → Option NestedKey
  | .tup ds => match nk (.tup ds) with
    | some k => if k.depth ≤ 8 then some k else none
    | none => none
  | _ => none
def objAt (h : AH) : D → Option O
  | .ref n => h[n]?
  | _ => none

section
variable {P : Program} {w : World} {K : PySem.W.Frag} {H : Hp} {μ : Mu}
theorem paired_dt {kvs : List (D × D)} {xs : List (NestedKey × Addr × Value)} (r : Paired (RT K H μ) kvs xs) (k : NestedKey) :
    (dtGet kvs k = none ∧ atKey xs k = none) ∨ ∃ d b u v, dtGet kvs k = some d ∧ atKey xs k = some (b, u) ∧ RelV v u ∧ RD K H μ d v := by
  induction r with
  | nil => exact .inl ⟨rfl, rfl⟩
  | @cons p x ps ys rt t ih =>
    by_cases hk : x.1 = k
    · obtain ⟨v, r1, r2⟩ := rt.val
      refine .inr ⟨p.2, x.2.1, x.2.2, v, ?_, ?_, r1, r2⟩
      · simp [dtGet, rt.key, hk]
      · simp [atKey, hk]
    · have h1 : dtGet (p :: ps) k = dtGet ps k := by simp [dtGet, rt.key, hk]
      have h2 : atKey (x :: ys) k = atKey ys k := by simp [atKey, hk]
      rw [h1, h2]
      exact ih
theorem paired_put {kvs : List (D × D)} {xs : List (NestedKey × Addr × Value)} (r : Paired (RT K H μ) kvs xs) {d : D} {k : NestedKey} {b : Addr} {dv : D} {v : V} {u : Value} (hk : nk d = some k) (hd : k.depth ≤ 8) (rk : RD K H μ d (.ref b)) (rv : RelV v u) (rd : RD K H μ dv v) :
    Paired (RT K H μ) (dtPut kvs d k dv) (storedH xs k b u) := by
  have hs : (dtGet kvs k).isSome = (atKey xs k).isSome := by
    rcases paired_dt r k with ⟨e1, e2⟩ | ⟨_, _, _, _, e1, e2, _⟩ <;> rw [e1, e2] <;> rfl
  unfold dtPut storedH
  rw [hs]
  split
  · rename_i hx
    clear hx hs
    induction r with
    | nil => exact .nil
    | @cons p x ps ys rt t ih =>
      refine .cons ?_ ih
      show RT K H μ (if nk p.1 = some k then (p.1, dv) else p) (if x.1 = k then (x.1, x.2.1, u) else x)
      by_cases hx : x.1 = k
      · have e : nk p.1 = some k := by rw [rt.key, hx]
        rw [if_pos e, if_pos hx]
        exact ⟨rt.key, rt.dep, rt.rk, v, rv, rd⟩
      · have e : ¬ nk p.1 = some k := by rw [rt.key]; simpa using hx
        rw [if_neg e, if_neg hx]
        exact rt
  · rename_i hx
    clear hx hs
    have hn : RT K H μ (d, dv) (k, b, u) := ⟨hk, hd, rk, v, rv, rd⟩
    induction r with
    | nil => exact .cons hn .nil
    | cons rt t ih => exact .cons rt ih
theorem length_dtPut (kvs : List (D × D)) (d : D) (k : NestedKey) (v : D) : (dtPut kvs d k v).length ≤ kvs.length + 1 := by
  unfold dtPut
  split <;> simp
theorem paired_dk {kvs : List (Key × D)} {qs : List (Key × V)} (r : RKV K H μ kvs qs) (k : Key) : (dkGet kvs k = none ∧ valV qs k = none) ∨ ∃ d v, dkGet kvs k = some d ∧ valV qs k = some v ∧ RD K H μ d v := by
  unfold RKV at r
  induction r with
  | nil => exact .inl ⟨rfl, rfl⟩
  | @cons p x ps ys rt t ih =>
    by_cases hk : x.1 = k
    · exact .inr ⟨p.2, x.2, by simp [dkGet, rt.1, hk], by simp [valV, hk], rt.2⟩
    · have h1 : dkGet (p :: ps) k = dkGet ps k := by simp [dkGet, rt.1, hk]
      have h2 : valV (x :: ys) k = valV ys k := by simp [valV, hk]
      rw [h1, h2]
      exact ih
theorem paired_dkAny {kvs : List (Key × D)} {qs : List (Key × V)} (r : RKV K H μ kvs qs) (k : Key) : (kvs.any fun kv => decide (kv.1 = k)) = qs.any fun kv => decide (kv.1 = k) := by
  unfold RKV at r
  induction r with
  | nil => rfl
  | @cons p x ps ys rt t ih => rw [List.any_cons, List.any_cons, ih, rt.1]
theorem paired_dkPut {kvs : List (Key × D)} {qs : List (Key × V)} (r : RKV K H μ kvs qs) {k : Key} {d : D} {v : V} (rd : RD K H μ d v) : RKV K H μ (dkPut kvs k d) (putK qs k v) := by
  unfold dkPut putK
  rw [paired_dkAny r k]
  unfold RKV at r ⊢
  split
  · rename_i hx
    clear hx
    induction r with
    | nil => exact .nil
    | @cons p x ps ys rt t ih =>
      refine .cons ?_ ih
      show (if p.1 = k then (p.1, d) else p).1 = (if x.1 = k then (x.1, v) else x).1 ∧ RD K H μ (if p.1 = k then (p.1, d) else p).2 (if x.1 = k then (x.1, v) else x).2
      rw [rt.1]
      split
      · exact ⟨rfl, rd⟩
      · exact rt
  · rename_i hx
    clear hx
    have hn : (fun (p : Key × D) (q : Key × V) => p.1 = q.1 ∧ RD K H μ p.2 q.2) (k, d) (k, v) := ⟨rfl, rd⟩
    induction r with
    | nil => exact .cons hn .nil
    | cons rt t ih => exact .cons rt ih
theorem length_dkPut (kvs : List (Key × D)) (k : Key) (v : D) : (dkPut kvs k v).length ≤ kvs.length + 1 := by
  unfold dkPut
  split <;> simp
theorem keyD_V {d : D} {v : V} {k : Key} (r : RD K H μ d v) (e : keyD d = some k) : v = kV k := by
  unfold keyD at e
  split at e
  · cases e; cases r; rfl
  · cases e; cases r; rfl
  · cases e
theorem tkey_V {d : D} {v : V} {k : NestedKey} (r : RD K H μ d v) (e : tkey d = some k) : ∃ a, v = .ref a ∧ nk d = some k ∧ k.depth ≤ 8 := by
  unfold tkey at e
  split at e
  · split at e
    · split at e
      · cases e
        rename_i h1 h2
        cases r with
        | tup t _ => exact ⟨_, rfl, h1, h2⟩
      · cases e
    · cases e
  · cases e
end

section
variable {X : Cx} {pins : List (Addr × Obj)} {σ : L2.St} {H : Hp} {s : Shared} {μ : Mu} {h : AH} {a : Addr}
/-- the dict with tuple keys, as the library has it -/
theorem dt_raw (I : Inv X pins σ H s) {kvs : List (D × D)} {xs : List (NestedKey × Addr × Value)} (e : H a = some (dxO a (xs.map (entryOfKey (nestedKind X.prog X.w))))) (r : Paired (RT X.K H μ) kvs xs) (nd : (xs.map (·.1)).Nodup) :
    s.heap.DictOfH (nestedKind X.prog X.w) a xs := by
  obtain ⟨⟨o, ep, ho, hc, hd⟩, _, _⟩ := I.hok a _ e
  refine ⟨o, _, ep, ho, hc, hd, by simp, fun x hx => ?_, nd⟩
  obtain ⟨i, hi⟩ := List.mem_iff_getElem?.mp hx
  have : ∀ {kvs : List (D × D)} {xs : List (NestedKey × Addr × Value)}, Paired (RT X.K H μ) kvs xs → ∀ x ∈ xs, ∃ p, RT X.K H μ p x := by
    intro kvs xs r
    induction r with
    | nil => intro x hx; cases hx
    | cons rt t ih =>
      intro x hx
      rcases List.mem_cons.mp hx with rfl | hx
      · exact ⟨_, rt⟩
      · exact ih x hx
  obtain ⟨p, rt⟩ := this r x hx
  exact ⟨RD.nested I _ _ _ _ rt.rk rfl rt.key, rt.dep⟩
theorem key_is (I : Inv X pins σ H s) {d : D} {k : NestedKey} {b : Addr} (r : RD X.K H μ d (.ref b)) (e : nk d = some k) (hd : k.depth ≤ 8) : (nestedKind X.prog X.w).is s.heap k b := ⟨RD.nested I _ _ _ _ r rfl e, hd⟩

/-! ### in -/
def dIn (neg : Bool) : F2 := fun x y h => match objAt h y with
  | some (.dt kvs) => match tkey x with
    | some k => some (.bl (neg != (dtGet kvs k).isSome), h)
    | none => none
  | some (.dk kvs) => match keyD x with
    | some k => some (.bl (neg != (dkGet kvs k).isSome), h)
    | none => none
  | _ => dInS neg x y h
theorem objAt_ok {P : Program} {w : World} {K : PySem.W.Frag} {d : D} {v : V} {o : O} (rh : RelH P w K H μ h) (r : RD K H μ d v) (e : objAt h d = some o) : ∃ n b, d = .ref n ∧ μ.l[n]? = some b ∧ v = .ref b ∧ Q.RelO P w K H μ o b := by
  unfold objAt at e
  split at e
  · cases r with
    | ref hm => exact ⟨_, _, rfl, hm, rfl, rh.obj _ _ _ e hm⟩
  · cases e
theorem opd_in (hu : X.A.units + 64 < cLine) : OpD X (compareOp .In) (dIn false) := fun pins s σ H v u v' u' Q I rv ru ⟨x, y, μ, h, rh, rx, ry, q⟩ => by
  unfold dIn at q
  split at q
  · rename_i kvs eo
    split at q
    · rename_i k ek
      obtain ⟨n, b, rfl, hm, rfl, ro⟩ := objAt_ok rh ry eo
      obtain ⟨a, rfl, e1, e2⟩ := tkey_V rx ek
      cases rv; cases ru
      cases ro with
      | dt he hz hl hp hn =>
        refine wpAny_in_heap (show (nestedKind X.prog X.w).room X.A.in1 from ?_) (key_is I rx e1 e2) hz (dt_raw I he hp hn) ?_
        · show X.A.units + 1 + 8 < cLine
          omega
        · refine ⟨.bl _, H, I.tok _, rfl, ?_⟩
          rw [Bool.false_bne] at q
          rcases paired_dt hp k with ⟨z1, z2⟩ | ⟨_, _, _, _, z1, z2, _⟩
          · rw [z1] at q; rw [z2]; exact q.now rfl rh (.bl _)
          · rw [z1] at q; rw [z2]; exact q.now rfl rh (.bl _)
    · exact q.elim
  · rename_i kvs eo
    split at q
    · rename_i k ek
      obtain ⟨n, b, rfl, hm, rfl, ro⟩ := objAt_ok rh ry eo
      have ev := keyD_V rx ek
      cases ru
      cases ro with
      | dk he hp =>
        refine d_in (by omega) I (.inl ⟨_, k, .inl he, ev, rfl⟩) rv fun s' I' => ⟨.bl _, H, I', rfl, ?_⟩
        rw [Bool.false_bne] at q
        rcases paired_dk hp k with ⟨z1, z2⟩ | ⟨_, _, z1, z2, _⟩
        · rw [z1] at q; rw [z2]; exact q.now rfl rh (.bl _)
        · rw [z1] at q; rw [z2]; exact q.now rfl rh (.bl _)
    · exact q.elim
  · exact opd_inS hu pins s σ H v u v' u' Q I rv ru ⟨x, y, μ, h, rh, rx, ry, q⟩
theorem opd_notIn (hu : X.A.units + 64 < cLine) : OpD X (compareOp .NotIn) (dIn true) := fun pins s σ H v u v' u' Q I rv ru ⟨x, y, μ, h, rh, rx, ry, q⟩ => by
  unfold dIn at q
  split at q
  · rename_i kvs eo
    split at q
    · rename_i k ek
      obtain ⟨n, b, rfl, hm, rfl, ro⟩ := objAt_ok rh ry eo
      obtain ⟨a, rfl, e1, e2⟩ := tkey_V rx ek
      cases rv; cases ru
      cases ro with
      | dt he hz hl hp hn =>
        refine wpAny_notIn_heap (show (nestedKind X.prog X.w).room X.A.in1 from ?_) (key_is I rx e1 e2) hz (dt_raw I he hp hn) ?_
        · show X.A.units + 1 + 8 < cLine
          omega
        · refine ⟨.bl _, H, I.tok _, rfl, ?_⟩
          rw [Bool.true_bne] at q
          rcases paired_dt hp k with ⟨z1, z2⟩ | ⟨_, _, _, _, z1, z2, _⟩
          · rw [z1] at q; rw [z2]; exact q.now rfl rh (.bl _)
          · rw [z1] at q; rw [z2]; exact q.now rfl rh (.bl _)
    · exact q.elim
  · rename_i kvs eo
    split at q
    · rename_i k ek
      obtain ⟨n, b, rfl, hm, rfl, ro⟩ := objAt_ok rh ry eo
      have ev := keyD_V rx ek
      cases ru
      cases ro with
      | dk he hp =>
        refine d_notIn (by omega) I (.inl ⟨_, k, .inl he, ev, rfl⟩) rv fun s' I' => ⟨.bl _, H, I', rfl, ?_⟩
        rw [Bool.true_bne] at q
        rcases paired_dk hp k with ⟨z1, z2⟩ | ⟨_, _, z1, z2, _⟩
        · rw [z1] at q; rw [z2]; exact q.now rfl rh (.bl _)
        · rw [z1] at q; rw [z2]; exact q.now rfl rh (.bl _)
    · exact q.elim
  · exact opd_notInS hu pins s σ H v u v' u' Q I rv ru ⟨x, y, μ, h, rh, rx, ry, q⟩

/-! ### subscripts -/
def dIx : F2 := fun x y h => match objAt h x with
  | some (.dt kvs) => match tkey y with
    | some k => (dtGet kvs k).map fun d => (d, h)
    | none => none
  | some (.dk kvs) => match keyD y with
    | some k => (dkGet kvs k).map fun d => (d, h)
    | none => none
  | _ => match x, y with
    | .str a, .int i => if a.length ≤ 16777216 then (atI a.cps.toList i).map fun c => (.str ⟨#[c]⟩, h) else none
    | x, .int i => match ssq h x with
      | some ds => (atI ds i).map fun d => (d, h)
      | none => none
    | _, _ => none
theorem RDs.atI {K : PySem.W.Frag} {ds : List D} {xs : List V} {i : Int} {d : D} (r : RDs K H μ ds xs) (e : L2.atI ds i = some d) : ∃ v, L2.atI xs i = some v ∧ RD K H μ d v := by
  unfold L2.atI at e ⊢
  rw [r.length]
  cases hi : ixN ds.length i with
  | none => rw [hi] at e; cases e
  | some j =>
    rw [hi] at e
    obtain ⟨v, e1, r1⟩ := r.get e
    exact ⟨v, e1, r1⟩
/-- an IxR by values -/
def IxD (X : Cx) (f : F2) : Prop := IxR X (rOf X f)
theorem ixd (hu : X.A.units + 64 < cLine) : IxD X dIx := fun value slice pins s σ H v u v' u' Q I rv ru ⟨x, y, μ, h, rh, rx, ry, q⟩ hs => by
  unfold dIx at q
  split at q
  · rename_i kvs eo
    split at q
    · rename_i k ek
      obtain ⟨n, b, rfl, hm, rfl, ro⟩ := objAt_ok rh rx eo
      obtain ⟨a, rfl, e1, e2⟩ := tkey_V ry ek
      cases rv; cases ru
      cases ro with
      | dt he hz hl hp hn =>
        have hD := dt_raw I he hp hn
        rcases paired_dt hp k with ⟨z1, z2⟩ | ⟨d, b', u, v, z1, z2, z3, z4⟩
        · rw [z1] at q; exact q.elim
        · refine tail_any hD.typeIs PySem.F.slot_dict_getitem.lookup (wpAny_getItem_heap (show (nestedKind X.prog X.w).room X.A.in1 from ?_) (key_is I ry e1 e2) hD z2 ?_) hs
          · show X.A.units + 1 + 8 < cLine
            omega
          · rw [z1] at q
            exact ⟨v, H, I.tok _, z3, q.now rfl rh z4⟩
    · exact q.elim
  · rename_i kvs eo
    split at q
    · rename_i k ek
      obtain ⟨n, b, rfl, hm, rfl, ro⟩ := objAt_ok rh rx eo
      have ev := keyD_V ry ek
      cases rv
      cases ro with
      | dk he hp =>
        rcases paired_dk hp k with ⟨z1, z2⟩ | ⟨d, v, z1, z2, z3⟩
        · rw [z1] at q; exact q.elim
        · rw [z1] at q
          have g : DGet H b u (some v) := .inl ⟨_, k, .inl he, ev, z2.symm⟩
          exact tail_any (dict_typeIs I g) PySem.F.slot_dict_getitem.lookup (d_getItem (by omega) I g ru fun w' s' I' rw' => ⟨v, H, I', rw', q.now rfl rh z3⟩) hs
    · exact q.elim
  · split at q
    · split at q
      · rename_i a i _ _ hl
        cases rx; cases ry
        cases hc : atI a.cps.toList i with
        | none => rw [hc] at q; exact q.elim
        | some c =>
          rw [hc] at q
          exact ix_str value slice pins s σ H _ _ _ _ Q I rv ru ⟨_, _, c, rfl, rfl, by rw [sizeLine_eq]; exact hl, hc, q.now rfl rh (.str _)⟩ hs
      · exact q.elim
    · split at q
      · rename_i i _ _ ds hq
        cases ry
        cases hc : atI ds i with
        | none => rw [hc] at q; exact q.elim
        | some d =>
          rw [hc] at q
          obtain ⟨p, xs, rfl, hq2, rr⟩ := ssq_ok rh rx hq
          obtain ⟨z, e1, r1⟩ := rr.atI hc
          rcases hq2 with hq2 | hq2
          · exact ix_list value slice pins s σ H _ _ _ _ Q I rv ru ⟨_, _, _, z, rfl, rfl, hq2, e1, q.now rfl rh r1⟩ hs
          · exact ix_tup value slice pins s σ H _ _ _ _ Q I rv ru ⟨_, _, _, z, rfl, rfl, hq2, e1, q.now rfl rh r1⟩ hs
      · exact q.elim
    · exact q.elim

/-! ### x[y] = z -/
def rSet (X : Cx) (f : D → D → D → AH → Option AH) : TSet := fun o i v H Q => ∃ (x y z : D) (μ : Mu) (h : AH), RelH X.prog X.w X.K H μ h ∧ RD X.K H μ x o ∧ RD X.K H μ y i ∧ RD X.K H μ z v ∧
  ∃ h', f x y z h = some h' ∧ ∀ (H' : Hp) (μ' : Mu), Stp μ μ' H H' → RelH X.prog X.w X.K H' μ' h' → Q H'
def SetD (X : Cx) (f : D → D → D → AH → Option AH) : Prop := PSet X (rSet X f)
def dSet (x y z : D) (h : AH) : Option AH := match x with
  | .ref n => match h[n]? with
    | some (.dt kvs) => match tkey y with
      | some k => if kvs.length < 16777216 then some (h.set n (.dt (dtPut kvs y k z))) else none
      | none => none
    | some (.dk kvs) => match keyD y with
      | some k => if kvs.length < 16777216 then some (h.set n (.dk (dkPut kvs k z))) else none
      | none => none
    | some (.lst ds) => match y with
      | .int i => match ixN ds.length i with
        | some j => some (h.set n (.lst (ds.set j z)))
        | none => none
      | _ => none
    | _ => none
  | _ => none
theorem setd (hu : X.A.units + 64 < cLine) : SetD X dSet := fun pins s σ H o i v ov iv u Q I ro ri rv ⟨x, y, z, μ, h, rh, rx, ry, rz, h', e, q⟩ => by
  unfold dSet at e
  split at e
  · rename_i n
    cases rx with
    | @ref _ a hm =>
      split at e
      · rename_i kvs eh
        split at e
        · rename_i k ek
          split at e
          · rename_i hl
            cases e
            obtain ⟨b, rfl, e1, e2⟩ := tkey_V ry ek
            cases ro; cases ri
            cases rh.obj _ _ _ eh hm with
            | @dt _ _ xs he hz hl2 hp hn =>
              have hD := dt_raw I he hp hn
              have hz2 := Paired.length hp
              refine wpAny_setItem_heap (hsz := by rw [sizeLine_eq]; omega) (show (nestedKind X.prog X.w).room X.A.in1 from ?_) (key_is I ry e1 e2) hD fun h2 dd' hs => ?_
              · show X.A.units + 1 + 8 < cLine
                omega
              · obtain ⟨q', es, ep, hq, h2', h3, h4, _, h5⟩ := dd'
                have I' := d_write (t' := s.toks + (nestedKind X.prog X.w).draws k) (ob := dxO a ((storedH xs k b u).map (entryOfKey (nestedKind X.prog X.w)))) I (by rw [he]; exact True.intro) hs ⟨q', hq⟩
                  ⟨⟨q', ep, hq, h2', by rw [h3, ← h4]⟩, ⟨q', hq⟩, fun g1 g2 ⟨p, ep, hp, z1, z2⟩ st => ⟨p, ep, st p hp, z1, z2⟩⟩
                refine ⟨_, I', q _ μ (Stp.wrote rh hm) (rh.wrote hm (.dt upd_same hz ?_ (paired_mono (fun _ _ z => z.stp (Stp.wrote rh hm)) (paired_put hp e1 e2 ry rv rz)) h5))⟩
                rw [sizeLine_eq]
                exact Nat.le_trans (length_dtPut _ _ _ _) hl
          · cases e
        · cases e
      · rename_i kvs eh
        split at e
        · rename_i k ek
          split at e
          · rename_i hl
            cases e
            have ev := keyD_V ry ek
            cases ro
            cases rh.obj _ _ _ eh hm with
            | dk he hp =>
              have hz2 := Paired.length hp
              refine d_setItem (H' := upd H a (.dK (putK _ k v))) (by omega) I (.inl ⟨_, k, he, ev, by rw [sizeLine_eq]; omega, rfl⟩) ri rv fun s' I' => ⟨_, I', q _ μ (Stp.wrote rh hm) (rh.wrote hm (.dk upd_same (RKV.stp (Stp.wrote rh hm) (paired_dkPut hp rz))))⟩
          · cases e
        · cases e
      · rename_i ds eh
        split at e
        · split at e
          · rename_i i j hj
            cases e
            cases ry
            cases rh.obj _ _ _ eh hm with
            | lst he hp =>
              exact set_list pins s σ H _ _ _ ov iv u Q I ro ri rv ⟨a, _, _, j, rfl, rfl, he, by rw [hp.length]; exact hj, q _ μ (Stp.wrote rh hm) (rh.wrote hm (.lst upd_same (RDs.stp (Stp.wrote rh hm) (hp.set rz j))))⟩
          · cases e
        · cases e
      · cases e
  · cases e

/-! ### {} -/
/-- {} whose keys will be tuples -/
def eNewT : M := fun σ h => .ok (.ref h.length) (h ++ [.dt []])
def tNewT : TE := fun _ H Q => ∀ p, H p = none → (p == sysModules) = false → Q (.ref p) (upd H p (dxO p []))
theorem pe_newT {pos : Pos} : PE X (.Dict [] [] pos) tNewT := ⟨fun pins s σ H Q I h =>
  wpAny_Dict_empty ⟨.ref s.heap.objs.size, _, I.laid (a := s.heap.objs.size) (o := dxO s.heap.objs.size []) (t' := s.toks) (fun _ _ q => Heap.get?_push_of_some _ q) (Nat.le_refl _)
    ⟨⟨_, 0, Heap.get?_push_size _ rfl, ⟨rfl, rfl, rfl⟩, rfl⟩, ⟨_, Heap.get?_push_size _ rfl⟩, fun g1 g2 ⟨p, ep, hp, z1, z2⟩ st => ⟨p, ep, st p hp, z1, z2⟩⟩, rfl,
    h _ (I.hok.fresh (Nat.le_refl _)) (beq_eq_false_iff_ne.mpr (Ne.symm (Nat.ne_of_lt I.big)))⟩⟩
theorem q_newT {W : WX} {pos : Pos} : QE X W eNewT (.Dict [] [] pos) := QE.of pe_newT fun τ H Q ⟨σ, h, μ, rs, rh, q⟩ p hp hz => by
  refine q _ _ (μ.push p) (Stp.more hp) (rh.more hp (.dt (xs := []) upd_same hz (Nat.zero_le _) .nil List.nodup_nil)) ?_
  rw [← rh.len]
  exact RD.last
def eNewK : M := fun σ h => .ok (.ref h.length) (h ++ [.dk []])
theorem q_newK {W : WX} {pos : Pos} : QE X W eNewK (.Dict [] [] pos) := QE.of pe_dnewK fun τ H Q ⟨σ, h, μ, rs, rh, q⟩ p hp => by
  refine q _ _ (μ.push p) (Stp.more hp) (rh.more hp (.dk (qs := []) upd_same .nil)) ?_
  rw [← rh.len]
  exact RD.last

/-! ### slices -/
def cutD (ds : List D) (lo hi : Option Int) : List D := (ds.drop (HT.sIx ds.length 0 lo)).take (HT.sIx ds.length ds.length hi - HT.sIx ds.length 0 lo)
theorem RDs.cut {K : PySem.W.Frag} {ds : List D} {xs : List V} (lo hi : Option Int) (r : RDs K H μ ds xs) : RDs K H μ (cutD ds lo hi) (cutV xs lo hi) := by
  unfold cutD cutV
  rw [r.length]
  exact (r.drop _).take _
abbrev FS := D → Option Int → Option Int → AH → Opt
def dSl : FS := fun x lo hi h => match x with
  | .str a => if a.length ≤ 16777216 then some (.str (cutS a lo hi), h) else none
  | .tup ds => some (.tup (cutD ds lo hi), h)
  | x => match lsq h x with
    | some ds => some (.fro (cutD ds lo hi), h)
    | none => none
/-- a list's slice as a changing list -/
def dSlR : FS := fun x lo hi h => match lsq h x with
  | some ds => some (.ref h.length, h ++ [.lst (cutD ds lo hi)])
  | none => none
def rSl (X : Cx) (f : FS) : V → Option Int → Option Int → Hp → VK → Prop := fun v lo hi H Q => ∃ (x : D) (μ : Mu) (h : AH), RelH X.prog X.w X.K H μ h ∧ RD X.K H μ x v ∧ PO2 X H μ Q (f x lo hi h)
def SlD (X : Cx) (f : FS) : Prop := SlR X (rSl X f)
theorem sld : SlD X dSl := fun pins s σ H v u vl vu lo hi sl Q I rv hsl hl hh ⟨x, μ, h, rh, rx, q⟩ => by
  unfold dSl at q
  split at q
  · split at q
    · rename_i a hl2
      cases rx
      exact sl_str pins s σ H _ u vl vu lo hi sl Q I rv hsl hl hh ⟨_, rfl, by rw [sizeLine_eq]; exact hl2, q.now rfl rh (.str _)⟩
    · exact q.elim
  · rename_i ds
    cases rx with
    | tup t rr =>
      refine sl_tupA pins s σ H _ u vl vu lo hi sl Q I rv hsl hl hh ⟨_, _, rfl, t.sq, fun ⟨c1, c2⟩ => ?_, fun _ => q.tup rh (rr.cut lo hi)⟩
      have e : cutD ds lo hi = ds := by
        unfold cutD
        rw [rr.length] at c1 c2
        rw [c1, c2, List.drop_zero, Nat.sub_zero, List.take_length]
      rw [e] at q
      exact q.now rfl rh (.tup t rr)
  · split at q
    · rename_i ds hq
      obtain ⟨p, xs, rfl, hs, rr⟩ := lsq_ok rh rx hq
      exact sl_list pins s σ H _ u vl vu lo hi sl Q I rv hsl hl hh ⟨p, xs, rfl, hs, q.fro rh (rr.cut lo hi)⟩
    · exact q.elim
theorem sldR : SlD X dSlR := fun pins s σ H v u vl vu lo hi sl Q I rv hsl hl hh ⟨x, μ, h, rh, rx, q⟩ => by
  unfold dSlR at q
  split at q
  · rename_i ds hq
    obtain ⟨p, xs, rfl, hs, rr⟩ := lsq_ok rh rx hq
    exact sl_list pins s σ H _ u vl vu lo hi sl Q I rv hsl hl hh ⟨p, xs, rfl, hs, q.list rh (rr.cut lo hi)⟩
  · exact q.elim
/-- a part of a slice -/
abbrev MO := AS → AH → Res (Option Int)
def rP : Hp → Mu → Option Int → Option Int → Prop := fun _ _ a b => a = b
def QO (X : Cx) (W : WX) (m : MO) (e : Option Expr) : Prop := PO X e (tG X W rP m)
def oNil : MO := fun _ h => .ok none h
def oSome (m : M) : MO := fun σ h => (m σ h).bind fun d h1 => match d with
  | .int i => .ok (some i) h1
  | _ => .stuck
theorem PO.of' {e : Option Expr} {t t' : TO} (h : PO X e t) (i : ∀ σ H Q, t' σ H Q → t σ H Q) : PO X e t' := ⟨fun pins s σ H Q I q => h.run pins s σ H Q I (i _ _ _ q)⟩
theorem qo_nil {W : WX} : QO X W oNil none := PO.of' po_none fun τ H Q ⟨σ, h, μ, rs, rh, q⟩ => q.now rh rfl
theorem qo_some {W : WX} {m : M} {e : Expr} (hm : QE X W m e) : QO X W (oSome m) (some e) := PO.of' (po_some hm) fun τ H Q ⟨σ, h, μ, rs, rh, q⟩ =>
  go rs rh q fun d h1 v H1 μ1 s1 rs1 rh1 rd q1 => by
    split at q1
    · cases rd
      exact ⟨_, rfl, q1.now rh1 rfl⟩
    · exact q1.elim
def eSl (f : FS) (a : M) (lo hi : MO) : M := fun σ h => (a σ h).bind fun x h1 => (lo σ h1).bind fun i h2 => (hi σ h2).bind fun j h3 => lif (f x i j h3)
theorem q_sl {W : WX} {f : FS} {a : M} {lo hi : MO} {e : Expr} {elo ehi : Option Expr} {p2 pos : Pos} (hf : SlD X f) (ha : QE X W a e) (hlo : QO X W lo elo) (hhi : QO X W hi ehi) : QE X W (eSl f a lo hi) (.Subscript e (.Slice elo ehi none p2) pos) :=
  QE.of (pe_slice hf ha hlo hhi) fun τ H Q ⟨σ, h, μ, rs, rh, q⟩ => go rs rh q fun x h1 v H1 μ1 s1 rs1 rh1 rx q1 => go rs1 rh1 q1 fun i h2 i' H2 μ2 s2 rs2 rh2 ri q2 => go rs2 rh2 q2 fun j h3 j' H3 μ3 s3 rs3 rh3 rj q3 => by
    cases (show i = i' from ri)
    cases (show j = j' from rj)
    exact ⟨x, μ3, h3, rh3, (rx.stp s2).stp s3, .of q3⟩
/-- a[b] -/
theorem q_ix {W : WX} {f : F2} {a b : M} {ea eb : Expr} {pos : Pos} (hf : IxD X f) (ha : QE X W a ea) (hb : QE X W b eb) (hs : PlainIx eb := by intro _ _; rfl) : QE X W (eOp f a b) (.Subscript ea eb pos) := QE.of (pe_ix hf ha hb hs) two
end
end Q

/-! Q6: calls of built-ins, methods. -/
namespace Q
open PySem PySem.Spec PyProof.Rows L2

abbrev FC := List D → AH → Opt
section
variable {X : Cx} {W : WX} {pins : List (Addr × Obj)} {σ : L2.St} {H : Hp} {s : Shared} {μ : Mu} {h : AH}
def rCall (X : Cx) (g : FC) : List V → Hp → VK → Prop := fun vs H Q => ∃ (ds : List D) (μ : Mu) (h : AH), RelH X.prog X.w X.K H μ h ∧ RDs X.K H μ ds vs ∧ PO2 X H μ Q (g ds h)
def CallD (X : Cx) (f : Value) (g : FC) : Prop := CallR X f (rCall X g)
theorem CallD.of {f : Value} {r : List V → Hp → VK → Prop} {g : FC} (ho : CallR X f r) (hi : ∀ vs H Q, rCall X g vs H Q → r vs H Q) : CallD X f g := fun pins s σ H xs us Q I rs q => ho pins s σ H xs us Q I rs (hi xs H Q q)
def eCall (g : FC) (r : ML) : M := fun σ h => (r σ h).bind fun ds h1 => lif (g ds h1)
theorem call_go {g : FC} {r : ML} : ∀ τ H Q, tE X W (eCall g r) τ H Q → tCB (rCall X g) (tL X W r) τ H Q := fun τ H Q ⟨σ, h, μ, rs, rh, q⟩ =>
  go rs rh q fun ds h1 vs H1 μ1 s1 rs1 rh1 rds q1 => ⟨ds, μ1, h1, rh1, rds, .of q1⟩
theorem q_bltn {g : FC} {r : ML} {id : String} {x : Str} {e : Expr} {es : List Expr} {p pos : Pos} (hc : CallD X (.builtin id) g) (hg : Gl X x) (hm : X.mg x = none) (hv : bootBuiltins x = some (.builtin id)) (ha : QA X W r (e :: es)) (hn : x ≠ "__name__" := by decide) (hdb : (x == ("__debug__" : Str)) = false := by decide)
    (he : starEach (e :: es) X.env = (false, eval e X.env) :: starEach es X.env := by rfl) (hpl : (backTo pos (starEach es X.env)).any (·.1) = false := by rfl) : QE X W (eCall g r) (.Call (.Name x p) (e :: es) [] pos) :=
  QE.of (pe_callB hc hg hm hv ha hn hdb he hpl) call_go
theorem q_btyp {g : FC} {r : ML} {T : String} {x : Str} {e : Expr} {es : List Expr} {p pos : Pos} (hc : CallD X (.type T) g) (hg : Gl X x) (hm : X.mg x = none) (hv : bootBuiltins x = some (.type T)) (ha : QA X W r (e :: es)) (hn : x ≠ "__name__" := by decide) (hdb : (x == ("__debug__" : Str)) = false := by decide)
    (he : starEach (e :: es) X.env = (false, eval e X.env) :: starEach es X.env := by rfl) (hpl : (backTo pos (starEach es X.env)).any (·.1) = false := by rfl) : QE X W (eCall g r) (.Call (.Name x p) (e :: es) [] pos) :=
  QE.of (pe_callTy hc hg hm hv ha hn hdb he hpl) call_go

/-! ### len, abs, int -/
def gLen : FC := fun ds h => match ds with
  | [x] => match x with
    | .str a => if a.length ≤ 16777216 then some (.int a.length, h) else none
    | x => match objAt h x with
      | some (.dk kvs) => some (.int kvs.length, h)
      | _ => match ssq h x with
        | some es => some (.int es.length, h)
        | none => none
  | _ => none
theorem cd_len : CallD X (.builtin "len") gLen := fun pins s σ H vs us Q I rv ⟨ds, μ, h, rh, rds, q⟩ => by
  unfold gLen at q
  split at q
  · obtain ⟨v, rfl, rx⟩ := rds.one
    split at q
    · split at q
      · rename_i hl
        cases rx
        exact call_len pins s σ H _ us Q I rv ⟨_, _, rfl, ⟨by rw [sizeLine_eq]; exact hl, rfl⟩, q.now rfl rh (.int _)⟩
      · exact q.elim
    · split at q
      · rename_i kvs eo
        obtain ⟨n, b, rfl, hm, rfl, ro⟩ := objAt_ok rh rx eo
        cases ro with
        | dk he hp =>
          refine call_lenD pins s σ H _ us Q I rv ⟨_, _, rfl, he, ?_⟩
          rw [← Paired.length hp]
          exact q.now rfl rh (.int _)
      · split at q
        · rename_i es hq
          obtain ⟨p, xs, rfl, hq2, rr⟩ := ssq_ok rh rx hq
          refine call_len pins s σ H _ us Q I rv ⟨_, es.length, rfl, ?_, q.now rfl rh (.int _)⟩
          rcases hq2 with hq2 | hq2
          · exact .inl ⟨xs, hq2, rr.length.symm⟩
          · exact .inr ⟨xs, hq2, rr.length.symm⟩
        · exact q.elim
  · exact q.elim
def gAbs : FC := fun ds h => match ds with
  | [.int i] => some (.int (if i < 0 then -i else i), h)
  | _ => none
theorem cd_abs : CallD X (.builtin "abs") gAbs := .of call_abs fun vs H Q ⟨ds, μ, h, rh, rds, q⟩ => by
  unfold gAbs at q
  split at q
  · obtain ⟨v, rfl, rx⟩ := rds.one
    cases rx
    exact ⟨_, rfl, q.now rfl rh (.int _)⟩
  · exact q.elim
def gInt : FC := fun ds h => match ds with
  | [.int i] => some (.int i, h)
  | [.bl k] => some (.int (if k then 1 else 0), h)
  | _ => none
theorem cd_int : CallD X (.type "int") gInt := .of call_int1 fun vs H Q ⟨ds, μ, h, rh, rds, q⟩ => by
  unfold gInt at q
  split at q
  · obtain ⟨v, rfl, rx⟩ := rds.one
    cases rx
    exact .inl ⟨_, rfl, q.now rfl rh (.int _)⟩
  · obtain ⟨v, rfl, rx⟩ := rds.one
    cases rx
    exact .inr ⟨_, rfl, q.now rfl rh (.int _)⟩
  · exact q.elim
/-! ### list, tuple -/
theorem ks_items {K : PySem.W.Frag} {P : Program} {w : World} {kvs : List (D × D)} {xs : List (NestedKey × Addr × Value)} (r : Paired (RT K H μ) kvs xs) : ∀ (vs : List Value), vs.length = xs.length → (∀ (j : Nat) (v : Value), vs[j]? = some v → ∃ x, xs[j]? = some x ∧ v = .ref x.2.1) →
    ∃ ys, Vals ys vs ∧ RDs K H μ (kvs.map (·.1)) ys := by
  induction r with
  | nil =>
    intro vs hl _
    cases vs with
    | nil => exact ⟨[], .nil, .nil⟩
    | cons _ _ => cases hl
  | @cons p x ps ys rt t ih =>
    intro vs hl hv
    cases vs with
    | nil => cases hl
    | cons v vs =>
      obtain ⟨x', e, rfl⟩ := hv 0 v rfl
      cases e
      obtain ⟨zs, r1, r2⟩ := ih vs (by simpa using hl) fun j v e => hv (j + 1) v (by simpa using e)
      exact ⟨.ref x.2.1 :: zs, .cons rfl r1, .cons rt.rk r2⟩
theorem list_keys (I : Inv X pins σ H s) (hc : X.calm = true) {Q : VK} {a : Addr} {kvs : List (D × D)} (rh : RelH X.prog X.w X.K H μ h) (ro : _root_.Q.RelO X.prog X.w X.K H μ (.dt kvs) a)
    (q : ∀ (ys : List V), RDs X.K H μ (kvs.map (·.1)) ys → ∀ p, H p = none → Q (.ref p) (upd H p (.lst ys))) : wpAny (model X.prog X.w) X.A (call (.type "list") [.ref a]) (EP X pins σ Q) X.xe s := by
  cases ro with
  | @dt _ _ xs he hz hl hp hn =>
    obtain ⟨⟨o, ep, ho, hcl, hd⟩, _, _⟩ := I.hok a _ he
    have hlen := Paired.length hp
    have hr : s.heap.DictRaw a (xs.map (entryOfKey (nestedKind X.prog X.w))).toArray ep := ⟨o, ho, hcl, hd⟩
    refine PySem.W.kdl_call (PySem.KdlSrc.rawDict (es := (xs.map (entryOfKey (nestedKind X.prog X.w))).toArray) (ep := ep) hz) (I.ok.hd hc) hr (by simp; omega) fun h' tk acc c kp e hit => ?_
    obtain ⟨h1, h2⟩ := hit
    obtain ⟨ys, r1, r2⟩ := ks_items (P := X.prog) (w := X.w) hp acc.toList (by simpa using h1) fun j v hj => by
      obtain ⟨hi, rfl⟩ := h2 j v (by simpa using hj)
      simp at hi
      exact ⟨xs[j], List.getElem?_eq_getElem hi, by simp [entryOfKey]⟩
    have hy : ys.length ≤ sizeLine := by
      have := r2.length
      simp at this
      omega
    exact ⟨.ref s.heap.objs.size, upd H s.heap.objs.size (.lst ys), I.laid (t' := tk) kp (Nat.le_refl _) ⟨hy, acc.toList, c, r1, by simpa using e⟩, rfl, q ys r2 _ (I.hok.fresh (Nat.le_refl _))⟩
/-- the items of a sequence, the keys of a dict -/
def itemsOf (h : AH) (x : D) : Option (List D) := match objAt h x with
  | some (.dt kvs) => some (kvs.map (·.1))
  | _ => ssq h x
def gListR : FC := fun ds h => match ds with
  | [x] => match itemsOf h x with
    | some es => some (.ref h.length, h ++ [.lst es])
    | none => none
  | _ => none
/-- .. as a list that stays -/
def gListF : FC := fun ds h => match ds with
  | [x] => match itemsOf h x with
    | some es => some (.fro es, h)
    | none => none
  | _ => none
theorem cd_list_any (hc : X.calm = true) {x : D} {v : V} {u : Value} {es : List D} {Q : VK} (I : Inv X pins σ H s) (rh : RelH X.prog X.w X.K H μ h) (rx : RD X.K H μ x v) (rv : RelV v u) (e : itemsOf h x = some es)
    (q : ∀ ys, RDs X.K H μ es ys → ∀ p, H p = none → Q (.ref p) (upd H p (.lst ys))) : wpAny (model X.prog X.w) X.A (call (.type "list") [u]) (EP X pins σ Q) X.xe s := by
  unfold itemsOf at e
  split at e
  · rename_i kvs eo
    cases e
    obtain ⟨n, b, rfl, hm, rfl, ro⟩ := objAt_ok rh rx eo
    cases rv
    exact list_keys I hc rh ro q
  · obtain ⟨p, xs, rfl, hq2, rr⟩ := ssq_ok rh rx e
    exact call_list_of pins s σ H _ _ Q I (.cons rv .nil) ⟨p, xs, rfl, hq2, q xs rr⟩
theorem vals_one {v : V} {us : List Value} (r : Vals [v] us) : ∃ u, us = [u] ∧ RelV v u := by
  cases r with | cons r t => cases t; exact ⟨_, rfl, r⟩
theorem cd_listR (hc : X.calm = true) : CallD X (.type "list") gListR := fun pins s σ H vs us Q I rv ⟨ds, μ, h, rh, rds, q⟩ => by
  unfold gListR at q
  split at q
  · obtain ⟨v, rfl, rx⟩ := rds.one
    obtain ⟨u, rfl, r1⟩ := vals_one rv
    split at q
    · rename_i es e
      exact cd_list_any hc I rh rx r1 e fun ys ry => q.list rh ry
    · exact q.elim
  · exact q.elim
theorem cd_listF (hc : X.calm = true) : CallD X (.type "list") gListF := fun pins s σ H vs us Q I rv ⟨ds, μ, h, rh, rds, q⟩ => by
  unfold gListF at q
  split at q
  · obtain ⟨v, rfl, rx⟩ := rds.one
    obtain ⟨u, rfl, r1⟩ := vals_one rv
    split at q
    · rename_i es e
      exact cd_list_any hc I rh rx r1 e fun ys ry => q.fro rh ry
    · exact q.elim
  · exact q.elim
def gTuple : FC := fun ds h => match ds with
  | [x] => match ssq h x with
    | some es => some (.tup es, h)
    | none => none
  | _ => none
theorem cd_tuple : CallD X (.type "tuple") gTuple := .of call_tuple_of fun vs H Q ⟨ds, μ, h, rh, rds, q⟩ => by
  unfold gTuple at q
  split at q
  · rename_i x
    obtain ⟨v, rfl, rx⟩ := rds.one
    cases x with
    | tup es' =>
      cases rx with
      | tup t rr => exact ⟨_, _, rfl, .inr ⟨t.sq, q.now rfl rh (.tup t rr)⟩⟩
    | _ =>
      split at q
      · rename_i es e
        obtain ⟨p, xs, rfl, hq, rr⟩ := lsq_ok (d := _) rh rx e
        exact ⟨p, xs, rfl, .inl ⟨hq, q.tup rh rr⟩⟩
      · exact q.elim
  · exact q.elim

/-! ### all, any, sum, max, min -/
def asBls : List D → Option (List Bool)
  | [] => some []
  | .bl b :: ds => (asBls ds).map (b :: ·)
  | _ :: _ => none
theorem asBls_eq : ∀ {ds : List D} {bs : List Bool}, asBls ds = some bs → ds = bs.map .bl
  | [], bs, e => by cases e; rfl
  | .bl b :: ds, bs, e => by
    rw [asBls] at e
    obtain ⟨cs, h, rfl⟩ := Option.map_eq_some_iff.mp e
    rw [asBls_eq h]; rfl
  | .non :: _, _, e => by cases e
  | .int _ :: _, _, e => by cases e
  | .str _ :: _, _, e => by cases e
  | .tup _ :: _, _, e => by cases e
  | .fro _ :: _, _, e => by cases e
  | .scr _ :: _, _, e => by cases e
  | .ref _ :: _, _, e => by cases e
  | .exn _ _ _ _ _ :: _, _, e => by cases e
theorem asBls_map (bs : List Bool) : asBls (bs.map .bl) = some bs := by
  induction bs with
  | nil => rfl
  | cons b bs ih => show (asBls (bs.map .bl)).map (b :: ·) = _; rw [ih]; rfl
def asInts : List D → Option (List Int)
  | [] => some []
  | .int b :: ds => (asInts ds).map (b :: ·)
  | _ :: _ => none
theorem asInts_eq : ∀ {ds : List D} {bs : List Int}, asInts ds = some bs → ds = bs.map .int
  | [], bs, e => by cases e; rfl
  | .int b :: ds, bs, e => by
    rw [asInts] at e
    obtain ⟨cs, h, rfl⟩ := Option.map_eq_some_iff.mp e
    rw [asInts_eq h]; rfl
  | .non :: _, _, e => by cases e
  | .bl _ :: _, _, e => by cases e
  | .str _ :: _, _, e => by cases e
  | .tup _ :: _, _, e => by cases e
  | .fro _ :: _, _, e => by cases e
  | .scr _ :: _, _, e => by cases e
  | .ref _ :: _, _, e => by cases e
  | .exn _ _ _ _ _ :: _, _, e => by cases e
theorem asInts_map (bs : List Int) : asInts (bs.map .int) = some bs := by
  induction bs with
  | nil => rfl
  | cons b bs ih => show (asInts (bs.map .int)).map (b :: ·) = _; rw [ih]; rfl
def gBls (f : List Bool → Bool) : FC := fun ds h => match ds with
  | [x] => match lsq h x with
    | some es => match asBls es with
      | some bs => some (.bl (f bs), h)
      | none => none
    | none => none
  | _ => none
theorem cd_bls {id : String} {f : List Bool → Bool} (ho : CallR X (.builtin id) fun vs H Q => ∃ (a : Addr) (bs : List Bool), vs = [V.ref a] ∧ SqL X.K H a (bs.map V.bl) ∧ Q (.bl (f bs)) H) : CallD X (.builtin id) (gBls f) := .of ho fun vs H Q ⟨ds, μ, h, rh, rds, q⟩ => by
  unfold gBls at q
  split at q
  · obtain ⟨v, rfl, rx⟩ := rds.one
    split at q
    · rename_i es e
      split at q
      · rename_i bs eb
        obtain ⟨p, xs, rfl, hq, rr⟩ := lsq_ok rh rx e
        rw [asBls_eq eb] at rr
        rw [rr.bls] at hq
        exact ⟨p, bs, rfl, hq, q.now rfl rh (.bl _)⟩
      · exact q.elim
    · exact q.elim
  · exact q.elim
abbrev gAll : FC := gBls fun bs => bs.all id
abbrev gAny : FC := gBls fun bs => bs.any id
theorem cd_all (hc : X.calm = true) : CallD X (.builtin "all") gAll := cd_bls (cr_all hc)
theorem cd_any (hc : X.calm = true) : CallD X (.builtin "any") gAny := cd_bls (cr_any hc)
def gSum : FC := fun ds h => match ds with
  | [x] => match lsq h x with
    | some es => match asInts es with
      | some bs => some (.int bs.sum, h)
      | none => none
    | none => none
  | _ => none
theorem cd_sum (hc : X.calm = true) : CallD X (.builtin "sum") gSum := .of (cr_sum hc) fun vs H Q ⟨ds, μ, h, rh, rds, q⟩ => by
  unfold gSum at q
  split at q
  · obtain ⟨v, rfl, rx⟩ := rds.one
    split at q
    · rename_i es e
      split at q
      · rename_i bs eb
        obtain ⟨p, xs, rfl, hq, rr⟩ := lsq_ok rh rx e
        rw [asInts_eq eb] at rr
        rw [rr.ints] at hq
        exact ⟨p, bs, rfl, hq, q.now rfl rh (.int _)⟩
      · exact q.elim
    · exact q.elim
  · exact q.elim

/-! ### sorted -/
def pdG (d : D) : PyData := (pd d).getD .none
def alikeB (ps : List PyData) : Bool := ps.all fun p => ps.all fun q => PySem.W.alike p q
def isTup1 : PyData → Bool
  | .tuple (_ :: _) => true
  | _ => false
def isPlainKey : PyData → Bool
  | .none => false
  | .tuple _ => false
  | _ => true
def sortable (ds : List D) : Bool := ds.all (fun d => (pd d).isSome) && alikeB (ds.map pdG) && ((ds.map pdG).all isTup1 || (ds.map pdG).all isPlainKey) && decide (ds.length ≤ 16777216) && ds.all fun d => decide ((pdG d).depth ≤ 60)
def leD (a b : D) : Bool := !PySem.W.dataLt (pdG b) (pdG a)
def gSortF : FC := fun ds h => match ds with
  | [x] => match lsq h x with
    | some es => if sortable es = true then some (.fro (es.mergeSort leD), h) else none
    | none => none
  | _ => none
theorem each_of {K : PySem.W.Frag} : ∀ {ds : List D} {vs : List V} {us : List Value}, RDs K H μ ds vs → Vals vs us → PySem.W.EachIs (fun u (b : D × V) => RelV b.2 u ∧ RD K H μ b.1 b.2) us (ds.zip vs)
  | [], _, _, h, r => by cases h; cases r; exact .nil
  | d :: ds, _, _, h, r => by
    cases h with
    | cons h1 h2 =>
      cases r with
      | cons r1 r2 => exact .cons ⟨r1, h1⟩ (each_of h2 r2)
theorem of_each {K : PySem.W.Frag} : ∀ {us : List Value} {bs : List (D × V)}, PySem.W.EachIs (fun u (b : D × V) => RelV b.2 u ∧ RD K H μ b.1 b.2) us bs → RDs K H μ (bs.map (·.1)) (bs.map (·.2)) ∧ Vals (bs.map (·.2)) us
  | _, _, .nil => ⟨.nil, .nil⟩
  | _, _, .cons h t => let ⟨a, b⟩ := of_each t; ⟨.cons h.2 a, .cons h.1 b⟩
theorem each_mem {α β : Type} {R R' : α → β → Prop} : ∀ {as : List α} {bs : List β}, PySem.W.EachIs R as bs → (∀ a b, b ∈ bs → R a b → R' a b) → PySem.W.EachIs R' as bs
  | _, _, .nil, _ => .nil
  | _, _, .cons h t, f => .cons (f _ _ List.mem_cons_self h) (each_mem t fun a b m => f a b (List.mem_cons_of_mem _ m))
theorem cd_sortF (hu : X.A.units + 64 < cLine) : CallD X (.builtin "sorted") gSortF := fun pins s σ H vs us Q I rv ⟨ds, μ, h, rh, rds, q⟩ => by
  unfold gSortF at q
  split at q
  · obtain ⟨v, rfl, rx⟩ := rds.one
    obtain ⟨u, rfl, r1⟩ := vals_one rv
    split at q
    · rename_i es e
      split at q
      · rename_i hs
        simp only [sortable, Bool.and_eq_true, List.all_eq_true, decide_eq_true_eq, Bool.or_eq_true] at hs
        obtain ⟨⟨⟨⟨s1, s2⟩, s3⟩, s4⟩, s5⟩ := hs
        obtain ⟨p, xs, rfl, hq, rr⟩ := lsq_ok rh rx e
        cases r1
        obtain ⟨its, rvs, pl, hz⟩ := I.list hq
        have hl := rr.length
        have hmap : (es.zip xs).map (fun b => pdG b.1) = es.map pdG := by
          rw [show (fun b : D × V => pdG b.1) = pdG ∘ Prod.fst from rfl, ← List.map_map, List.map_fst_zip (by omega)]
        have hsz : (es.zip xs).length = es.length := by rw [List.length_zip]; omega
        have hE := each_of rr rvs
        refine PySem.W.sorted_data (enc := fun b : D × V => pdG b.1) pl.isList hE (each_mem hE fun u b hb rb => ?_) ?_ ?_ (by rw [hsz, sizeLine_eq]; exact s4) (fun b hb => ?_) fun out ho hr => ?_
        · have hm : b.1 ∈ es := (List.of_mem_zip hb).1
          obtain ⟨p', hp'⟩ := Option.isSome_iff_exists.mp (s1 _ hm)
          have := (RD.reads I _ _ _ p' rb.2 rb.1 hp').1
          rw [show pdG b.1 = p' by rw [pdG, hp']; rfl]
          exact this
        · rw [hmap]
          intro d hd d' hd'
          rw [alikeB, List.all_eq_true] at s2
          exact List.all_eq_true.mp (s2 d hd) d' hd'
        · rw [hmap]
          rcases s3 with s3 | s3
          · refine .inl fun d hd => ?_
            have := s3 d hd
            unfold isTup1 at this
            split at this
            · exact ⟨_, _, rfl⟩
            · cases this
          · refine .inr fun d hd => ?_
            have := s3 d hd
            unfold isPlainKey at this
            split at this
            · cases this
            · cases this
            · rename_i h1 h2
              exact ⟨fun e => h1 e, fun xs e => h2 xs e⟩
        · have := s5 b.1 (List.of_mem_zip hb).1
          have h2 : (pdG b.1).depth ≤ 60 := this
          show X.A.units + 2 + (pdG b.1).depth < cLine
          omega
        · obtain ⟨ra, rb⟩ := of_each hr
          have hms : ((es.zip xs).mergeSort (PySem.W.dataLe false fun b : D × V => pdG b.1)).map (·.1) = es.mergeSort leD := by
            have h1 : ((es.zip xs).mergeSort (PySem.W.dataLe false fun b : D × V => pdG b.1)).map Prod.fst = ((es.zip xs).map Prod.fst).mergeSort leD :=
              List.map_mergeSort fun a _ b _ => rfl
            rw [List.map_fst_zip (by omega)] at h1
            exact h1
          rw [hms] at ra
          obtain ⟨ep, he'⟩ := PyProof.Rows.sortedAll_at s.heap its out.toArray
          have hlen : (((es.zip xs).mergeSort (PySem.W.dataLe false fun b : D × V => pdG b.1)).map (·.2)).length ≤ sizeLine := by
            rw [List.length_map, List.length_mergeSort, hsz, sizeLine_eq]; exact s4
          exact ⟨.ref _, upd H (s.heap.objs.size + 1) (.lst _), I.laid (t' := s.toks) (fun _ _ => PyProof.Rows.sortedAll_old) (Nat.le_succ _) ⟨hlen, out, ep, rb, he'⟩, rfl, q.fro rh ra _ (I.hok.fresh (Nat.le_succ _))⟩
      · exact q.elim
    · exact q.elim
  · exact q.elim
end
end Q

/-! Q7: isinstance, methods, calls of the program's own defs. -/
namespace Q
open PySem PySem.Spec PyProof.Rows L2
section
variable {X : Cx} {W : WX} {H : Hp} {μ : Mu} {h : AH}

/-! ### isinstance -/
def tyD (h : AH) : D → Option String
  | .non => some "NoneType"
  | .bl _ => some "bool"
  | .int _ => some "int"
  | .str _ => some "str"
  | .tup _ => some "tuple"
  | .fro _ => some "list"
  | .scr _ => some "list"
  | .ref n => match h[n]? with
    | some (.lst _) => some "list"
    | some (.dk _) => some "dict"
    | _ => none
  | .exn _ _ _ _ _ => none
theorem tyD_ok {P : Program} {w : World} {K : PySem.W.Frag} {d : D} {v : V} {t : String} (rh : RelH P w K H μ h) (r : RD K H μ d v) (e : tyD h d = some t) : TyX K H v (.type t) := by
  cases r with
  | non => cases e; exact .base .non
  | bl b => cases e; exact .base (.bl b)
  | int i => cases e; exact .base (.int i)
  | str s => cases e; exact .base (.str s)
  | tup ta _ =>
    cases e
    rcases ta with ⟨ta | ⟨o, ta⟩, _⟩ | ⟨o, its, n, h1, h2, _⟩
    · exact .base (.tup ta)
    · exact .fTuple ta
    · exact .kTuple h1 h2
  | fro ta _ _ => cases e; exact .base (.lst ta)
  | scr ta _ =>
    cases e
    rcases ta with ⟨ta | ⟨o, ta⟩, _⟩ | ⟨o, its, n, h1, h2, _⟩
    · exact .base (.lst ta)
    · exact .base (.frz ta)
    · exact .kList h1 h2
  | ref hm =>
    simp only [tyD] at e
    split at e
    · rename_i ds eh
      cases e
      cases rh.obj _ _ _ eh hm with
      | lst ha _ => exact .base (.lst ha)
    · rename_i ds eh
      cases e
      cases rh.obj _ _ _ eh hm with
      | dk ha _ => exact .base (.dK ha)
    · cases e
  | exn => cases e
def eIsi (T : String) (a : M) : M := fun σ h => (a σ h).bind fun x h1 => match tyD h1 x with
  | some t => match kitB t T with
    | some b => .ok (.bl b) h1
    | none => .stuck
  | none => .stuck
theorem q_isi {T : String} {a : M} {ea : Expr} {T' : Str} {p p2 pos : Pos} (hg : Gl X "isinstance") (hm : X.mg "isinstance" = none) (ha : QE X W a ea) (hgT : Gl X T') (hmT : X.mg T' = none) (hvT : bootBuiltins T' = some (.type T)) (hnT : T' ≠ "__name__" := by decide) (hdT : (T' == ("__debug__" : Str)) = false := by decide)
    (he : starEach [ea, .Name T' p2] X.env = (false, eval ea X.env) :: starEach [.Name T' p2] X.env := by rfl) (hpl : (backTo pos (starEach [Expr.Name T' p2] X.env)).any (·.1) = false := by rfl) : QE X W (eIsi T a) (.Call (.Name "isinstance" p) [ea, .Name T' p2] [] pos) :=
  QE.of (pe_callB call_isi hg hm (by decide +kernel) (pa_cons ha (pa_cons (pe_bltn (v := .ty T) hgT hmT hvT rfl hnT hdT) pa_nil) he) (by decide) (by decide) he hpl) fun τ H Q ⟨σ, h, μ, rs, rh, q⟩ =>
    go rs rh q fun d h1 v H1 μ1 s1 rs1 rh1 rd q1 => by
      split at q1
      · rename_i t et
        split at q1
        · rename_i b eb
          exact ⟨v, .ty T, _, _, b, rfl, .ty T, tyD_ok rh1 rd et, kit_ty eb, q1.now rh1 (.bl b)⟩
        · exact q1.elim
      · exact q1.elim

/-! ### methods -/
abbrev FM := D → List D → AH → Opt
def rMeth (X : Cx) (g : FM) : V → List V → Hp → VK → Prop := fun v vs H Q => ∃ (x : D) (ds : List D) (μ : Mu) (h : AH), RelH X.prog X.w X.K H μ h ∧ RD X.K H μ x v ∧ RDs X.K H μ ds vs ∧ PO2 X H μ Q (g x ds h)
def MethD (X : Cx) (id : String) (g : FM) : Prop := MtM X id (rMeth X g)
theorem MethD.of {id : String} {r : V → List V → Hp → VK → Prop} {g : FM} (ho : MtM X id r) (hi : ∀ v vs H Q, rMeth X g v vs H Q → r v vs H Q) : MethD X id g := fun pins s σ H x xs v us Q I r rs q => ho pins s σ H x xs v us Q I r rs (hi x xs H Q q)
def isT (T : String) (h : AH) : D → Bool
  | .str _ => T == "str"
  | x => T == "list" && (lsq h x).isSome
theorem isT_ok {P : Program} {w : World} {K : PySem.W.Frag} {T : String} {x : D} {v : V} (rh : RelH P w K H μ h) (r : RD K H μ x v) (e : isT T h x = true) : tyV K T v H := by
  unfold isT at e
  split at e
  · cases r; exact eq_of_beq e
  · rw [Bool.and_eq_true] at e
    obtain ⟨e1, e2⟩ := e
    obtain ⟨ds, hd⟩ := Option.isSome_iff_exists.mp e2
    obtain ⟨p, xs, rfl, hs, _⟩ := lsq_ok rh r hd
    exact .inl ⟨eq_of_beq e1, xs, hs⟩
def eMeth (T : String) (g : FM) (a : M) (r : ML) : M := fun σ h => (a σ h).bind fun x h1 => if isT T h1 x = true then (r σ h1).bind fun ds h2 => lif (g x ds h2) else .stuck
theorem q_meth {T id : String} {name : Str} {g : FM} {a : M} {r : ML} {o e : Expr} {es : List Expr} {apos cpos : Pos} (pa : PlainAttrs T) (slot : Slot T name id) (hty : typeOf (.builtin id) = pure (.type "method_descriptor")) (hm : MethD X id g) (ho : QE X W a o) (ha : QA X W r (e :: es))
    (hbase : attributeBase o name X.env (eval o X.env) = eval o X.env := by rfl)
    (hfew : ((backTo cpos (starEach (e :: es) X.env)).all (fun x => !x.1) && (backToKw cpos (keywordEach [] X.env)).all (fun x => x.1.isSome)
      && decide ((e :: es).length + ([] : List Keyword).length + (if ([] : List Keyword).isEmpty then 0 else 1) < 30)) = true := by rfl)
    (hline : (apos.endLine == cpos.line) = true := by rfl) (hs : starEach (e :: es) X.env = (false, eval e X.env) :: starEach es X.env := by rfl) (hplain : (backTo cpos (starEach es X.env)).any (·.1) = false := by rfl) :
    QE X W (eMeth T g a r) (.Call (.Attribute o name apos) (e :: es) [] cpos) :=
  QE.of (pe_bm pa slot hty hm ho ha hbase hfew hline hs hplain) fun τ H Q ⟨σ, h, μ, rs, rh, q⟩ => go rs rh q fun x h1 v H1 μ1 s1 rs1 rh1 rx q1 => by
    split at q1
    · rename_i ht
      exact ⟨isT_ok rh1 rx ht, go rs1 rh1 q1 fun ds h2 vs H2 μ2 s2 rs2 rh2 rds q2 => ⟨x, ds, μ2, h2, rh2, rx.stp s2, rds, .of q2⟩⟩
    · exact q1.elim
theorem q_meth0 {T id : String} {name : Str} {g : FM} {a : M} {o : Expr} {apos cpos : Pos} (pa : PlainAttrs T) (slot : Slot T name id) (hty : typeOf (.builtin id) = pure (.type "method_descriptor")) (hm : MethD X id g) (ho : QE X W a o)
    (hbase : attributeBase o name X.env (eval o X.env) = eval o X.env := by rfl) (hline : (apos.endLine == cpos.line) = true := by rfl) : QE X W (eMeth T g a aNil) (.Call (.Attribute o name apos) [] [] cpos) :=
  QE.of (pe_bm0 pa slot hty hm ho hbase hline) fun τ H Q ⟨σ, h, μ, rs, rh, q⟩ => go rs rh q fun x h1 v H1 μ1 s1 rs1 rh1 rx q1 => by
    split at q1
    · rename_i ht
      exact ⟨isT_ok rh1 rx ht, x, [], μ1, h1, rh1, rx, .nil, .of q1⟩
    · exact q1.elim
def listAt (h : AH) (n : Nat) : Option (List D) := match h[n]? with
  | some (.lst ds) => some ds
  | _ => none
theorem listAt_some {n : Nat} {ds : List D} (e : listAt h n = some ds) : h[n]? = some (.lst ds) := by
  unfold listAt at e
  split at e
  · cases e; assumption
  · cases e
theorem PO2.wrote {X : Cx} {H : Hp} {μ : Mu} {h : AH} {Q : VK} {n : Nat} {a : Addr} {ds : List D} {xs : List V} {z : D} {v : V} (q : PO2 X H μ Q (some (z, h.set n (.lst ds)))) (rh : RelH X.prog X.w X.K H μ h) (hm : μ.l[n]? = some a) (r : RDs X.K H μ ds xs) (rz : RD X.K H μ z v) : Q v (upd H a (.lst xs)) := by
  obtain ⟨z', h', e, q⟩ := q
  cases e
  have st := Stp.wrote (u := .lst xs) rh hm
  exact q _ _ μ st (rh.wrote hm (.lst upd_same (r.stp st))) (rz.stp st)
def mAppend : FM := fun x ds h => match x, ds with
  | .ref n, [d] => match listAt h n with
    | some es => if es.length < 16777216 then some (.non, h.set n (.lst (es ++ [d]))) else none
    | none => none
  | _, _ => none
theorem md_append : MethD X "list.append" mAppend := .of mt_append fun v vs H Q ⟨x, ds, μ, h, rh, rx, rds, q⟩ => by
  unfold mAppend at q
  split at q
  · obtain ⟨u, rfl, ru⟩ := rds.one
    split at q
    · rename_i es eh
      split at q
      · rename_i hl
        cases rx with
        | ref hm =>
          cases rh.obj _ _ _ (listAt_some eh) hm with
          | lst ha rr => exact ⟨_, _, u, rfl, rfl, ha, by rw [sizeLine_eq, rr.length]; exact hl, q.wrote rh hm (rr.append (.cons ru .nil)) .non⟩
      · exact q.elim
    · exact q.elim
  · exact q.elim
def mPop : FM := fun x ds h => match x, ds with
  | .ref n, [] => match listAt h n with
    | some es => match es[es.length - 1]? with
      | some d => some (d, h.set n (.lst es.dropLast))
      | none => none
    | none => none
  | _, _ => none
theorem md_pop : MethD X "list.pop" mPop := .of mt_pop fun v vs H Q ⟨x, ds, μ, h, rh, rx, rds, q⟩ => by
  unfold mPop at q
  split at q
  · cases rds
    split at q
    · rename_i es eh
      split at q
      · rename_i d hd
        cases rx with
        | ref hm =>
          cases rh.obj _ _ _ (listAt_some eh) hm with
          | lst ha rr =>
            obtain ⟨y, e1, r1⟩ := rr.get hd
            rw [← rr.length] at e1
            exact ⟨_, _, y, rfl, rfl, ha, e1, q.wrote rh hm rr.dropLast r1⟩
      · exact q.elim
    · exact q.elim
  · exact q.elim
def mExtend : FM := fun x ds h => match x, ds with
  | .ref n, [y] => match listAt h n, lchg h y with
    | some es, some fs => if es.length + fs.length ≤ 16777216 then some (.non, h.set n (.lst (es ++ fs))) else none
    | _, _ => none
  | _, _ => none
theorem md_extend : MethD X "list.extend" mExtend := .of mt_extend fun v vs H Q ⟨x, ds, μ, h, rh, rx, rds, q⟩ => by
  unfold mExtend at q
  split at q
  · obtain ⟨u, rfl, ru⟩ := rds.one
    split at q
    · rename_i es fs eh ef
      split at q
      · rename_i hl
        cases rx with
        | ref hm =>
          obtain ⟨b, zs, rfl, hb, rz⟩ := lchg_ok rh ru ef
          cases rh.obj _ _ _ (listAt_some eh) hm with
          | lst ha rr => exact ⟨_, b, _, zs, rfl, rfl, ha, hb, by rw [sizeLine_eq, rr.length, rz.length]; exact hl, q.wrote rh hm (rr.append rz) .non⟩
      · exact q.elim
    · exact q.elim
  · exact q.elim
def mSplit : FM := fun x ds h => match x, ds with
  | .str a, [.str b] => if (b.length == 0) = false ∧ a.length + 2 ≤ 16777216 then some (.fro ((Txt.split a b).map .str), h) else none
  | _, _ => none
theorem md_split : MethD X "str.split" mSplit := .of mt_split fun v vs H Q ⟨x, ds, μ, h, rh, rx, rds, q⟩ => by
  unfold mSplit at q
  split at q
  · split at q
    · rename_i hl
      obtain ⟨u, rfl, ru⟩ := rds.one
      cases rx; cases ru
      exact ⟨_, _, rfl, rfl, hl.1, by rw [sizeLine_eq]; exact hl.2, q.fro rh (RDs.of_strs _)⟩
    · exact q.elim
  · exact q.elim

/-! ### calls of the program's own defs -/
def PostF (P : Program) (w : World) (K : PySem.W.Frag) (mg : Str → Option Value) (H : Hp) (μ : Mu) (Q : VK) (E : XK) : Res D → Prop
  | .stuck => False
  | .ok d h' => ∀ (v : V) (H' : Hp) (μ' : Mu), Stp μ μ' H H' → RelH P w K H' μ' h' → RD K H' μ' d v → Q v H'
  | .ex e h' => ∀ (cls : Value) (dd : Option Addr) (H' : Hp) (μ' : Mu), Stp μ μ' H H' → RelH P w K H' μ' h' → RX mg K H' μ' e cls dd → E cls dd H'
/-- the promise of a def by its mirror -/
def spOf (P : Program) (w : World) (K : PySem.W.Frag) (mg : Str → Option Value) (f : List D → AH → Res D) : Sp := fun vs H Q E => ∃ (ds : List D) (μ : Mu) (h : AH), RelH P w K H μ h ∧ RDs K H μ ds vs ∧ PostF P w K mg H μ Q E (f ds h)
/-- the def that the module's name x holds keeps the promise; the last parameters by their defaults -/
def Cal (X : Cx) (W : WX) (x : Str) (dfl : List D) (f : List D → AH → Res D) : Prop :=
  ∃ (k : Nat) (fa : Addr) (fd : FuncData) (ps : List Str) (dvs : List V) (us : List Value) (CX : CXT), FnOk X.prog X.w X.K X.mg X.base CX k fa fd ps (spOf X.prog X.w X.K X.mg f) ∧ Room k X.A ∧ X.mg x = some (.ref fa) ∧ PySem.W.keepIn X.K (.ref fa) = true ∧ Binds X.K fd ps us ∧ Vals dvs us ∧
    (∀ H μ, RDs X.K H μ dfl dvs) ∧ ∀ σ, PassesAt CX X σ (WE W σ)
def eFn (f : List D → AH → Res D) (dfl : List D) (r : ML) : M := fun σ h => (r σ h).bind fun ds h1 => f (ds ++ dfl) h1
theorem q_fn {f : List D → AH → Res D} {dfl : List D} {x : Str} {r : ML} {e : Expr} {es : List Expr} {p pos : Pos} (c : Cal X W x dfl f) (hg : Gl X x) (ha : QA X W r (e :: es)) (hdb : (x == ("__debug__" : Str)) = false := by decide)
    (he : starEach (e :: es) X.env = (false, eval e X.env) :: starEach es X.env := by rfl) (hpl : (backTo pos (starEach es X.env)).any (·.1) = false := by rfl) : QE X W (eFn f dfl r) (.Call (.Name x p) (e :: es) [] pos) := by
  obtain ⟨k, fa, fd, ps, dvs, us, CX, F, hr, hm, hk, hb, hd, hrd, hx⟩ := c
  refine ⟨fun pins s τ H Q I ⟨σ, h, μ, rs, rh, q⟩ => ?_⟩
  refine wpAny_Call_Name_kw (ld_glob I hg hm ?_ hdb)
  have h2 := ha.run pos pins s τ H (fun vs H1 => spOf X.prog X.w X.K X.mg f (vs ++ dvs) H1 Q (WE W τ)) I (go rs rh q fun ds h1 vs H1 μ1 s1 rs1 rh1 rds q1 => ⟨ds ++ dfl, μ1, h1, rh1, rds.append (hrd _ _), by
    show PostF _ _ _ _ _ _ _ _ (f (ds ++ dfl) h1)
    cases e : f (ds ++ dfl) h1 with
    | stuck => rw [e] at q1; exact q1
    | ok d h' => rw [e] at q1; exact q1
    | ex x h' => rw [e] at q1; exact q1⟩)
  refine PySem.W.callWith_K (h₀ := X.base) I.ok.mod.kin hk (thn h2 fun us' s1 ⟨vs, H1, I1, r1, q1⟩ => ⟨I1.kIn, ?_⟩) he hpl
  have r2 : Vals (vs ++ dvs) (us' ++ us) := r1.append hd
  have hl : (us' ++ us).length = ps.length := by rw [← r2.length]; exact F.len _ _ _ _ q1
  refine wpAny_call (codeAny_mono (F.run X.A X.stack s1 H1 ⟨us', []⟩ (us' ++ us) (vs ++ dvs) Q (WE W τ) hr I1.env0 (hb s1 us' I1.kIn hl) r2 q1) fun r s' hq => ?_)
  cases r with
  | error e => exact hx τ pins H1 s1 e s' I1 hq
  | ok fl =>
    cases fl with
    | ret u => exact I1.after hq
    | next => exact False.elim hq
    | brk => exact False.elim hq
    | cont => exact False.elim hq
end
end Q

/-! Q8: what is walked; targets; statements; loops; comprehensions. -/
namespace Q
open PySem PySem.Spec PyProof.Rows L2

/-! ### what is walked -/
abbrev MI := AS → AH → Res (List D × (AH → Prop))
section
variable {X : Cx} {W : WX} {tg : Expr}
/-- the walk J gives the items ds while G holds, from the state H0, μ0 on -/
structure WalkD (X : Cx) (H0 : Hp) (μ0 : Mu) (p : List D × (AH → Prop)) (J : It) : Prop where
  goes : ∀ (i : Nat) (H : Hp) (μ : Mu) (h : AH), i < p.1.length → Stp0 μ0 μ H0 H → RelH X.prog X.w X.K H μ h → p.2 h → J.go i H
  stops : ∀ (H : Hp) (μ : Mu) (h : AH), Stp0 μ0 μ H0 H → RelH X.prog X.w X.K H μ h → p.2 h → J.stop p.1.length H
  yields : ∀ (i : Nat) (H : Hp) (μ : Mu) (h : AH) (x : V) (H' : Hp), i < p.1.length → Stp0 μ0 μ H0 H → RelH X.prog X.w X.K H μ h → p.2 h → J.yld i H x H' → ∃ d, p.1[i]? = some d ∧ Stp μ μ H H' ∧ RelH X.prog X.w X.K H' μ h ∧ RD X.K H' μ d x
abbrev tI (X : Cx) (W : WX) (m : MI) : TI := tG X W (WalkD X) m
def QI (X : Cx) (W : WX) (tg : Expr) (m : MI) (e : Expr) : Prop := PI X tg e (tI X W m)
/-- a sequence of any sort, or a text -/
def iSeq (m : M) : MI := fun σ h => (m σ h).bind fun x h1 => match x with
  | .str a => .ok (a.cps.toList.map fun c => .str ⟨#[c]⟩, fun _ => True) h1
  | .tup ds => .ok (ds, fun _ => True) h1
  | .fro ds => .ok (ds, fun _ => True) h1
  | .scr ds => .ok (ds, fun _ => True) h1
  | .ref n => match listAt h1 n with
    | some ds => .ok (ds, fun h => listAt h n = some ds) h1
    | none => .stuck
  | _ => .stuck
theorem walk_lst {H0 : Hp} {μ0 : Mu} {a : Addr} {ds : List D} {G : AH → Prop} (hs : ∀ (H : Hp) (μ : Mu) (h : AH), Stp0 μ0 μ H0 H → RelH X.prog X.w X.K H μ h → G h → ∃ xs, SqL X.K H a xs ∧ RDs X.K H μ ds xs) : WalkD X H0 μ0 (ds, G) (Itl X.K a) where
  goes := fun i H μ h hi s rh g => by
    obtain ⟨xs, q, r⟩ := hs H μ h s rh g
    obtain ⟨v, e, _⟩ := r.get (List.getElem?_eq_getElem hi)
    exact ⟨xs, v, q, e⟩
  stops := fun H μ h s rh g => by
    obtain ⟨xs, q, r⟩ := hs H μ h s rh g
    exact ⟨xs, q, Nat.le_of_eq r.length⟩
  yields := fun i H μ h x H' hi s rh g y => by
    obtain ⟨xs, q, r⟩ := hs H μ h s rh g
    obtain ⟨rfl, y⟩ := y
    obtain ⟨d, e, rd⟩ := r.get' (y xs q)
    exact ⟨d, e, Stp.refl, rh, rd⟩
theorem walk_tp {H0 : Hp} {μ0 : Mu} {a : Addr} {ds : List D} {G : AH → Prop} (hs : ∀ (H : Hp) (μ : Mu) (h : AH), Stp0 μ0 μ H0 H → RelH X.prog X.w X.K H μ h → G h → ∃ xs, SqT X.K H a xs ∧ RDs X.K H μ ds xs) : WalkD X H0 μ0 (ds, G) (Itt X.K a) where
  goes := fun i H μ h hi s rh g => by
    obtain ⟨xs, q, r⟩ := hs H μ h s rh g
    obtain ⟨v, e, _⟩ := r.get (List.getElem?_eq_getElem hi)
    exact ⟨xs, v, q, e⟩
  stops := fun H μ h s rh g => by
    obtain ⟨xs, q, r⟩ := hs H μ h s rh g
    exact ⟨xs, q, Nat.le_of_eq r.length⟩
  yields := fun i H μ h x H' hi s rh g y => by
    obtain ⟨xs, q, r⟩ := hs H μ h s rh g
    obtain ⟨rfl, y⟩ := y
    obtain ⟨d, e, rd⟩ := r.get' (y xs q)
    exact ⟨d, e, Stp.refl, rh, rd⟩
theorem walk_txt {H0 : Hp} {μ0 : Mu} {a : Str} : WalkD X H0 μ0 (a.cps.toList.map fun c => .str ⟨#[c]⟩, fun _ => True) (Its a) where
  goes := fun i H μ h hi _ _ _ => by
    show i < a.cps.size
    simpa using hi
  stops := fun H μ h _ _ _ => by
    show a.cps.size ≤ _
    simp
  yields := fun i H μ h x H' hi s rh g y => by
    obtain ⟨rfl, c, e, rfl⟩ := y
    exact ⟨.str ⟨#[c]⟩, by simp [e], Stp.refl, rh, .str _⟩
section
variable {pins : List (Addr × Obj)} {σ : L2.St} {H : Hp} {s : Shared} {R : It → Hp → Prop} {E : Value → Shared → Prop}
theorem iter_l {a : Addr} {xs : List V} (I : Inv X pins σ H s) (hq : SqL X.K H a xs) (q : R (Itl X.K a) H) : wpAny (model X.prog X.w) X.A (pyIter (.ref a)) (PIE X pins σ tg R) E s := by
  obtain ⟨its, rv, p, hz⟩ := I.list hq
  refine wpAny_pyIter_list p.isList ?_
  refine ⟨s.heap.objs.size, [s.heap.objs.size], _, _, H, rfl, I.kept (t' := s.toks) fun b o e => Heap.get?_push_of_some _ e, turn_list a _, ⟨_, Heap.get?_push_size _ rfl, rfl, rfl⟩, fun b hb => ?_, q⟩
  have e : b = s.heap.objs.size := by simpa using hb
  subst e
  exact I.fpOk (Nat.le_refl _) (I.hok.fresh (Nat.le_refl _))
theorem iter_t {a : Addr} {xs : List V} (I : Inv X pins σ H s) (hq : SqT X.K H a xs) (q : R (Itt X.K a) H) : wpAny (model X.prog X.w) X.A (pyIter (.ref a)) (PIE X pins σ tg R) E s := by
  obtain ⟨its, rv, p, hz⟩ := I.tuple hq
  refine wpAny_pyIter_tuple (show s.heap.IsTuple a its.toArray from p) ?_
  refine ⟨s.heap.objs.size, [s.heap.objs.size], _, _, H, rfl, I.kept (t' := s.toks) fun b o e => Heap.get?_push_of_some _ e, turn_tuple a _, ⟨_, Heap.get?_push_size _ rfl, rfl, rfl⟩, fun b hb => ?_, q⟩
  have e : b = s.heap.objs.size := by simpa using hb
  subst e
  exact I.fpOk (Nat.le_refl _) (I.hok.fresh (Nat.le_refl _))
theorem iter_s {a : Str} {t : Tok} (I : Inv X pins σ H s) (q : R (Its a) H) : wpAny (model X.prog X.w) X.A (pyIter (.str a t)) (PIE X pins σ tg R) E s := by
  cases ha : a.cps.all (· < 128)
  · exact wpAny_pyIter_wide ha (pi_one (tk := s.toks) I _ (turn_str _ a t "str_iterator" (.inr rfl)) ⟨_, Heap.get?_push_size _ rfl, rfl, rfl⟩ q)
  · exact wpAny_pyIter_ascii ha (pi_one (tk := s.toks) I _ (turn_str _ a t "str_ascii_iterator" (.inl rfl)) ⟨_, Heap.get?_push_size _ rfl, rfl, rfl⟩ q)
end
theorem qi_seq {m : M} {e : Expr} (hm : QE X W m e) : QI X W tg (iSeq m) e := by
  refine ⟨fun pins s τ H R I ⟨σ, h, μ, rs, rh, q⟩ => ?_⟩
  refine thn (hm.run pins s τ H (fun v H1 => ∃ d μ1 h1, Stp μ μ1 H H1 ∧ RelH X.prog X.w X.K H1 μ1 h1 ∧ RD X.K H1 μ1 d v ∧ Post X W τ H1 μ1 (WalkD X) R ((fun x h1 => match x with
    | .str a => .ok (a.cps.toList.map fun c => .str ⟨#[c]⟩, fun _ => True) h1
    | .tup ds => .ok (ds, fun _ => True) h1
    | .fro ds => .ok (ds, fun _ => True) h1
    | .scr ds => .ok (ds, fun _ => True) h1
    | .ref n => match listAt h1 n with
      | some ds => .ok (ds, fun h => listAt h n = some ds) h1
      | none => .stuck
    | _ => .stuck : D → AH → Res (List D × (AH → Prop))) d h1)) I (go rs rh q fun d h1 v H1 μ1 s1 rs1 rh1 rd q1 => ⟨d, μ1, h1, s1, rh1, rd, q1⟩)) fun u s1 ⟨v, H1, I1, rv, d, μ1, h1, s01, rh1, rd, q1⟩ => ?_
  cases rd with
  | str a =>
    obtain ⟨t, rfl⟩ := rv
    exact iter_s I1 (q1.now rh1 walk_txt)
  | tup ta rr =>
    cases rv
    exact iter_t I1 ta.sq (q1.now rh1 (walk_tp fun H μ h st _ _ => ⟨_, (ta.stp0 st).sq, rr.stp0 st⟩))
  | fro ta nm rr =>
    cases rv
    exact iter_l I1 (SqL.of ta) (q1.now rh1 (walk_lst fun H μ h st _ _ => ⟨_, SqL.of (st.keep _ _ ta nm), rr.stp0 st⟩))
  | scr ta rr =>
    cases rv
    exact iter_l I1 ta.sq (q1.now rh1 (walk_lst fun H μ h st _ _ => ⟨_, (ta.stp0 st).sq, rr.stp0 st⟩))
  | ref hm =>
    cases rv
    dsimp only at q1
    split at q1
    · rename_i ds eh
      cases rh1.obj _ _ _ (listAt_some eh) hm with
      | lst ha rr =>
        refine iter_l I1 (SqL.of ha) (q1.now rh1 (walk_lst fun H μ h st rh' g => ?_))
        cases rh'.obj _ _ _ (listAt_some g) (st.pre _ _ hm) with
        | lst ha' rr' => exact ⟨_, SqL.of ha', rr'⟩
    · exact q1.elim
  | _ => exact q1.elim
/-- range -/
def rangeD (lo : Int) (n : Nat) : List D := (List.range n).map fun i => .int (lo + (i : Nat))
theorem walk_rng {H0 : Hp} {μ0 : Mu} {lo : Int} {n : Nat} : WalkD X H0 μ0 (rangeD lo n, fun _ => True) (Itr lo n) where
  goes := fun i H μ h hi _ _ _ => by
    show i < n
    simpa [rangeD] using hi
  stops := fun H μ h _ _ _ => by
    show n ≤ _
    simp [rangeD]
  yields := fun i H μ h x H' hi s rh g y => by
    obtain ⟨rfl, rfl⟩ := y
    have hi' : i < n := by simpa [rangeD] using hi
    exact ⟨.int (lo + i), by simp [rangeD, hi'], Stp.refl, rh, .int _⟩
def iRange1 (m : M) : MI := fun σ h => (m σ h).bind fun x h1 => match x with
  | .int j => if -(2 ^ 62) ≤ j ∧ j < 2 ^ 62 then .ok (rangeD 0 j.toNat, fun _ => True) h1 else .stuck
  | _ => .stuck
theorem qi_range1 {m : M} {e : Expr} {p pos : Pos} (hg : Gl X "range") (hm : X.mg "range" = none) (he : QE X W m e) (hs : starEach [e] X.env = (false, eval e X.env) :: starEach [] X.env := by rfl) : QI X W tg (iRange1 m) (.Call (.Name "range" p) [e] [] pos) :=
  ⟨fun pins s τ H R I ⟨σ, h, μ, rs, rh, q⟩ => (pi_range1 hg hm (pa_cons he pa_nil hs) hs).run pins s τ H R I (go rs rh q fun d h1 v H1 μ1 s1 rs1 rh1 rd q1 => by
    split at q1
    · split at q1
      · rename_i hb
        cases rd
        exact ⟨_, rfl, hb.1, hb.2, q1.now rh1 walk_rng⟩
      · exact q1.elim
    · exact q1.elim)⟩
def iRange2 (m n : M) : MI := fun σ h => (m σ h).bind fun x h1 => (n σ h1).bind fun y h2 => match x, y with
  | .int i, .int j => if (-(2 ^ 62) ≤ i ∧ i < 2 ^ 62) ∧ -(2 ^ 62) ≤ j ∧ j < 2 ^ 62 then .ok (rangeD i (j - i).toNat, fun _ => True) h2 else .stuck
  | _, _ => .stuck
theorem qi_range2 {m n : M} {e e2 : Expr} {p pos : Pos} (hg : Gl X "range") (hm : X.mg "range" = none) (he : QE X W m e) (he2 : QE X W n e2) (hs : starEach [e, e2] X.env = (false, eval e X.env) :: starEach [e2] X.env := by rfl) (hs2 : starEach [e2] X.env = (false, eval e2 X.env) :: starEach [] X.env := by rfl)
    (hs3 : starEach [e, e2] X.env = [(false, eval e X.env), (false, eval e2 X.env)] := by rfl) (hs4 : starEach [e2] X.env = [(false, eval e2 X.env)] := by rfl) : QI X W tg (iRange2 m n) (.Call (.Name "range" p) [e, e2] [] pos) :=
  ⟨fun pins s τ H R I ⟨σ, h, μ, rs, rh, q⟩ => (pi_range2 hg hm (pa_cons he (pa_cons he2 pa_nil hs2) hs) hs3 hs4).run pins s τ H R I (go rs rh q fun d h1 v H1 μ1 s1 rs1 rh1 rd q1 => go rs1 rh1 q1 fun d2 h2 v2 H2 μ2 s2 rs2 rh2 rd2 q2 => by
    split at q2
    · split at q2
      · rename_i hb
        cases rd; cases rd2
        exact ⟨_, _, rfl, ⟨hb.1.1, hb.1.2, hb.2⟩, q2.now rh2 walk_rng⟩
      · exact q2.elim
    · exact q2.elim)⟩
/-- zip of two tuples, of two lists that stay -/
def zipD (as bs : List D) : List D := List.zipWith (fun a b => .tup [a, b]) as bs
def iZip (m n : M) : MI := fun σ h => (m σ h).bind fun x h1 => (n σ h1).bind fun y h2 => match x, y with
  | .tup as, .tup bs => .ok (zipD as bs, fun _ => True) h2
  | .fro as, .fro bs => .ok (zipD as bs, fun _ => True) h2
  | _, _ => .stuck
theorem zip_get {as bs : List D} {i : Nat} {a b : D} (ha : as[i]? = some a) (hb : bs[i]? = some b) : (zipD as bs)[i]? = some (.tup [a, b]) := by
  simp [zipD, List.getElem?_zipWith, ha, hb]
theorem walk_zipT {H0 : Hp} {μ0 : Mu} {a b : Addr} {as bs : List D} (ha : ∀ (H : Hp) (μ : Mu), Stp0 μ0 μ H0 H → ∃ xs, SqT X.K H a xs ∧ RDs X.K H μ as xs) (hb : ∀ (H : Hp) (μ : Mu), Stp0 μ0 μ H0 H → ∃ xs, SqT X.K H b xs ∧ RDs X.K H μ bs xs) : WalkD X H0 μ0 (zipD as bs, fun _ => True) (RZ.ItzT X.K a b) where
  goes := fun i H μ h hi s rh g => by
    obtain ⟨xs, q, r⟩ := ha H μ s
    obtain ⟨ys, q', r'⟩ := hb H μ s
    have hi : i < as.length ∧ i < bs.length := by simpa [zipD, Nat.lt_min] using hi
    obtain ⟨v, e, _⟩ := r.get (List.getElem?_eq_getElem hi.1)
    obtain ⟨v', e', _⟩ := r'.get (List.getElem?_eq_getElem hi.2)
    exact ⟨xs, ys, v, v', q, q', e, e'⟩
  stops := fun H μ h s rh g => by
    obtain ⟨xs, q, r⟩ := ha H μ s
    obtain ⟨ys, q', r'⟩ := hb H μ s
    refine ⟨xs, ys, q, q', ?_⟩
    have h1 := r.length
    have h2 := r'.length
    have h3 : (zipD as bs).length = min as.length bs.length := by simp [zipD]
    show xs.length ≤ (zipD as bs).length ∨ ys.length ≤ (zipD as bs).length
    omega
  yields := fun i H μ h x H' hi s rh g y => by
    obtain ⟨xs, q, r⟩ := ha H μ s
    obtain ⟨ys, q', r'⟩ := hb H μ s
    obtain ⟨T, u, v, rfl, hT, rfl, y1, y2⟩ := y
    obtain ⟨d, e, rd⟩ := r.get' (y1 xs q)
    obtain ⟨d', e', rd'⟩ := r'.get' (y2 ys q')
    exact ⟨_, zip_get e e', Stp.laid hT, rh.laid hT, RD.tup_laid rh hT (.cons rd (.cons rd' .nil))⟩
theorem walk_zipL {H0 : Hp} {μ0 : Mu} {a b : Addr} {as bs : List D} (ha : ∀ (H : Hp) (μ : Mu), Stp0 μ0 μ H0 H → ∃ xs, SqL X.K H a xs ∧ RDs X.K H μ as xs) (hb : ∀ (H : Hp) (μ : Mu), Stp0 μ0 μ H0 H → ∃ xs, SqL X.K H b xs ∧ RDs X.K H μ bs xs) : WalkD X H0 μ0 (zipD as bs, fun _ => True) (Itz X.K a b) where
  goes := fun i H μ h hi s rh g => by
    obtain ⟨xs, q, r⟩ := ha H μ s
    obtain ⟨ys, q', r'⟩ := hb H μ s
    have hi : i < as.length ∧ i < bs.length := by simpa [zipD, Nat.lt_min] using hi
    obtain ⟨v, e, _⟩ := r.get (List.getElem?_eq_getElem hi.1)
    obtain ⟨v', e', _⟩ := r'.get (List.getElem?_eq_getElem hi.2)
    exact ⟨xs, ys, v, v', q, q', e, e'⟩
  stops := fun H μ h s rh g => by
    obtain ⟨xs, q, r⟩ := ha H μ s
    obtain ⟨ys, q', r'⟩ := hb H μ s
    refine ⟨xs, ys, q, q', ?_⟩
    have h1 := r.length
    have h2 := r'.length
    have h3 : (zipD as bs).length = min as.length bs.length := by simp [zipD]
    show xs.length ≤ (zipD as bs).length ∨ ys.length ≤ (zipD as bs).length
    omega
  yields := fun i H μ h x H' hi s rh g y => by
    obtain ⟨xs, q, r⟩ := ha H μ s
    obtain ⟨ys, q', r'⟩ := hb H μ s
    obtain ⟨T, u, v, rfl, hT, rfl, y1, y2⟩ := y
    obtain ⟨d, e, rd⟩ := r.get' (y1 xs q)
    obtain ⟨d', e', rd'⟩ := r'.get' (y2 ys q')
    exact ⟨_, zip_get e e', Stp.laid hT, rh.laid hT, RD.tup_laid rh hT (.cons rd (.cons rd' .nil))⟩
theorem qi_zip {m n : M} {e e2 : Expr} {p pos tpos : Pos} {elts : List Expr} {kk : Nat} (hg : Gl X "zip") (hm : X.mg "zip" = none) (he : QE X W m e) (he2 : QE X W n e2) (hs : starEach [e, e2] X.env = (false, eval e X.env) :: starEach [e2] X.env := by rfl) (hs2 : starEach [e2] X.env = (false, eval e2 X.env) :: starEach [] X.env := by rfl)
    (hpl : (backTo pos (starEach [e2] X.env)).any (·.1) = false := by rfl) : QI X W (.Tuple elts kk tpos) (iZip m n) (.Call (.Name "zip" p) [e, e2] [] pos) :=
  ⟨fun pins s τ H R I ⟨σ, h, μ, rs, rh, q⟩ => (RZ.pi_zipA hg hm (pa_cons he (pa_cons he2 pa_nil hs2) hs) hs hpl).run pins s τ H R I (go rs rh q fun d h1 v H1 μ1 s1 rs1 rh1 rd q1 => go rs1 rh1 q1 fun d2 h2 v2 H2 μ2 s2 rs2 rh2 rd2 q2 => by
    have rd := rd.stp s2
    split at q2
    · cases rd with
      | tup ta ra =>
        cases rd2 with
        | tup tb rb =>
          exact ⟨_, _, _, _, rfl, .inr ⟨ta.sq, tb.sq, q2.now rh2 (walk_zipT (fun H μ st => ⟨_, (ta.stp0 st).sq, ra.stp0 st⟩) fun H μ st => ⟨_, (tb.stp0 st).sq, rb.stp0 st⟩)⟩⟩
    · cases rd with
      | fro ta na ra =>
        cases rd2 with
        | fro tb nb rb =>
          exact ⟨_, _, _, _, rfl, .inl ⟨SqL.of ta, SqL.of tb, q2.now rh2 (walk_zipL (fun H μ st => ⟨_, SqL.of (st.keep _ _ ta na), ra.stp0 st⟩) fun H μ st => ⟨_, SqL.of (st.keep _ _ tb nb), rb.stp0 st⟩)⟩⟩
    · exact q2.elim)⟩
end

/-! ### targets -/
abbrev MG := D → AS → AH → Option (AS × AH)
section
variable {X : Cx} {W : WX} {pos : Pos}
/-- what follows a store: the slots besides `is` stay -/
def PostG (X : Cx) (is : List Nat) (τ : L2.St) (H : Hp) (μ : Mu) (Q : L2.St → Hp → Prop) (r : Option (AS × AH)) : Prop :=
  ∃ σ' h', r = some (σ', h') ∧ ∀ (τ' : L2.St) (H' : Hp) (μ' : Mu), Stp μ μ' H H' → RelS X.K H' μ' σ' τ' → RelH X.prog X.w X.K H' μ' h' → τ'.length = τ.length → (∀ j, j ∉ is → τ'[j]? = τ[j]?) → Q τ' H'
def tGt (X : Cx) (g : MG) (is : List Nat) : TG := fun v τ H Q => ∃ (d : D) (σ : AS) (h : AH) (μ : Mu), RelS X.K H μ σ τ ∧ RelH X.prog X.w X.K H μ h ∧ RD X.K H μ d v ∧ PostG X is τ H μ Q (g d σ h)
def QG (X : Cx) (g : MG) (is : List Nat) (target : Expr) : Prop := PG X target (tGt X g is)
def gSlot (i : Nat) : MG := fun d σ h => some (σ.set i (some d), h)
theorem PG.of {t t' : TG} {e : Expr} (h : PG X e t) (i : ∀ v τ H Q, t' v τ H Q → t v τ H Q) : PG X e t' := ⟨fun pins s σ H v u Q I r q => h.run pins s σ H v u Q I r (i _ _ _ _ q)⟩
theorem qg_name {i : Nat} {x : Str} (hN : X.N.Nodup) (hi : X.N[i]? = some x) (hx : Loc X.env.scope x) (hf : X.fn x = true ∨ X.env.scope.names.lookup x = some .local := by first | exact .inl rfl | exact .inr rfl | assumption) : QG X (gSlot i) [i] (.Name x pos) :=
  PG.of (pg_name hN hi hx hf) fun v τ H Q ⟨d, σ, h, μ, rs, rh, rd, σ', h', e, q⟩ => by
    cases e
    refine q _ H μ Stp.refl (rs.set rd i) rh (by simp) fun j hj => ?_
    have hne : i ≠ j := fun e => hj (by simp [e])
    exact List.getElem?_set_ne hne
/-- targets from the left -/
def gsNil : List D → AS → AH → Option (AS × AH) := fun ds σ h => match ds with
  | [] => some (σ, h)
  | _ => none
def gsCons (g : MG) (r : List D → AS → AH → Option (AS × AH)) : List D → AS → AH → Option (AS × AH) := fun ds σ h => match ds with
  | d :: ds => match g d σ h with
    | some (σ1, h1) => r ds σ1 h1
    | none => none
  | [] => none
def tGts (X : Cx) (g : List D → AS → AH → Option (AS × AH)) (is : List Nat) : TGs := fun vs τ H Q => ∃ (ds : List D) (σ : AS) (h : AH) (μ : Mu), RelS X.K H μ σ τ ∧ RelH X.prog X.w X.K H μ h ∧ RDs X.K H μ ds vs ∧ PostG X is τ H μ Q (g ds σ h)
def QGs (X : Cx) (g : List D → AS → AH → Option (AS × AH)) (is : List Nat) (es : List Expr) : Prop := PGs X es (tGts X g is)
theorem PGs.of {t t' : TGs} {es : List Expr} (h : PGs X es t) (i : ∀ v τ H Q, t' v τ H Q → t v τ H Q) : PGs X es t' := ⟨fun pins s σ H v u Q I r q => h.run pins s σ H v u Q I r (i _ _ _ _ q)⟩
theorem qgs_nil : QGs X gsNil [] [] := PGs.of pgs_nil fun v τ H Q ⟨ds, σ, h, μ, rs, rh, rd, σ', h', e, q⟩ => by
  cases ds with
  | nil =>
    cases rd; cases e
    exact ⟨rfl, q τ H μ Stp.refl rs rh rfl fun _ _ => rfl⟩
  | cons _ _ => cases e
theorem qgs_cons {g : MG} {r : List D → AS → AH → Option (AS × AH)} {is js : List Nat} {e : Expr} {es : List Expr} (h1 : QG X g is e) (h2 : QGs X r js es)
    (hs : (assignEach (e :: es) X.env).map (·.2) = assign e X.env :: (assignEach es X.env).map (·.2) := by rfl) : QGs X (gsCons g r) (is ++ js) (e :: es) :=
  PGs.of (pgs_cons h1 h2 hs) fun v τ H Q ⟨ds, σ, h, μ, rs, rh, rd, σ', h', e, q⟩ => by
    cases ds with
    | nil => cases e
    | cons d ds =>
      cases rd with
      | cons rd rds =>
        refine ⟨_, _, rfl, d, σ, h, μ, rs, rh, rd, ?_⟩
        simp only [gsCons] at e
        split at e
        · rename_i σ1 h1 eg
          refine ⟨σ1, h1, eg, fun τ1 H1 μ1 st1 rs1 rh1 l1 f1 => ⟨ds, σ1, h1, μ1, rs1, rh1, rds.stp st1, σ', h', e, fun τ2 H2 μ2 st2 rs2 rh2 l2 f2 => q τ2 H2 μ2 (st1.trans st2) rs2 rh2 (l2.trans l1) fun j hj => ?_⟩⟩
          rw [List.mem_append, not_or] at hj
          exact (f2 j hj.2).trans (f1 j hj.1)
        · cases e
def gTupD (n : Nat) (g : List D → AS → AH → Option (AS × AH)) : MG := fun d σ h => match d with
  | .tup ds => if ds.length = n then g ds σ h else none
  | _ => none
theorem qg_tup {es : List Expr} {k : Nat} {g : List D → AS → AH → Option (AS × AH)} {is : List Nat} {n : Nat} (hc : X.calm = true) (hg : QGs X g is es)
    (hn : (assignEach es X.env).length = n := by rfl) (hst : (assignEach es X.env).findIdx? (·.1) = none := by rfl) : QG X (gTupD n g) is (.Tuple es k pos) :=
  PG.of (pg_tup hc hg hn hst) fun v τ H Q ⟨d, σ, h, μ, rs, rh, rd, σ', h', e, q⟩ => by
    unfold gTupD at e
    split at e
    · split at e
      · rename_i hl
        cases rd with
        | tup ta rr => exact ⟨_, _, rfl, ta.sq, by rw [rr.length]; exact hl, _, σ, h, μ, rs, rh, rr, σ', h', e, q⟩
      · cases e
    · cases e
/-- o[i] = .. -/
def gSubD (f : D → D → D → AH → Option AH) (a b : M) : MG := fun d σ h => match a σ h with
  | .ok x h1 => match b σ h1 with
    | .ok y h2 => (f x y d h2).map fun h3 => (σ, h3)
    | _ => none
  | _ => none
theorem qg_sub {f : D → D → D → AH → Option AH} {a b : M} {ea eb : Expr} (hf : SetD X f) (ha : QE X W a ea) (hb : QE X W b eb)
    (hx : ∀ v, assign (.Subscript ea eb pos) X.env v = (do
      let ov ← holding [v] (eval ea X.env)
      let iv ← holding [v, ov] (eval eb X.env)
      standAt pos
      holding [v, ov, iv] (setItem ov iv v)
      release [v, ov, iv] []) := by intro _; rfl) : QG X (gSubD f a b) [] (.Subscript ea eb pos) :=
  PG.of (pg_sub ha hb hf hx) fun v τ H Q ⟨d, σ, h, μ, rs, rh, rd, σ', h', e, q⟩ => by
    unfold gSubD at e
    refine ⟨σ, h, μ, rs, rh, ?_⟩
    split at e
    · rename_i x h1 ex
      rw [ex]
      intro o H1 μ1 st1 rh1 rx
      refine ⟨σ, h1, μ1, rs.stp st1, rh1, ?_⟩
      split at e
      · rename_i y h2 ey
        rw [ey]
        intro i H2 μ2 st2 rh2 ry
        obtain ⟨h3, e3, e4⟩ := Option.map_eq_some_iff.mp e
        cases e4
        refine ⟨x, y, d, μ2, h2, rh2, rx.stp st2, ry, (rd.stp st1).stp st2, h', e3, fun H3 μ3 st3 rh3 => ?_⟩
        have st := (st1.trans st2).trans st3
        exact q τ H3 μ3 st (rs.stp st) rh3 rfl fun _ _ => rfl
      · cases e
    · cases e
end
end Q

/-! Q9: statements, loops, comprehensions. -/
namespace Q
open PySem PySem.Spec PyProof.Rows L2

inductive Out where
  | stuck | nx (σ : AS) (h : AH) | rt (d : D) (h : AH) | bk (σ : AS) (h : AH) | ct (σ : AS) (h : AH) | ex (e : Ex) (σ : AS) (h : AH)
abbrev MS := AS → AH → Out
section
variable {X : Cx} {W : WX} {D D' : Ends} {H : Hp} {μ : Mu}
def PostS (X : Cx) (W : WX) (D : Ends) (H : Hp) (μ : Mu) : Out → Prop
  | .stuck => False
  | .nx σ h => ∀ (τ : L2.St) (H' : Hp) (μ' : Mu), Stp μ μ' H H' → RelS X.K H' μ' σ τ → RelH X.prog X.w X.K H' μ' h → D.nx τ H'
  | .rt d h => ∀ (v : V) (H' : Hp) (μ' : Mu), Stp μ μ' H H' → RelH X.prog X.w X.K H' μ' h → RD X.K H' μ' d v → D.rt v H'
  | .bk σ h => ∀ (τ : L2.St) (H' : Hp) (μ' : Mu), Stp μ μ' H H' → RelS X.K H' μ' σ τ → RelH X.prog X.w X.K H' μ' h → D.bk τ H'
  | .ct σ h => ∀ (τ : L2.St) (H' : Hp) (μ' : Mu), Stp μ μ' H H' → RelS X.K H' μ' σ τ → RelH X.prog X.w X.K H' μ' h → D.ct τ H'
  | .ex e σ h => ∀ (cls : Value) (dd : Option Addr) (τ : L2.St) (H' : Hp) (μ' : Mu), Stp μ μ' H H' → RelS X.K H' μ' σ τ → RelH X.prog X.w X.K H' μ' h → RX X.mg X.K H' μ' e cls dd → W cls dd τ H'
def tXS (X : Cx) (W : WX) (m : MS) : TS := fun D τ H => ∃ (σ : AS) (h : AH) (μ : Mu), RelS X.K H μ σ τ ∧ RelH X.prog X.w X.K H μ h ∧ PostS X W D H μ (m σ h)
def QS (X : Cx) (W : WX) (m : MS) (st : Stmt) : Prop := PS X st (tXS X W m)
def QSs (X : Cx) (W : WX) (m : MS) (ss : List Stmt) : Prop := PSs X ss (tXS X W m)
theorem PS.of {t t' : TS} {st : Stmt} (h : PS X st t) (i : ∀ D τ H, t' D τ H → t D τ H) : PS X st t' := ⟨fun pins s σ H D I q => h.run pins s σ H D I (i _ _ _ q)⟩
theorem PSs.of {t t' : TS} {ss : List Stmt} (h : PSs X ss t) (i : ∀ D τ H, t' D τ H → t D τ H) : PSs X ss t' := ⟨fun pins s σ H D I q => h.run pins s σ H D I (i _ _ _ q)⟩
theorem PostS.mono {H' : Hp} {μ' : Mu} (s : Stp μ μ' H H') {r : Out} (q : PostS X W D H μ r) : PostS X W D H' μ' r := by
  cases r with
  | stuck => exact q
  | nx σ h => exact fun τ H2 μ2 s2 => q τ H2 μ2 (s.trans s2)
  | rt d h => exact fun v H2 μ2 s2 => q v H2 μ2 (s.trans s2)
  | bk σ h => exact fun τ H2 μ2 s2 => q τ H2 μ2 (s.trans s2)
  | ct σ h => exact fun τ H2 μ2 s2 => q τ H2 μ2 (s.trans s2)
  | ex e σ h => exact fun c d τ H2 μ2 s2 => q c d τ H2 μ2 (s.trans s2)
/-- an expression ahead of something -/
def Res.andS {α : Type} (σ : AS) (r : Res α) (f : α → AH → Out) : Out := match r with
  | .stuck => .stuck
  | .ok a h => f a h
  | .ex e h => .ex e σ h
@[simp] theorem Res.andS_ok {α : Type} (σ : AS) (a : α) (h : AH) (f : α → AH → Out) : (Res.ok a h).andS σ f = f a h := rfl
@[simp] theorem Res.andS_ex {α : Type} (σ : AS) (e : Ex) (h : AH) (f : α → AH → Out) : (Res.ex e h : Res α).andS σ f = .ex e σ h := rfl
@[simp] theorem Res.andS_stuck {α : Type} (σ : AS) (f : α → AH → Out) : (Res.stuck : Res α).andS σ f = .stuck := rfl
theorem goS {α β : Type} {RA : Hp → Mu → α → β → Prop} {σ : AS} {τ : L2.St} {h : AH} {m : AS → AH → Res α} {f : α → AH → Out} {k : β → Hp → Prop} (rs : RelS X.K H μ σ τ) (rh : RelH X.prog X.w X.K H μ h) (q : PostS X W D H μ ((m σ h).andS σ f))
    (hk : ∀ (a : α) (h1 : AH) (b : β) (H1 : Hp) (μ1 : Mu), Stp μ μ1 H H1 → RelS X.K H1 μ1 σ τ → RelH X.prog X.w X.K H1 μ1 h1 → RA H1 μ1 a b → PostS X W D H1 μ1 (f a h1) → k b H1) : tG X W RA m τ H k := by
  refine ⟨σ, h, μ, rs, rh, ?_⟩
  cases e : m σ h with
  | stuck => rw [e] at q; exact q
  | ex x h' =>
    rw [e] at q
    exact fun cls dd H' μ' s rh' rx => q cls dd τ H' μ' s (rs.stp s) rh' rx
  | ok a h' =>
    rw [e] at q
    exact fun b H' μ' s rh' ra => hk a h' b H' μ' s (rs.stp s) rh' ra (q.mono s)

/-! ### blocks -/
def sNil : MS := fun σ h => .nx σ h
def sCons (a b : MS) : MS := fun σ h => match a σ h with
  | .nx σ' h' => b σ' h'
  | r => r
theorem qss_nil : QSs X W sNil [] := PSs.of pss_nil fun D τ H ⟨σ, h, μ, rs, rh, q⟩ => q τ H μ Stp.refl rs rh
theorem seq_go {a b : MS} {σ : AS} {h : AH} (q : PostS X W D H μ (sCons a b σ h)) : PostS X W { D with nx := fun τ H => tXS X W b D τ H } H μ (a σ h) := by
  unfold sCons at q
  cases e : a σ h with
  | nx σ' h' =>
    rw [e] at q
    exact fun τ H' μ' s rs rh => ⟨σ', h', μ', rs, rh, q.mono s⟩
  | _ => rw [e] at q; exact q
theorem qss_cons {a b : MS} {st : Stmt} {ss : List Stmt} (ha : QS X W a st) (hb : QSs X W b ss) : QSs X W (sCons a b) (st :: ss) :=
  PSs.of (pss_cons ha hb) fun D τ H ⟨σ, h, μ, rs, rh, q⟩ => ⟨σ, h, μ, rs, rh, seq_go q⟩

/-! ### plain statements -/
def sRet (m : M) : MS := fun σ h => (m σ h).andS σ fun d h1 => .rt d h1
theorem qs_ret {m : M} {e : Expr} {pos : Pos} (hm : QE X W m e) : QS X W (sRet m) (.Return (some e) pos) :=
  PS.of (ps_ret hm) fun D τ H ⟨σ, h, μ, rs, rh, q⟩ => goS rs rh q fun d h1 v H1 μ1 s1 rs1 rh1 rd q1 => q1 v H1 μ1 Stp.refl rh1 rd
def sRetN : MS := fun _ h => .rt .non h
theorem qs_retN {pos : Pos} : QS X W sRetN (.Return none pos) := PS.of ps_retN fun D τ H ⟨σ, h, μ, rs, rh, q⟩ => q .non H μ Stp.refl rh .non
def sExpr (m : M) : MS := fun σ h => (m σ h).andS σ fun _ h1 => .nx σ h1
theorem qs_expr {m : M} {e : Expr} {pos : Pos} (hm : QE X W m e) (hs : swapsWith e none pos.line X.env = pure false := by rfl) : QS X W (sExpr m) (.Expr e pos) :=
  PS.of (ps_expr hm hs) fun D τ H ⟨σ, h, μ, rs, rh, q⟩ => goS rs rh q fun d h1 v H1 μ1 s1 rs1 rh1 rd q1 => q1 τ H1 μ1 Stp.refl rs1 rh1
theorem qs_doc {x j} {pos pos' : Pos} : QS X W sNil (.Expr (.Constant (.str x) j pos) pos') := PS.of ps_doc fun D τ H ⟨σ, h, μ, rs, rh, q⟩ => q τ H μ Stp.refl rs rh
theorem qs_pass {pos : Pos} : QS X W sNil (.Pass pos) := PS.of ps_pass fun D τ H ⟨σ, h, μ, rs, rh, q⟩ => q τ H μ Stp.refl rs rh
def sBreak : MS := fun σ h => .bk σ h
def sCont : MS := fun σ h => .ct σ h
theorem qs_break {pos : Pos} : QS X W sBreak (.Break pos) := PS.of ps_break fun D τ H ⟨σ, h, μ, rs, rh, q⟩ => q τ H μ Stp.refl rs rh
theorem qs_continue {pos : Pos} : QS X W sCont (.Continue pos) := PS.of ps_continue fun D τ H ⟨σ, h, μ, rs, rh, q⟩ => q τ H μ Stp.refl rs rh
/-- never reached -/
def sNever : MS := fun _ _ => .stuck
theorem qs_never {st : Stmt} : QS X W sNever st := PS.of ps_never fun D τ H ⟨σ, h, μ, rs, rh, q⟩ => q
def sIf (c : MB) (a b : MS) : MS := fun σ h => (c σ h).andS σ fun k h1 => if k = true then a σ h1 else b σ h1
theorem qs_if {c : MB} {a b : MS} {e : Expr} {as bs : List Stmt} {pos : Pos} (hc : QT X W c e) (ha : QSs X W a as) (hb : QSs X W b bs) : QS X W (sIf c a b) (.If e as bs pos) :=
  PS.of (ps_if hc ha hb) fun D τ H ⟨σ, h, μ, rs, rh, q⟩ => goS rs rh q fun k h1 k' H1 μ1 s1 rs1 rh1 rk q1 => by
    cases (show k = k' from rk)
    cases k with
    | true => rw [if_pos rfl] at q1 ⊢; exact ⟨σ, h1, μ1, rs1, rh1, q1⟩
    | false => rw [if_neg Bool.false_ne_true] at q1 ⊢; exact ⟨σ, h1, μ1, rs1, rh1, q1⟩
/-- a store -/
def stO (r : Option (AS × AH)) : Out := match r with
  | some (σ, h) => .nx σ h
  | none => .stuck
@[simp] theorem stO_some (σ : AS) (h : AH) : stO (some (σ, h)) = .nx σ h := rfl
@[simp] theorem stO_none : stO none = .stuck := rfl
theorem PostG.of {is : List Nat} {τ : L2.St} {r : Option (AS × AH)} (q : PostS X W D H μ (stO r)) : PostG X is τ H μ D.nx r := by
  cases r with
  | none => exact False.elim q
  | some p => exact ⟨p.1, p.2, rfl, fun τ' H' μ' s rs rh _ _ => q τ' H' μ' s rs rh⟩
def sAsg (m : M) (g : MG) : MS := fun σ h => (m σ h).andS σ fun d h1 => stO (g d σ h1)
theorem qs_asg {m : M} {g : MG} {is : List Nat} {tg e : Expr} {pos : Pos} (hm : QE X W m e) (hg : QG X g is tg) (hs : swapsWithSole [tg] e pos.line X.env = pure false := by rfl) (hw : swappedStores [tg] e X.env = pure none := by rfl)
    (h1 : (assignEach [tg] X.env).map (·.2) = [assign tg X.env] := by rfl) : QS X W (sAsg m g) (.Assign [tg] e pos) :=
  PS.of (ps_asg hm hg hs hw h1) fun D τ H ⟨σ, h, μ, rs, rh, q⟩ => goS rs rh q fun d h1 v H1 μ1 s1 rs1 rh1 rd q1 => ⟨d, σ, h1, μ1, rs1, rh1, rd, .of q1⟩
theorem qs_set {m : M} {i : Nat} {x : Str} {e : Expr} {pos pos' : Pos} (hN : X.N.Nodup) (hi : X.N[i]? = some x) (hx : Loc X.env.scope x) (hm : QE X W m e) (hs : swapsWith e (some (.Name x pos')) pos.line X.env = pure false := by rfl)
    (hf : X.fn x = true ∨ X.env.scope.names.lookup x = some .local := by first | exact .inl rfl | exact .inr rfl | assumption) : QS X W (sAsg m (gSlot i)) (.Assign [.Name x pos'] e pos) :=
  PS.of (ps_set hN hi hx hm hs hf) fun D τ H ⟨σ, h, μ, rs, rh, q⟩ => goS rs rh q fun d h1 v H1 μ1 s1 rs1 rh1 rd q1 => q1 _ H1 μ1 Stp.refl (rs1.set rd i) rh1
/-- a, b = e1, e2 -/
def sPar (i j : Nat) (r : ML) : MS := fun σ h => (r σ h).andS σ fun ds h1 => match ds with
  | [a, b] => .nx ((σ.set i (some a)).set j (some b)) h1
  | _ => .stuck
theorem qs_par {r : ML} {i j : Nat} {x y : Str} {a b : Expr} {px py pt pos : Pos} {kt k2 pt2} (hc : X.calm = true) (hN : X.N.Nodup) (hi : X.N[i]? = some x) (hj : X.N[j]? = some y) (hij : i ≠ j)
    (hx : X.env.scope.names.lookup x = some .local) (hy : X.env.scope.names.lookup y = some .local) (ha : QA X W r [a, b])
    (hw : swappedStores [.Tuple [.Name x px, .Name y py] kt pt] (.Tuple [a, b] k2 pt2) X.env = pure (some [x, y]))
    (hs : swapsWithSole [.Tuple [.Name x px, .Name y py] kt pt] (.Tuple [a, b] k2 pt2) pos.line X.env = pure false := by rfl) :
    QS X W (sPar i j r) (.Assign [.Tuple [.Name x px, .Name y py] kt pt] (.Tuple [a, b] k2 pt2) pos) :=
  PS.of (ps_par hc hN hi hj hij hx hy ha hw hs) fun D τ H ⟨σ, h, μ, rs, rh, q⟩ => goS rs rh q fun ds h1 vs H1 μ1 s1 rs1 rh1 rds q1 => by
    split at q1
    · obtain ⟨v, w, rfl, rv, rw⟩ := rds.two
      exact ⟨v, w, rfl, q1 _ H1 μ1 Stp.refl ((rs1.set rv i).set rw j) rh1⟩
    · exact q1.elim
/-- x += e, numbers -/
def sAug (i : Nat) (f : Int → Int → Int) (m : M) : MS := fun σ h => match σ[i]? with
  | some (some (.int a)) => (m σ h).andS σ fun d h1 => match d with
    | .int b => .nx (σ.set i (some (.int (f a b)))) h1
    | _ => .stuck
  | _ => .stuck
theorem qs_aug {m : M} {i : Nat} {x : Str} {e : Expr} {op : Operator} {f : Int → Int → Int} {pos pos' : Pos} (hN : X.N.Nodup) (hi : X.N[i]? = some x) (hx : Loc X.env.scope x) (hm : QE X W m e) (ho : PIp X op (ipI f))
    (hf : X.fn x = true ∨ X.env.scope.names.lookup x = some .local := by first | exact .inl rfl | exact .inr rfl | assumption) : QS X W (sAug i f m) (.AugAssign (.Name x pos') op e pos) :=
  PS.of (ps_aug hN hi hx hm ho hf) fun D τ H ⟨σ, h, μ, rs, rh, q⟩ => by
    unfold sAug at q
    split at q
    · rename_i a ea
      obtain ⟨v, ev, rv⟩ := rs.2 i _ ea
      cases rv
      refine ⟨_, ev, goS rs rh q fun d h1 v H1 μ1 s1 rs1 rh1 rd q1 => ?_⟩
      split at q1
      · cases rd
        exact ⟨_, _, rfl, rfl, q1 _ H1 μ1 Stp.refl (rs1.set (.int _) i) rh1⟩
      · exact q1.elim
    · exact q.elim

/-! ### for -/
open Classical in
noncomputable def forL (G : AH → Prop) (g : MG) (body : MS) : List _root_.Q.D → AS → AH → Out
  | [], σ, h => if G h then .nx σ h else .stuck
  | d :: ds, σ, h => if G h then (match g d σ h with
    | some (σ1, h1) => match body σ1 h1 with
      | .nx σ2 h2 => forL G g body ds σ2 h2
      | .ct σ2 h2 => forL G g body ds σ2 h2
      | .bk σ2 h2 => .nx σ2 h2
      | r => r
    | none => .stuck) else .stuck
noncomputable def sFor (it : MI) (g : MG) (body : MS) : MS := fun σ h => (it σ h).andS σ fun p h1 => forL p.2 g body p.1 σ h1
theorem qs_for {it : MI} {g : MG} {is : List Nat} {body : MS} {tg iter : Expr} {ss : List Stmt} {pos : Pos} (hp : PassesOwn (model X.prog X.w) X.A X.env X.xe) (hc : X.calm = true) (hi : QI X W tg it iter) (hg : QG X g is tg) (hb : QSs X W body ss)
    (hs : ∀ x, foldedSetIterable iter X.env x = pure x := by intro _; rfl) : QS X W (sFor it g body) (.For tg iter ss [] pos) :=
  PS.of (ps_for hp hc hi hg hb hs) fun D τ H ⟨σ, h, μ, rs, rh, q⟩ => goS rs rh q fun p h1 J H1 μ1 s1 rs1 rh1 w q1 => by
    obtain ⟨ds, G⟩ := p
    refine ⟨fun i m τ H => m = ds.length - i ∧ i ≤ ds.length ∧ ∃ σ h μ, Stp μ1 μ H1 H ∧ RelS X.K H μ σ τ ∧ RelH X.prog X.w X.K H μ h ∧ PostS X W D H μ (forL G g body (ds.drop i) σ h), ⟨ds.length, rfl, Nat.zero_le _, σ, h1, μ1, Stp.refl, rs1, rh1, q1⟩, ?_⟩
    rintro i m τ H ⟨rfl, hi, σ, h, μ, st, rs, rh, q⟩
    by_cases hlt : i < ds.length
    · rw [List.drop_eq_getElem_cons hlt, forL] at q
      by_cases hG : G h
      · rw [if_pos hG] at q
        refine .inr ⟨w.goes i H μ h hlt st.toStp0 rh hG, fun τ H => ∃ σ h μ, Stp μ1 μ H1 H ∧ RelS X.K H μ σ τ ∧ RelH X.prog X.w X.K H μ h ∧ PostS X W D H μ (forL G g body (ds.drop (i + 1)) σ h), fun τ' H' p' => ⟨ds.length - (i + 1), by omega, rfl, hlt, p'⟩, fun x H' y => ?_⟩
        obtain ⟨d, ed, st', rh', rd⟩ := w.yields i H μ h x H' hlt st.toStp0 rh hG y
        have ed' : ds[i] = d := by
          rw [List.getElem?_eq_getElem hlt] at ed
          exact Option.some.inj ed
        rw [ed'] at q
        refine ⟨d, σ, h, μ, rs.stp st', rh', rd, ?_⟩
        split at q
        · rename_i σ1 h2 eg
          refine ⟨σ1, h2, eg, fun τ2 H2 μ2 st2 rs2 rh2 _ _ => ⟨σ1, h2, μ2, rs2, rh2, ?_⟩⟩
          have sta := (st.trans st').trans st2
          split at q
          · rename_i σ2 h3 eb
            rw [eb]
            exact fun τ3 H3 μ3 st3 rs3 rh3 => ⟨σ2, h3, μ3, sta.trans st3, rs3, rh3, q.mono ((st'.trans st2).trans st3)⟩
          · rename_i σ2 h3 eb
            rw [eb]
            exact fun τ3 H3 μ3 st3 rs3 rh3 => ⟨σ2, h3, μ3, sta.trans st3, rs3, rh3, q.mono ((st'.trans st2).trans st3)⟩
          · rename_i σ2 h3 eb
            rw [eb]
            exact fun τ3 H3 μ3 st3 rs3 rh3 => q τ3 H3 μ3 ((st'.trans st2).trans st3) rs3 rh3
          · rename_i n1 n2 n3
            have q2 := q.mono (st'.trans st2)
            cases eb : body σ1 h2 with
            | nx a b => exact absurd eb (n1 a b)
            | ct a b => exact absurd eb (n2 a b)
            | bk a b => exact absurd eb (n3 a b)
            | stuck => rw [eb] at q2; exact q2
            | rt a b => rw [eb] at q2; exact q2
            | ex a b c => rw [eb] at q2; exact q2
        · exact q.elim
      · rw [if_neg hG] at q
        exact q.elim
    · have ei : i = ds.length := by omega
      subst ei
      rw [List.drop_length, forL] at q
      by_cases hG : G h
      · rw [if_pos hG] at q
        exact .inl ⟨w.stops H μ h st.toStp0 rh hG, q τ H μ Stp.refl rs rh⟩
      · rw [if_neg hG] at q
        exact q.elim

/-! ### list comprehensions -/
def WNever : WX := fun _ _ _ _ => False
open Classical in
noncomputable def lcL (G : AH → Prop) (g : MG) (t : MB) (m : M) (σ : AS) : List _root_.Q.D → List _root_.Q.D → AH → Res (List _root_.Q.D)
  | [], acc, h => if G h then .ok acc h else .stuck
  | d :: ds, acc, h => if G h then (match g d σ h with
    | some (σ1, h1) => match t σ1 h1 with
      | .ok true h2 => match m σ1 h2 with
        | .ok y h3 => if acc.length < 16777216 then lcL G g t m σ ds (acc ++ [y]) h3 else .stuck
        | _ => .stuck
      | .ok false h2 => lcL G g t m σ ds acc h2
      | _ => .stuck
    | none => .stuck) else .stuck
noncomputable def eLc (it : MI) (g : MG) (t : MB) (m : M) (vs : List Nat) : M := fun σ h => (it σ h).bind fun p h1 => (lcL p.2 g t m (wipeA σ vs) p.1 [] h1).bind fun ds h2 => .ok (.fro ds) h2
theorem wipe_get {τ : L2.St} : ∀ {vs : List Nat} {j : Nat}, j ∉ vs → (L2.wipe τ vs)[j]? = τ[j]?
  | [], _, _ => rfl
  | v :: vs, j, h => by
    rw [List.mem_cons, not_or] at h
    unfold L2.wipe
    rw [List.getElem?_set_ne (Ne.symm h.1)]
    exact wipe_get h.2
theorem wipe_in {τ : L2.St} : ∀ {vs : List Nat} {j : Nat}, j ∈ vs → (L2.wipe τ vs)[j]? = if j < τ.length then some none else none
  | [], _, h => by cases h
  | v :: vs, j, h => by
    unfold L2.wipe
    by_cases hv : v = j
    · subst hv
      by_cases hl : v < τ.length
      · rw [List.getElem?_set_self (by rw [wipe_length]; exact hl), if_pos hl]
      · rw [if_neg hl, List.getElem?_eq_none (by rw [List.length_set, wipe_length]; omega)]
    · rw [List.getElem?_set_ne hv]
      rcases List.mem_cons.mp h with e | e
      · exact absurd e.symm hv
      · exact wipe_in e
theorem wipe_ext {τ τ' : L2.St} {vs : List Nat} (hl : τ'.length = τ.length) (h : ∀ j, j ∉ vs → τ'[j]? = τ[j]?) : L2.wipe τ' vs = L2.wipe τ vs := by
  apply List.ext_getElem?
  intro j
  by_cases hj : j ∈ vs
  · rw [wipe_in hj, wipe_in hj, hl]
  · rw [wipe_get hj, wipe_get hj, h j hj]
theorem Stp.poke_new {H' : Hp} {μ' : Mu} {A : Addr} {u : HO} (s : Stp μ μ' H H') (hA : H A = none) : Stp μ μ' H (upd H' A u) :=
  ⟨⟨s.pre, s.new, fun a o e n => by rw [upd_ne (ne_of_none e hA)]; exact s.keep a o e n⟩, s.fz, fun a o m e => by rw [upd_ne (ne_of_none e hA)]; exact s.hid a o m e⟩
theorem Res.bind_ok_inv {α β : Type} {r : Res α} {f : α → AH → Res β} : True := trivial
theorem lc_go {it : MI} {g : MG} {t : MB} {m : M} {vs is : List Nat} (his : ∀ j, j ∈ is → j ∈ vs) : ∀ τ H Q, tE X W (eLc it g t m vs) τ H Q → tLc (tI X W it) (tGt X g is) (tT X WNever t) (tE X WNever m) vs τ H Q := fun τ H Q ⟨σ, h, μ, rs, rh, q⟩ =>
  go rs rh q fun p h1 J H1 μ1 s1 rs1 rh1 w q1 A hA => by
    obtain ⟨ds, G⟩ := p
    have hA1 : upd H1 A (.lst []) A = some (.lst []) := upd_same
    let Inv' : Nat → Hp → Prop := fun i H => ∃ h μ acc xs, Stp0 μ1 μ H1 H ∧ Stp μ1 ⟨μ.l, μ1.f⟩ H1 H ∧ μ.f = A :: μ1.f ∧ RelH X.prog X.w X.K H μ h ∧ H A = some (.lst xs) ∧ RDs X.K H μ acc xs ∧
      Post X W τ H1 μ1 (RD X.K) Q ((lcL G g t m (wipeA σ vs) (ds.drop i) acc h).bind fun ds h2 => .ok (.fro ds) h2)
    refine ⟨fun i m' H => m' = ds.length - i ∧ i ≤ ds.length ∧ Inv' i H, ⟨ds.length, rfl, Nat.zero_le _, h1, μ1.hide A, [], [], Stp0.hide hA, Stp.laid hA, rfl, rh1.hide hA, hA1, .nil, ?_⟩, ?_⟩
    · rw [List.drop_zero]; exact q1
    rintro i m' H ⟨rfl, hi, h, μ, acc, xs, st0, st, hf, rh, hHA, racc, q⟩
    have mA : A ∈ μ.f := by rw [hf]; exact List.mem_cons_self
    by_cases hlt : i < ds.length
    · rw [List.drop_eq_getElem_cons hlt, lcL] at q
      by_cases hG : G h
      · rw [if_pos hG] at q
        refine .inr ⟨w.goes i H μ h hlt st0 rh hG, Inv' (i + 1), fun H' p' => ⟨ds.length - (i + 1), by omega, rfl, hlt, p'⟩, fun x H' y => ?_⟩
        obtain ⟨d, ed, st', rh', rd⟩ := w.yields i H μ h x H' hlt st0 rh hG y
        have ed' : ds[i] = d := by
          rw [List.getElem?_eq_getElem hlt] at ed
          exact Option.some.inj ed
        rw [ed'] at q
        have rs0 : RelS X.K H' μ σ τ := ⟨rs1.1, fun i d e => let ⟨v, a, b⟩ := rs1.2 i d e; ⟨v, a, b.stp0 (st0.trans st'.toStp0)⟩⟩
        refine ⟨d, wipeA σ vs, h, μ, rs0.wipe vs, rh', rd, ?_⟩
        cases eg : g d (wipeA σ vs) h with
        | none => rw [eg] at q; exact q.elim
        | some p =>
          obtain ⟨σ1, h2⟩ := p
          rw [eg] at q
          refine ⟨σ1, h2, rfl, fun τ2 H2 μ2 st2 rs2 rh2 hl2 f2 => ⟨?_, σ1, h2, μ2, rs2, rh2, ?_⟩⟩
          · have e1 : L2.wipe τ2 vs = L2.wipe (L2.wipe τ vs) vs := wipe_ext hl2 fun j hj => f2 j fun z => hj (his j z)
            rw [e1]
            exact wipe_ext (wipe_length _ _) fun j hj => wipe_get hj
          dsimp only at q
          cases et : t σ1 h2 with
          | stuck => rw [et] at q; exact q.elim
          | ex e h3 => rw [et] at q; exact q.elim
          | ok k h3 =>
            rw [et] at q
            intro b H3 μ3 st3 rh3 rb
            cases (show k = b from rb)
            cases k with
            | false =>
              rw [if_neg Bool.false_ne_true]
              have sta := (st'.trans st2).trans st3
              exact ⟨h3, μ3, acc, xs, st0.trans sta.toStp0, st.within (f := μ1.f) hA hf sta rh3.dj, sta.fz.trans hf, rh3, sta.hid _ _ mA hHA, racc.stp sta, q⟩
            | true =>
              rw [if_pos rfl]
              refine ⟨σ1, h3, μ3, rs2.stp st3, rh3, ?_⟩
              dsimp only at q
              cases em : m σ1 h3 with
              | stuck => rw [em] at q; exact q.elim
              | ex e h4 => rw [em] at q; exact q.elim
              | ok yd h4 =>
                rw [em] at q
                intro v H4 μ4 st4 rh4 rv
                dsimp only at q
                by_cases hl : acc.length < 16777216
                · rw [if_pos hl] at q
                  have sta := ((st'.trans st2).trans st3).trans st4
                  have hA4 := sta.hid _ _ mA hHA
                  have mA4 : A ∈ μ4.f := by rw [sta.fz]; exact mA
                  have pk : Stp0 μ4 μ4 H4 (upd H4 A (.lst (xs ++ [v]))) := Stp0.poke mA4
                  refine ⟨xs, hA4, by rw [sizeLine_eq, racc.length]; exact hl, h4, μ4, acc ++ [yd], xs ++ [v], (st0.trans sta.toStp0).trans pk, (st.within (f := μ1.f) hA hf sta rh4.dj).poke_new hA, sta.fz.trans hf, rh4.poke mA4, upd_same, ?_, q⟩
                  exact ((racc.stp sta).append (.cons rv .nil)).stp0 pk
                · rw [if_neg hl] at q
                  exact q.elim
      · rw [if_neg hG] at q
        exact q.elim
    · have ei : i = ds.length := by omega
      subst ei
      rw [List.drop_length, lcL] at q
      by_cases hG : G h
      · rw [if_pos hG] at q
        refine .inl ⟨w.stops H μ h st0 rh hG, q _ H _ st (rh.show fun a m => by rw [hf]; exact List.mem_cons_of_mem _ m) ?_⟩
        have sh : Stp0 μ ⟨μ.l, μ1.f⟩ H H := Stp0.show fun a m => by rw [hf]; exact List.mem_cons_of_mem _ m
        refine .fro hHA (fun z => ?_) (racc.stp0 sh)
        rcases z with z | z
        · exact rh.dj A z mA
        · obtain ⟨u, e⟩ := rh1.fo A z
          rw [hA] at e; cases e
      · rw [if_neg hG] at q
        exact q.elim
def QTs (X : Cx) (W : WX) (t : MB) (es : List Expr) : Prop := PTs X es (tT X W t)
def tYesM : MB := fun _ h => .ok true h
theorem qts_nil : QTs X W tYesM [] := ⟨fun pins s τ H Q I ⟨σ, h, μ, rs, rh, q⟩ => pts_nil.run pins s τ H Q I (q.now rh rfl)⟩
theorem qts_one {t : MB} {c : Expr} (h : QT X W t c) : QTs X W t [c] := pts_one h
variable {N : List Str}
theorem q_lc {it : MI} {g : MG} {t : MB} {m : M} {is : List Nat} {elt tg iter : Expr} {ifs : List Expr} {scope : Scope} {own : List (Str × Nat)} {pos : Pos} (hc : X.calm = true) (hN : X.N.Nodup) (hi : QI X W tg it iter) (ok : BlkOk X.N X.env.scope scope own)
    (hg : ∀ (s : Shared) (H : Hp) (C : Addr) (cl : List (Str × Addr)) (fp : List Addr), QG (X.blk s H scope (compEnvC scope cl C X.env) fp) g is tg) (ht : ∀ (s : Shared) (H : Hp) (C : Addr) (cl : List (Str × Addr)) (fp : List Addr), QTs (X.blk s H scope (compEnvC scope cl C X.env) fp) WNever t ifs)
    (he : ∀ (s : Shared) (H : Hp) (C : Addr) (cl : List (Str × Addr)) (fp : List Addr), QE (X.blk s H scope (compEnvC scope cl C X.env) fp) WNever m elt) (his : ∀ j, j ∈ is → j ∈ own.map (·.2) := by decide) (hs : ∀ x, foldedSetIterable iter X.env x = pure x := by intro _; rfl) :
    QE X W (eLc it g t m (own.map (·.2))) (.ListComp elt [⟨tg, iter, ifs, 0⟩] scope pos) :=
  QE.of (pe_lc hc hN hi ok (g := tGt X g is) (tt := tT X WNever t) (te := tE X WNever m) hg ht he hs) (lc_go his)
/-- name = [..] -/
theorem qs_setLc {it : MI} {g : MG} {t : MB} {m : M} {is : List Nat} {i : Nat} {y : Str} {py : Pos} {elt tg iter : Expr} {ifs : List Expr} {scope : Scope} {own : List (Str × Nat)} {pos spos : Pos} (hc : X.calm = true) (hN : X.N.Nodup) (hy : X.N[i]? = some y) (hyl : X.env.scope.names.lookup y = some .local)
    (hsw : swapsWith (.ListComp elt [⟨tg, iter, ifs, 0⟩] scope pos) (some (.Name y py)) spos.line X.env = pure true) (hi : QI X W tg it iter) (ok : BlkOk X.N X.env.scope scope own)
    (hg : ∀ (s : Shared) (H : Hp) (C : Addr) (cl : List (Str × Addr)) (fp : List Addr), QG (X.blk s H scope (compEnvC scope cl C X.env) fp) g is tg) (ht : ∀ (s : Shared) (H : Hp) (C : Addr) (cl : List (Str × Addr)) (fp : List Addr), QTs (X.blk s H scope (compEnvC scope cl C X.env) fp) WNever t ifs)
    (he : ∀ (s : Shared) (H : Hp) (C : Addr) (cl : List (Str × Addr)) (fp : List Addr), QE (X.blk s H scope (compEnvC scope cl C X.env) fp) WNever m elt) (his : ∀ j, j ∈ is → j ∈ own.map (·.2) := by decide) (hs : ∀ x, foldedSetIterable iter X.env x = pure x := by intro _; rfl) :
    QS X W (sAsg (eLc it g t m (own.map (·.2))) (gSlot i)) (.Assign [.Name y py] (.ListComp elt [⟨tg, iter, ifs, 0⟩] scope pos) spos) :=
  PS.of (ps_setLc hc hN hy hyl hsw hi ok (g := tGt X g is) (tt := tT X WNever t) (te := tE X WNever m) hg ht he hs) fun D τ H ⟨σ, h, μ, rs, rh, q⟩ =>
    lc_go his τ H _ (goS rs rh q fun d h1 v H1 μ1 s1 rs1 rh1 rd q1 => q1 _ H1 μ1 Stp.refl (rs1.set rd i) rh1)
end
end Q

/-! Q10: the program's own defs. -/
namespace Q
open PySem PySem.Spec PyProof.Rows L2

mutual
/-- no reference to a changing object from n on -/
def closed (n : Nat) : D → Bool
  | .ref k => decide (k < n)
  | .tup ds => closeds n ds
  | .fro ds => closeds n ds
  | .scr ds => closeds n ds
  | .non => true
  | .bl _ => true
  | .int _ => true
  | .str _ => true
  | .exn _ _ _ _ xs => closeds n xs
def closeds (n : Nat) : List D → Bool
  | [] => true
  | d :: ds => closed n d && closeds n ds
end
def closedO (n : Nat) : O → Bool
  | .lst ds => closeds n ds
  | .dk kvs => kvs.all fun p => closed n p.2
  | .dt kvs => kvs.all fun p => closed n p.1 && closed n p.2
def okT (h h' : AH) : Prop := ∀ o ∈ h'.take h.length, o ∈ h ∨ closedO h.length o = true
def froOf (b : Bool) (n : Nat) (h' : AH) : D → Option D
  | .ref k => if b = true ∧ n ≤ k then (listAt h' k).map .fro else none
  | _ => none
open Classical in
/-- what a call leaves: the callee's own changing objects, which nothing refers to, are forgotten; a list that comes back stands still (b) -/
noncomputable def trimR (h : AH) (b : Bool) : Res D → Res D
  | .ok d h' => if h'.length = h.length then .ok d h' else if okT h h' ∧ closed h.length d = true then .ok d (h'.take h.length) else match froOf b h.length h' d with
    | some e => if okT h h' ∧ closed h.length e = true then .ok e (h'.take h.length) else .ok d h'
    | none => .ok d h'
  | r => r
open Classical in
theorem trimR_ok {h h' : AH} {b : Bool} {d : D} : trimR h b (.ok d h') = if h'.length = h.length then .ok d h' else if okT h h' ∧ closed h.length d = true then .ok d (h'.take h.length) else match froOf b h.length h' d with
    | some e => if okT h h' ∧ closed h.length e = true then .ok e (h'.take h.length) else .ok d h'
    | none => .ok d h' := rfl
theorem trim_same {h h' : AH} {b : Bool} {d : D} (e : h'.length = h.length) : trimR h b (.ok d h') = .ok d h' := by
  rw [trimR_ok]
  rw [if_pos e]
theorem trim_ex {h h' : AH} {b : Bool} {e : Ex} : trimR h b (.ex e h') = .ex e h' := rfl
theorem trim_drop {h h1 g : AH} {b : Bool} {d : D} (e : h1.length = h.length) (ho : ∀ o ∈ h1, o ∈ h ∨ closedO h.length o = true) (hd : closed h.length d = true) : trimR h b (.ok d (h1 ++ g)) = .ok d h1 := by
  rw [trimR_ok]
  have ht : (h1 ++ g).take h.length = h1 := by rw [← e, List.take_left]
  by_cases hl : (h1 ++ g).length = h.length
  · rw [if_pos hl]
    have hg : g = [] := by
      rw [List.length_append] at hl
      exact List.length_eq_zero_iff.mp (by omega)
    rw [hg, List.append_nil]
  · rw [if_neg hl, if_pos ⟨fun o m => ho o (by rw [ht] at m; exact m), hd⟩, ht]
theorem trim_fro {h h1 g : AH} {k : Nat} {ds : List D} (e : h1.length = h.length) (ho : ∀ o ∈ h1, o ∈ h ∨ closedO h.length o = true) (hk : g[k]? = some (.lst ds)) (hd : closeds h.length ds = true) : trimR h true (.ok (.ref (h.length + k)) (h1 ++ g)) = .ok (.fro ds) h1 := by
  rw [trimR_ok]
  have ht : (h1 ++ g).take h.length = h1 := by rw [← e, List.take_left]
  have hg : 0 < g.length := Nat.lt_of_le_of_lt (Nat.zero_le k) (List.getElem?_eq_some_iff.mp hk).1
  have hn : ¬ (h1 ++ g).length = h.length := by rw [List.length_append]; omega
  have hc : ¬ closed h.length (.ref (h.length + k)) = true := by simp [closed]
  rw [if_neg hn, if_neg fun z => hc z.2]
  have hf : froOf true h.length (h1 ++ g) (.ref (h.length + k)) = some (.fro ds) := by
    simp only [froOf, true_and, Nat.le_add_right, if_true, listAt]
    rw [List.getElem?_append_right (by omega), e, Nat.add_sub_cancel_left, hk]
    rfl
  rw [hf]
  exact (if_pos ⟨fun o m => ho o (by rw [ht] at m; exact m), by rw [closed]; exact hd⟩).trans (by rw [ht])
theorem trim_keep {h h' : AH} {d : D} (hd : closed h.length d = false) : trimR h false (.ok d h') = .ok d h' := by
  rw [trimR_ok]
  by_cases hl : h'.length = h.length
  · rw [if_pos hl]
  · rw [if_neg hl, if_neg fun z => by rw [hd] at z; exact Bool.false_ne_true z.2]
    have hf : froOf false h.length h' d = none := by
      unfold froOf
      split
      · rw [if_neg fun z => Bool.false_ne_true z.1]
      · rfl
    rw [hf]
/-- the result of a body -/
def retOf : Out → Res D
  | .nx _ h => .ok .non h
  | .rt d h => .ok d h
  | .ex e _ h => .ex e h
  | _ => .stuck
@[simp] theorem retOf_nx (σ : AS) (h : AH) : retOf (.nx σ h) = .ok .non h := rfl
@[simp] theorem retOf_rt (d : D) (h : AH) : retOf (.rt d h) = .ok d h := rfl
@[simp] theorem retOf_ex (e : Ex) (σ : AS) (h : AH) : retOf (.ex e σ h) = .ex e h := rfl
/-- the mirror of a def: n parameters, N names -/
noncomputable def fnR (b : Bool) (n N : Nat) (body : MS) (ds : List D) (h : AH) : Res D := if ds.length = n then trimR h b (retOf (body (ds.map some ++ List.replicate (N - n) none) h)) else .stuck

section
variable {P : Program} {w : World} {K : PySem.W.Frag} {H H' : Hp} {μ μ' : Mu} {h h' : AH}
mutual
theorem RD.closed : ∀ {d : D} {v : V}, RD K H μ d v → Q.closed μ.l.length d = true
  | .non, _, _ => rfl
  | .bl _, _, _ => rfl
  | .int _, _, _ => rfl
  | .str _, _, _ => rfl
  | .tup ds, _, r => by cases r with | tup t rr => rw [Q.closed]; exact RDs.closed rr
  | .fro ds, _, r => by cases r with | fro t n rr => rw [Q.closed]; exact RDs.closed rr
  | .scr ds, _, r => by cases r with | scr t rr => rw [Q.closed]; exact RDs.closed rr
  | .ref n, _, r => by
    cases r with
    | ref e => rw [Q.closed]; exact decide_eq_true (List.getElem?_eq_some_iff.mp e).1
  | .exn _ _ _ _ xs, _, r => by cases r with | exn t n rr => rw [Q.closed]; exact RDs.closed rr
theorem RDs.closed : ∀ {ds : List D} {vs : List V}, RDs K H μ ds vs → closeds μ.l.length ds = true
  | [], _, _ => rfl
  | d :: ds, _, r => by cases r with | cons r1 r2 => rw [closeds, RD.closed r1, RDs.closed r2]; rfl
end
theorem RelO.closed {o : O} {a : Addr} (r : RelO P w K H μ o a) : closedO μ.l.length o = true := by
  cases r with
  | lst e rr => exact rr.closed
  | dk e rr =>
    rename_i kvs qs
    show kvs.all _ = true
    unfold RKV at rr
    clear e
    induction rr with
    | nil => rfl
    | cons r1 t ih => rw [List.all_cons, ih, r1.2.closed]; rfl
  | dt e hz hl rr hn =>
    rename_i kvs xs
    show kvs.all _ = true
    clear e hn hl
    induction rr with
    | nil => rfl
    | cons r1 t ih =>
      obtain ⟨v, _, rv⟩ := r1.val
      rw [List.all_cons, ih, r1.rk.closed, rv.closed]; rfl
/-- the callee's objects forgotten -/
theorem rd_back (s : Stp μ μ' H H') : ∀ {d : D} {v : V}, RD K H' μ' d v → closed μ.l.length d = true → RD K H' μ d v := by
  have hl : ∀ k a, k < μ.l.length → μ'.l[k]? = some a → μ.l[k]? = some a := fun k a hk e => by
    have h1 := List.getElem?_eq_getElem hk
    have h2 := s.pre k _ h1
    rw [e] at h2; cases h2
    exact h1
  have hm : ∀ a, a ∉ μ' → a ∉ μ := fun a n m => n (by
    rcases m with m | m
    · obtain ⟨k, e⟩ := List.mem_iff_getElem?.mp m
      exact mem_at (s.pre k a e)
    · exact .inr (by rw [s.fz]; exact m))
  have tt : ∀ {a xs}, TupAt K H' μ' a xs → TupAt K H' μ a xs := fun t => t.imp (fun z => ⟨z.1, hm _ z.2⟩) id
  have ll : ∀ {a xs}, LstAt K H' μ' a xs → LstAt K H' μ a xs := fun t => t.imp (fun z => ⟨z.1, hm _ z.2⟩) id
  intro d v
  induction d using D.rec (motive_2 := fun ds => ∀ {vs}, RDs K H' μ' ds vs → closeds μ.l.length ds = true → RDs K H' μ ds vs) generalizing v with
  | non => intro r _; cases r; exact .non
  | bl b => intro r _; cases r; exact .bl b
  | int b => intro r _; cases r; exact .int b
  | str b => intro r _; cases r; exact .str b
  | tup ds ih => intro r c; rw [closed] at c; cases r with | tup t rr => exact .tup (tt t) (ih rr c)
  | fro ds ih => intro r c; rw [closed] at c; cases r with | fro t n rr => exact .fro t (hm _ n) (ih rr c)
  | scr ds ih => intro r c; rw [closed] at c; cases r with | scr t rr => exact .scr (ll t) (ih rr c)
  | ref k => intro r c; rw [closed] at c; cases r with | ref e => exact .ref (hl _ _ (of_decide_eq_true c) e)
  | exn a d c ns xs ih => intro r c; rw [closed] at c; cases r with | exn t n rr => exact .exn t (hm _ n) (ih rr c)
  | nil => rename_i vs r _; cases r; exact .nil
  | cons d ds ih1 ih2 =>
    rename_i vs r c
    rw [closeds, Bool.and_eq_true] at c
    cases r with
    | cons r1 r2 => exact .cons (ih1 r1 c.1) (ih2 r2 c.2)
theorem rds_back (s : Stp μ μ' H H') : ∀ {ds : List D} {vs : List V}, RDs K H' μ' ds vs → closeds μ.l.length ds = true → RDs K H' μ ds vs
  | [], _, r, _ => by cases r; exact .nil
  | d :: ds, _, r, c => by
    rw [closeds, Bool.and_eq_true] at c
    cases r with
    | cons r1 r2 => exact .cons (rd_back s r1 c.1) (rds_back s r2 c.2)
theorem relO_back (s : Stp μ μ' H H') {o : O} {a : Addr} (r : RelO P w K H' μ' o a) (c : closedO μ.l.length o = true) : RelO P w K H' μ o a := by
  cases r with
  | lst e rr => exact .lst e (rds_back s rr c)
  | dk e rr =>
    rename_i kvs qs
    refine .dk e ?_
    unfold RKV at rr ⊢
    replace c : kvs.all (fun p => closed μ.l.length p.2) = true := c
    clear e
    induction rr with
    | nil => exact .nil
    | cons r1 t ih =>
      rw [List.all_cons, Bool.and_eq_true] at c
      exact .cons ⟨r1.1, rd_back s r1.2 c.1⟩ (ih c.2)
  | dt e hz hl rr hn =>
    rename_i kvs xs
    refine .dt e hz hl ?_ hn
    replace c : kvs.all (fun p => closed μ.l.length p.1 && closed μ.l.length p.2) = true := c
    clear e hn hl
    induction rr with
    | nil => exact .nil
    | cons r1 t ih =>
      rw [List.all_cons, Bool.and_eq_true, Bool.and_eq_true] at c
      obtain ⟨v, rv, rd⟩ := r1.val
      exact .cons ⟨r1.key, r1.dep, rd_back s r1.rk c.1.1, v, rv, rd_back s rd c.1.2⟩ (ih c.2)
theorem stp_back (s : Stp μ μ' H H') : Stp μ μ H H' := ⟨⟨fun _ _ z => z, fun _ m n => absurd m n, s.keep⟩, rfl, s.hid⟩
theorem relH_back (s : Stp μ μ' H H') (r0 : RelH P w K H μ h) (r : RelH P w K H' μ' h') (c : okT h h') : RelH P w K H' μ (h'.take h.length) where
  len := by
    have h1 : μ.l.length ≤ μ'.l.length := by
      cases hl : μ.l.length with
      | zero => exact Nat.zero_le _
      | succ n =>
        have h2 := s.pre n _ (List.getElem?_eq_getElem (by omega : n < μ.l.length))
        exact (List.getElem?_eq_some_iff.mp h2).1
    rw [List.length_take, ← r.len, ← r0.len]
    omega
  nd := r0.nd
  dj := r0.dj
  fo := fun a m => let ⟨u, e⟩ := r0.fo a m; ⟨u, s.hid a u m e⟩
  obj := fun n o a e1 e2 => by
    have hn : n < h.length := by rw [← r0.len]; exact (List.getElem?_eq_some_iff.mp e2).1
    have e3 : h'[n]? = some o := by rw [List.getElem?_take_of_lt hn] at e1; exact e1
    have ro := r.obj n o a e3 (s.pre n a e2)
    refine relO_back s ro ?_
    rw [r0.len]
    rcases c o (List.mem_of_getElem? e1) with m | m
    · obtain ⟨k, ek⟩ := List.mem_iff_getElem?.mp m
      obtain ⟨b, _, rb⟩ := r0.addr ek
      have := rb.closed
      rw [r0.len] at this
      exact this
    · exact m
end

section
variable {P : Program} {w : World} {K : PySem.W.Frag} {mg : Str → Option Value} {base : Heap} {CX : CXT} {x qual : Str} {params : Arguments} {ss : List Stmt} {scope : Scope} {dvs : List V} {kws : List (Str × V)} {f : Addr} {fd : FuncData}
/-- what a def lets out, in its own context -/
abbrev WFn (E : XK) : WX := fun cls d _ H => E cls d H
/-- the promise of a mirror, as a reading of its body -/
theorem sp_body {X : Cx} {E : XK} {N : List Str} {n : Nat} {b : Bool} {body : MS} {vs : List V} {H : Hp} {Q : VK} (hsp : spOf X.prog X.w X.K X.mg (fnR b n N.length body) vs H Q E) : tXS X (WFn E) body { nx := fun _ H' => Q .non H', rt := Q } (L2.start N vs) H := by
  have hvl : vs.length = n := by
    obtain ⟨ds, μ, h, rh, rds, q⟩ := hsp
    rw [rds.length]
    unfold fnR at q
    by_cases hl : ds.length = n
    · exact hl
    · rw [if_neg hl] at q
      exact q.elim
  obtain ⟨ds, μ, h, rh, rds, q⟩ := hsp
  have hl : ds.length = n := by rw [← rds.length]; exact hvl
  unfold fnR at q
  rw [if_pos hl] at q
  refine ⟨ds.map some ++ List.replicate (N.length - n) none, h, μ, ⟨?_, fun i d e => ?_⟩, rh, ?_⟩
  · show _ = (L2.start N vs).length
    unfold L2.start
    simp [hl, hvl]
  · by_cases hi : i < ds.length
    · rw [List.getElem?_append_left (by simpa using hi), List.getElem?_map] at e
      cases ed : ds[i]? with
      | none => rw [ed] at e; cases e
      | some d' =>
        rw [ed] at e
        cases e
        obtain ⟨v, ev, rv⟩ := rds.get ed
        refine ⟨v, ?_, rv⟩
        unfold L2.start
        have hiv : i < vs.length := by rw [rds.length]; exact hi
        rw [List.getElem?_append_left (by simpa using hiv), List.getElem?_map, ev]
        rfl
    · rw [List.getElem?_append_right (by simpa using hi)] at e
      have := List.mem_replicate.mp (List.mem_of_getElem? e)
      cases this.2
  · cases eb : body (ds.map some ++ List.replicate (N.length - n) none) h with
    | stuck => rw [eb] at q; exact q
    | bk a c => rw [eb] at q; exact q.elim
    | ct a c => rw [eb] at q; exact q.elim
    | ex e a c =>
      rw [eb] at q
      exact fun cls dd τ H' μ' s' _ rh' rx => q cls dd H' μ' s' rh' rx
    | nx a h' =>
      rw [eb] at q
      intro τ H' μ' s' rs' rh'
      show Q .non H'
      have qq : PostF X.prog X.w X.K X.mg H μ Q E (trimR h b (.ok .non h')) := q
      rw [trimR_ok] at qq
      by_cases h1 : h'.length = h.length
      · rw [if_pos h1] at qq
        exact qq .non H' μ' s' rh' .non
      · rw [if_neg h1] at qq
        by_cases h2 : okT h h' ∧ closed h.length .non = true
        · rw [if_pos h2] at qq
          exact qq .non H' μ (stp_back s') (relH_back s' rh rh' h2.1) .non
        · rw [if_neg h2] at qq
          exact qq .non H' μ' s' rh' .non
    | rt d h' =>
      rw [eb] at q
      intro v H' μ' s' rh' rd
      show Q v H'
      have qq : PostF X.prog X.w X.K X.mg H μ Q E (trimR h b (.ok d h')) := q
      rw [trimR_ok] at qq
      by_cases h1 : h'.length = h.length
      · rw [if_pos h1] at qq
        exact qq v H' μ' s' rh' rd
      · rw [if_neg h1] at qq
        by_cases h2 : okT h h' ∧ closed h.length d = true
        · rw [if_pos h2] at qq
          exact qq v H' μ (stp_back s') (relH_back s' rh rh' h2.1) (rd_back s' rd (by rw [rh.len]; exact h2.2))
        · rw [if_neg h2] at qq
          split at qq
          · rename_i e ef
            by_cases h3 : okT h h' ∧ closed h.length e = true
            · rw [if_pos h3] at qq
              refine qq v H' μ (stp_back s') (relH_back s' rh rh' h3.1) ?_
              unfold froOf at ef
              split at ef
              · split at ef
                · rename_i k' hk
                  obtain ⟨es, ee, rfl⟩ := Option.map_eq_some_iff.mp ef
                  cases rd with
                  | @ref _ a hm =>
                    cases rh'.obj _ _ _ (listAt_some ee) hm with
                    | lst ha rr =>
                      have hc := h3.2
                      rw [closed] at hc
                      refine .fro ha (fun m => ?_) (rds_back s' rr (by rw [rh.len]; exact hc))
                      rcases m with m | m
                      · obtain ⟨j, ej⟩ := List.mem_iff_getElem?.mp m
                        have ej' := s'.pre j _ ej
                        obtain ⟨g1, g2⟩ := List.getElem?_eq_some_iff.mp ej'
                        obtain ⟨g3, g4⟩ := List.getElem?_eq_some_iff.mp hm
                        have ejk := (List.getElem_inj rh'.nd).mp (g2.trans g4.symm)
                        have hj : j < h.length := by rw [← rh.len]; exact (List.getElem?_eq_some_iff.mp ej).1
                        have := hk.2
                        omega
                      · exact rh'.dj a (List.mem_of_getElem? hm) (by rw [s'.fz]; exact m)
                · cases ef
              · cases ef
            · rw [if_neg h3] at qq
              exact qq v H' μ' s' rh' rd
          · exact qq v H' μ' s' rh' rd
/-- a def keeps the promise of its mirror -/
theorem fn_ok {N ps : List Str} {k : Nat} {b : Bool} {body : MS} (F : FunD K x qual params ss scope dvs kws f fd) (S : FnScope N ps scope)
    (hbody : ∀ (cdv : Value) (A : Around) (outer : List Env) (s : Shared) (H : Hp) (E : XK), Room k (A.deeper (envOfC qual scope s.heap.objs.size f cdv)) → QSs (cxOf CX P w K mg base N qual scope f cdv A outer s H E) (WFn E) body ss) :
    FnOk P w K mg base CX (k + 1) f fd ps (spOf P w K mg (fnR b ps.length N.length body)) := by
  have hlen : ∀ vs H Q E, spOf P w K mg (fnR b ps.length N.length body) vs H Q E → vs.length = ps.length := fun vs H Q E ⟨ds, μ, h, rh, rds, q⟩ => by
    rw [rds.length]
    unfold fnR at q
    by_cases hl : ds.length = ps.length
    · exact hl
    · rw [if_neg hl] at q
      exact q.elim
  refine F.ok S hlen fun cdv A outer s H vs Q E hr hsp => ⟨_, hbody cdv A outer s H E hr, sp_body (X := cxOf CX P w K mg base N qual scope f cdv A outer s H E) hsp⟩
/-- a def as it stands: its promise by the mirror f; dfl fills up what a call leaves out -/
def Def (P : Program) (w : World) (K : PySem.W.Frag) (mg : Str → Option Value) (base : Heap) (CX : CXT) (k : Nat) (x : Str) (dfl : List D) (f : List D → AH → Res D) : Prop :=
  ∃ (fa : Addr) (fd : FuncData) (ps : List Str) (dvs : List V) (us : List Value), FnOk P w K mg base CX k fa fd ps (spOf P w K mg f) ∧ mg x = some (.ref fa) ∧ PySem.W.keepIn K (.ref fa) = true ∧ Binds K fd ps us ∧ Vals dvs us ∧ ∀ H μ, RDs K H μ dfl dvs
theorem Def.cal {X : Cx} {W : WX} {k : Nat} {x : Str} {dfl : List D} {f : List D → AH → Res D} (d : Def X.prog X.w X.K X.mg X.base CX k x dfl f) (hr : Room k X.A) (hx : ∀ σ, PassesAt CX X σ (WE W σ)) : Cal X W x dfl f := by
  obtain ⟨fa, fd, ps, dvs, us, F, h1, h2, h3, h4, h5⟩ := d
  exact ⟨k, fa, fd, ps, dvs, us, CX, F, hr, h1, h2, h3, h4, h5, hx⟩
theorem pass0At {X : Cx} {W : WX} (σ : L2.St) : PassesAt CX0 X σ (WE W σ) := fun _ _ _ _ _ _ h => h.elim
end
end Q

/-! Q11: short forms for printed texts. -/
namespace Q
open PySem PySem.Spec PyProof.Rows L2
section
variable {X : Cx} {W : WX} {pos pos' : Pos}
theorem qv (i : Nat) {x : Str} (hN : X.N[i]? = some x := by rfl) (hv : Vis X.env.scope x := by first | exact Or.inl rfl | exact Or.inr (Or.inl rfl) | exact Or.inr (Or.inr rfl)) (hd : (x == ("__debug__" : Str)) = false := by decide)
    (hcd : (x == ("__classdict__" : Str)) = false := by decide) : QE X W (eVar i) (.Name x pos) := q_var hN hv hd hcd
theorem qgn {i : Nat} {x : Str} (hN : X.N.Nodup) (hi : X.N[i]? = some x := by rfl) (hx : Loc X.env.scope x := by first | exact Or.inl rfl | exact Or.inr rfl) (hf : X.fn x = true ∨ X.env.scope.names.lookup x = some .local := by first | exact .inl rfl | exact .inr rfl | assumption) : QG X (gSlot i) [i] (.Name x pos) := qg_name hN hi hx hf
theorem qsn {m : M} {i : Nat} {x : Str} {e : Expr} (hN : X.N.Nodup) (hm : QE X W m e) (hi : X.N[i]? = some x := by rfl) (hx : Loc X.env.scope x := by first | exact Or.inl rfl | exact Or.inr rfl) (hs : swapsWith e (some (.Name x pos')) pos.line X.env = pure false := by rfl)
    (hf : X.fn x = true ∨ X.env.scope.names.lookup x = some .local := by first | exact .inl rfl | exact .inr rfl | assumption) : QS X W (sAsg m (gSlot i)) (.Assign [.Name x pos'] e pos) := qs_set hN hi hx hm hs hf
/-! + of any sort -/
def dPlus : F2 := fun x y h => match dAdd x y h with
  | some r => some r
  | none => dCat x y h
theorem opd_plus : OpD X (binaryOp .Add) dPlus := fun pins s σ H v u v' u' Q I rv ru ⟨x, y, μ, h, rh, rx, ry, q⟩ => by
  unfold dPlus at q
  split at q
  · rename_i r e
    exact opd_add pins s σ H v u v' u' Q I rv ru ⟨x, y, μ, h, rh, rx, ry, by rw [e]; exact q⟩
  · exact opd_cat pins s σ H v u v' u' Q I rv ru ⟨x, y, μ, h, rh, rx, ry, q⟩
abbrev dPlusR : F2 := dCatR
theorem opd_plusR : OpD X (binaryOp .Add) dPlusR := opd_catR
def eNeg (a : M) : M := fun σ h => (a σ h).bind fun x h1 => match x with
  | .int i => .ok (.int (-i)) h1
  | _ => .stuck
theorem q_neg {a : M} {ea : Expr} (ha : QE X W a ea) : QE X W (eNeg a) (.UnaryOp .USub ea pos) := QE.of (pe_un un_neg ha) fun τ H Q ⟨σ, h, μ, rs, rh, q⟩ => go rs rh q fun x h1 v H1 μ1 s1 rs1 rh1 rx q1 => by
  split at q1
  · cases rx
    exact ⟨_, rfl, q1.now rh1 (.int _)⟩
  · exact q1.elim
end
theorem fnR_pos {b : Bool} {n N : Nat} {body : MS} {ds : List D} {h : AH} {σ : AS} (hl : ds.length = n) (hs : ds.map some ++ List.replicate (N - n) none = σ) : fnR b n N body ds h = trimR h b (retOf (body σ h)) := by
  rw [fnR, if_pos hl, hs]
theorem hu64 {k : Nat} {A : Around} (r : Room k A) : A.units + 64 < cLine := by have := r.un; omega
/-- a constant of the module -/
def GCm (mg : Str → Option Value) (K : PySem.W.Frag) (x : Str) (d : D) : Prop := ∃ (v : V) (u : Value), mg x = some u ∧ RelV v u ∧ ∀ H μ, RD K H μ d v
theorem Def.calE {P : Program} {w : World} {K : PySem.W.Frag} {mg : Str → Option Value} {base : Heap} {CX : CXT} {X : Cx} {W : WX} {k : Nat} {x : Str} {dfl : List D} {f : List D → AH → Res D} {A : Around} (d : Def P w K mg base CX k x dfl f) (hr : Room k A) (hx : ∀ σ, PassesAt CX X σ (WE W σ))
    (e1 : X.prog = P) (e2 : X.w = w) (e3 : X.K = K) (e4 : X.mg = mg) (e5 : X.base = base) (e6 : X.A = A) : Cal X W x dfl f := by
  subst e1 e2 e3 e4 e5 e6
  exact d.cal hr hx
/-- calls where every parameter is written -/
theorem Def.mk0 {P : Program} {w : World} {K : PySem.W.Frag} {mg : Str → Option Value} {base : Heap} {CX : CXT} {k : Nat} {x qual : Str} {params : Arguments} {body : List Stmt} {scope : Scope} {ps : List Str} {fa : Addr} {fd : FuncData} {f : List D → AH → Res D}
    (F : FunD K x qual params body scope [] [] fa fd) (ok : FnOk P w K mg base CX k fa fd ps (spOf P w K mg f)) (g : mg x = some (.ref fa))
    (h : ∀ (kV doc pm : Value) (an : Option Addr) (cdv ct : Value) (us : List Value), us.length = ps.length → bindArgs (PySem.W.fnOf x qual params body scope .none kV doc pm an cdv ct) ⟨us, []⟩ = pure (ps.zip us)) : Def P w K mg base CX k x [] f :=
  ⟨fa, fd, ps, [], [], ok, g, F.kp, F.bindsN h, .nil, fun _ _ => .nil⟩
/-- a def with defaults: n parameters are written -/
theorem Def.mk1 {P : Program} {w : World} {K : PySem.W.Frag} {mg : Str → Option Value} {base : Heap} {CX : CXT} {k : Nat} {x qual : Str} {params : Arguments} {body : List Stmt} {scope : Scope} {ps : List Str} {fa : Addr} {fd : FuncData} {f : List D → AH → Res D} {dvs : List V} {dfl : List D} (n j : Nat)
    (F : FunD K x qual params body scope dvs [] fa fd) (ok : FnOk P w K mg base CX k fa fd ps (spOf P w K mg f)) (g : mg x = some (.ref fa)) (hd : dvs ≠ []) (hn : n + (dvs.length - j) = ps.length) (hr : ∀ H μ, RDs K H μ dfl (dvs.drop j))
    (h : ∀ (T : Addr) (kV doc pm : Value) (an : Option Addr) (cdv ct : Value) (us its : List Value), us.length = n → its.length = dvs.length →
      ∃ k, bindArgs (PySem.W.fnOf x qual params body scope (.ref T) kV doc pm an cdv ct) ⟨us, []⟩ = seqItems? (.ref T) >>= k ∧ k (some its.toArray) = pure (ps.zip (us ++ its.drop j))) : Def P w K mg base CX k x dfl f := by
  obtain ⟨ds, r, b⟩ := F.binds1 n j hd hn h
  exact ⟨fa, fd, ps, _, ds, ok, g, F.kp, b, r, hr⟩
end Q
namespace Q
open PySem PySem.Spec PyProof.Rows L2
/-- the law's promise at its entry -/
theorem sp_law {P : Program} {w : World} {K : PySem.W.Frag} {mg : Str → Option Value} {f : List D → AH → Res D} {n : Nat} {H : Hp} {a : Addr} {ns : List Int} (hlaw : ∀ ns : List Int, ns.length ≤ n → ∃ h', f [.scr (ns.map .int)] [] = .ok (.bl true) h') (hl : ns.length ≤ n) (hO : Only H) (hS : SqL K H a (ns.map V.int)) :
    spOf P w K mg f [.ref a] H (fun v _ => v = .bl true) fun _ _ _ => False := by
  obtain ⟨h', e⟩ := hlaw ns hl
  refine ⟨[.scr (ns.map .int)], ⟨[], []⟩, [], ⟨rfl, List.nodup_nil, (fun a m => nomatch m), (fun a m => nomatch m), fun n o a e => by simp at e⟩, .cons (.scr ?_ (RDs.of_ints ns)) .nil, ?_⟩
  · rcases hS with h | h
    · exact .inl ⟨h, fun m => m.elim (fun z => nomatch z) fun z => nomatch z⟩
    · exact .inr h
  · rw [e]
    intro v H' μ' _ _ rd
    cases rd
    rfl
end Q

/-! Q15: exceptions of the program's own: made, raised, caught. -/
namespace Q
open PySem PySem.Spec PyProof.Rows L2
/-! ### a class's __init__ -/
/-- self.f = f for each field: what such an __init__ promises -/
def spIni (K : PySem.W.Frag) (ns : List Str) : Sp := fun vs H Q _ => ∃ (a C : Addr) (ws : List V), vs = .ref a :: ws ∧ ws.length = ns.length ∧ OexC K C ∧ (∀ f ∈ ns, PySem.W.findIn K (.ref C) f = some none) ∧ H a = some (exo a C none) ∧
  ∀ (d : Addr) (H' : Hp), H d = none → H' = upd (upd H d (exd d (ns.zip ws).reverse)) a (exo a C (some d)) → Q .non H'
section
variable {P : Program} {w : World} {K : PySem.W.Frag} {mg : Str → Option Value} {base : Heap} {fI : Addr} {fd : FuncData} {qual : Str} {params : Arguments} {scope : Scope} {ss : List Stmt}
theorem ini_one {z x f : Str} (F : FunD K "__init__" qual params ss scope [] [] fI fd) (S : FnScope [z, x] [z, x] scope)
    (hb : ∀ (cdv : Value) (A : Around) (outer : List Env) (s : Shared) (H : Hp) (E : XK), PSs (cxOf CX0 P w K mg base [z, x] qual scope fI cdv A outer s H E) ss (tOst K f (tVar 0) (tVar 1))) : FnOk P w K mg base CX0 1 fI fd [z, x] (spIni K [f]) := by
  refine F.ok S (fun vs H Q E h => ?_) fun cdv A outer s H vs Q E hr h => ⟨_, hb cdv A outer s H E, ?_⟩
  · obtain ⟨a, C, ws, rfl, hl, _⟩ := h
    simp [hl]
  · obtain ⟨a, C, ws, rfl, hl, T, hf, ha, q⟩ := h
    match ws, hl with
    | [v], _ =>
      refine ⟨_, rfl, _, rfl, a, C, rfl, T, hf f (by simp), .inl ⟨ha, fun dx hd hne => ?_⟩⟩
      exact q dx _ hd rfl
theorem ini_two {z x y f g : Str} (F : FunD K "__init__" qual params ss scope [] [] fI fd) (S : FnScope [z, x, y] [z, x, y] scope)
    (hb : ∀ (cdv : Value) (A : Around) (outer : List Env) (s : Shared) (H : Hp) (E : XK), PSs (cxOf CX0 P w K mg base [z, x, y] qual scope fI cdv A outer s H E) ss (tSeq (tOst K f (tVar 0) (tVar 1)) (tOst K g (tVar 0) (tVar 2)))) : FnOk P w K mg base CX0 1 fI fd [z, x, y] (spIni K [f, g]) := by
  refine F.ok S (fun vs H Q E h => ?_) fun cdv A outer s H vs Q E hr h => ⟨_, hb cdv A outer s H E, ?_⟩
  · obtain ⟨a, C, ws, rfl, hl, _⟩ := h
    simp [hl]
  · obtain ⟨a, C, ws, rfl, hl, T, hf, ha, q⟩ := h
    match ws, hl with
    | [v, u], _ =>
      refine ⟨_, rfl, _, rfl, a, C, rfl, T, hf f (by simp), .inl ⟨ha, fun dx hd hne => ?_⟩⟩
      refine ⟨_, rfl, _, rfl, a, C, rfl, T, hf g (by simp), .inr ⟨dx, _, upd_same, by rw [upd_ne hne]; exact upd_same, by simp, ?_⟩⟩
      refine q dx _ hd ?_
      funext b
      by_cases h1 : b = dx
      · subst h1
        rw [upd_same, upd_ne hne, upd_same]
        rfl
      · rw [upd_ne h1]
        by_cases h2 : b = a
        · subst h2
          rw [upd_same, upd_same]
        · rw [upd_ne h2, upd_ne h1, upd_ne h2, upd_ne h1]
end
/-! ### such an exception made -/
section
variable {X : Cx} {e : Expr} {es : List Expr} {ta : TA} {x : Str} {p pos : Pos} {C fI : Addr} {k : Nat} {fd : FuncData} {ps : List Str} {sp : Sp}
/-- the class is called where nothing is handled; its object's context is None -/
theorem pmk_ini (T : OexC X.K C) (hi : PySem.W.findIn X.K (.ref C) "__init__" = some (some (.ref fI))) (ht : PySem.W.typeIn X.K (.ref fI) = some (.type "function"))
    (F1 : FnOk X.prog X.w X.K X.mg X.base CX0 k fI fd ps sp) (room : Room (k + 1) X.A) (bnd : Binds X.K fd ps []) (glo : Gl X x) (mgx : X.mg x = some (.ref C)) (hargs : PA X (e :: es) ta)
    (hd : (x == ("__debug__" : Str)) = false := by decide) (hst : starEach (e :: es) X.env = (false, eval e X.env) :: starEach es X.env := by rfl) (hno : (backTo pos (starEach es X.env)).any (·.1) = false := by rfl) :
    L2N.PMk X (.Call (.Name x p) (e :: es) [] pos) (tMkO C sp [] ta) := fun pins s0 σ H Q I h => by
  obtain ⟨_, _, _, _, base', _, _, _, _, _, _, _, _, _, _, look, ve⟩ := T.cls
  refine wpAny_Call_Name_kw (ld_glob I glo mgx ?_ hd)
  refine PySem.W.callWith_K (h₀ := X.base) I.ok.mod.kin T.kC (thn (hargs.run pos pins s0 σ H _ I h) fun us sh ⟨vs, Hb, Ib, rel, small, wish⟩ => ⟨Ib.kIn, ?_⟩) hst hno
  show wpAny _ _ (call (.ref C) us) _ _ _
  obtain ⟨heap, gens, drawn, toks, osS⟩ := sh
  have le1 : heap.objs.size ≤ heap.objs.size + 1 := by omega
  have free1 : Hb (heap.objs.size + 1) = none := Ib.hok.fresh le1
  have w1 := wish (heap.objs.size + 1) free1
  rw [List.append_nil] at w1
  have keep2 : ∀ b o, heap.get? b = some o → ((heap.push (PySem.W.kdv_tup us)).push (PySem.HandSPX.excO C heap.objs.size)).get? b = some o :=
    fun b o q => Heap.get?_push_of_some _ (Heap.get?_push_of_some _ q)
  have at2 : ((heap.push (PySem.W.kdv_tup us)).push (PySem.HandSPX.excO C heap.objs.size)).get? (heap.objs.size + 1) = some (PySem.HandSPX.excO C heap.objs.size) := by
    heap_get
  have J : Inv X pins σ (upd Hb (heap.objs.size + 1) (exo (heap.objs.size + 1) C none)) ⟨(heap.push (PySem.W.kdv_tup us)).push (PySem.HandSPX.excO C heap.objs.size), gens, drawn, toks, osS⟩ :=
    Ib.laid (t' := toks) (a := heap.objs.size + 1) (o := exo (heap.objs.size + 1) C none) (h' := (heap.push (PySem.W.kdv_tup us)).push (PySem.HandSPX.excO C heap.objs.size)) keep2 le1 (exo_ok at2)
  have rel2 : Vals (V.ref (heap.objs.size + 1) :: vs) (Value.ref (heap.objs.size + 1) :: us) := .cons rfl rel
  have many : (Value.ref (heap.objs.size + 1) :: us ++ []).length = ps.length := by
    rw [List.append_nil, ← rel2.length]
    exact F1.len _ _ _ _ w1
  have few : us.length ≤ sizeLine := by
    rw [← Paired.length rel, sizeLine_eq]
    omega
  have bnd2 := bnd _ (Value.ref (heap.objs.size + 1) :: us) J.kIn many
  rw [List.append_nil] at bnd2
  refine wpAny_call (PySem.HandSPX.call_own F.excBase_ValueError (fun _ => PySem.HandSPX.refsVE_contains _ base' ve) (Ib.kIn _ _ look)
    (PySem.W.looks_findIn Ib.kIn hi) (fun self => PySem.W.bind_fn Ib.kIn self ht) few
    (codeAny_mono (F1.run _ X.stack _ _ ⟨Value.ref (heap.objs.size + 1) :: us, []⟩ (Value.ref (heap.objs.size + 1) :: us) _ _ (fun _ _ _ => False) (room.make C us []) (J.env0.make C us []) bnd2 rel2 w1) fun r sk done => ?_))
  cases r with
  | error er => exact done.elim
  | ok fl =>
    cases fl with
    | ret u =>
      obtain ⟨v, Hc, osE, bareE, unE, hokE, rv, ev, dd, fs, ea, ed, new, fin⟩ := done
      subst ev
      obtain ⟨heapE, gensE, drawnE, toksE, osE'⟩ := sk
      obtain ⟨t0, ground, K2, kG, gone, there, na⟩ := mk_end0 (d2 := drawnE) (t2 := toksE) Ib le1 keep2 unE hokE osE bareE ea ed new
      exact ⟨rv, heap.objs.size + 1, _, _, ⟨ground, gensE, drawnE, toksE, osE'⟩, _, .ref C, some dd, rfl, K2, kG, gone, there, ⟨rfl, rfl, fun vs hv => by cases hv; rfl⟩, rfl, rfl, na, rfl, bareE, raises_own T.exC T.tyC, fin⟩
    | next => exact done.elim
    | brk => exact done.elim
    | cont => exact done.elim
end
end Q

/-! Q16: raise, try. -/
namespace Q
open PySem PySem.Spec PyProof.Rows L2
/-- a class of the program's, over ValueError in the end: its fields, in the sequence of its __init__ -/
structure XCls (P : Program) (w : World) (K : PySem.W.Frag) (mg : Str → Option Value) (base : Heap) (c : Str) (ns : List Str) : Prop where
  ex : ∃ (C fI : Addr) (fd : FuncData) (ps : List Str), OexC K C ∧ XfC K C ∧ PySem.W.findIn K (.ref C) "__init__" = some (some (.ref fI)) ∧ PySem.W.typeIn K (.ref fI) = some (.type "function") ∧ FnOk P w K mg base CX0 1 fI fd ps (spIni K ns) ∧ Binds K fd ps [] ∧ mg c = some (.ref C) ∧
    ∀ f ∈ ns, PySem.W.findIn K (.ref C) f = some none
theorem zip_rev {α β : Type} : ∀ {as : List α} {bs : List β}, as.length = bs.length → as.reverse.zip bs.reverse = (as.zip bs).reverse
  | [], [], _ => rfl
  | [], _ :: _, h => by cases h
  | _ :: _, [], h => by cases h
  | a :: as, b :: bs, h => by
    rw [List.reverse_cons, List.reverse_cons, List.zip_cons_cons, List.reverse_cons, List.zip_append (by simpa using h), zip_rev (by simpa using h)]
    rfl
def sRaise (c : Str) (ns : List Str) (r : ML) : MS := fun σ h => (r σ h).andS σ fun xs h1 => if xs.length = ns.length ∧ ns.length ≤ 1000 then .ex ⟨c, ns.reverse, xs.reverse⟩ σ h1 else .stuck
section
variable {X : Cx} {W : WX} {c : Str} {ns : List Str} {r : ML} {e : Expr} {es : List Expr} {p pos pos2 : Pos}
theorem qs_raise (hc : X.calm = true) (tk : L2N.Takes X W) (xc : XCls X.prog X.w X.K X.mg X.base c ns) (room : Room 2 X.A) (ha : QA X W r (e :: es)) (hg : Gl X c := by rfl)
    (hd : (c == ("__debug__" : Str)) = false := by decide) (hst : starEach (e :: es) X.env = (false, eval e X.env) :: starEach es X.env := by rfl) (hno : (backTo pos (starEach es X.env)).any (·.1) = false := by rfl) :
    QS X W (sRaise c ns r) (.Raise (some (.Call (.Name c p) (e :: es) [] pos)) none pos2) := by
  obtain ⟨C, fI, fd, ps, T, _, hi, ht, F, bnd, mgc, nof⟩ := xc.ex
  refine PS.of (L2N.ps_raise hc tk (pmk_ini T hi ht F room bnd hg mgc ha hd hst hno)) fun D τ H ⟨σ, h, μ, rs, rh, q⟩ => goS rs rh q fun xs h1 vs H1 μ1 s1 rs1 rh1 rds q1 => ?_
  split at q1
  · rename_i hl
    have hvl : vs.length = ns.length := rds.length.trans hl.1
    refine ⟨by omega, fun a na => ⟨a, C, vs, by rw [List.append_nil], hvl, T, nof, upd_same, fun d H' hd e => ?_⟩⟩
    have da : d ≠ a := fun z => by rw [z, upd_same] at hd; cases hd
    have nd : H1 d = none := by rw [upd_ne da] at hd; exact hd
    subst e
    refine ⟨rfl, d, _, upd_same, by rw [upd_ne da]; exact upd_same, nd, ?_⟩
    have eH : upd (del (upd (upd (upd H1 a (exo a C none)) d (exd d (ns.zip vs).reverse)) a (exo a C (some d))) a) d (.xd (ns.zip vs).reverse) = upd H1 d (.xd (ns.zip vs).reverse) := by
      funext b
      by_cases h1 : b = d
      · subst h1
        rw [upd_same, upd_same]
      · rw [upd_ne h1, upd_ne h1]
        by_cases h2 : b = a
        · subst h2
          rw [del_same, na]
        · rw [del_ne h2, upd_ne h2, upd_ne h1, upd_ne h2]
    rw [eH]
    have st : Stp μ1 μ1 H1 (upd H1 d (.xd (ns.zip vs).reverse)) := Stp.laid nd
    exact q1 _ _ τ _ μ1 st (rs1.stp st) (rh1.laid nd) ⟨C, d, vs.reverse, mgc, rfl, rfl, rh1.fresh nd, by rw [upd_same, zip_rev hvl.symm], (rds.stp st).reverse⟩
  · exact q1.elim
end

/-! ### try -/
open Classical in
/-- what does not hang on where the exception lies -/
noncomputable def agree (f : Addr → Addr → Out) : Out := if ∀ a d, f a d = f 0 0 then f 0 0 else .stuck
@[simp] theorem agree_const (r : Out) : agree (fun _ _ => r) = r := if_pos fun _ _ => rfl
theorem agree_eq {f : Addr → Addr → Out} (h : agree f ≠ .stuck) (a d : Addr) : agree f = f a d := by
  unfold agree at h ⊢
  by_cases hp : ∀ a d, f a d = f 0 0
  · rw [if_pos hp, hp a d]
  · rw [if_neg hp] at h
    exact absurd rfl h
/-- behind the suite the name is gone -/
def Out.gone (i : Nat) : Out → Out
  | .nx σ h => .nx (σ.set i none) h
  | .bk σ h => .bk (σ.set i none) h
  | .ct σ h => .ct (σ.set i none) h
  | .rt d h => .rt d h
  | .ex _ _ _ => .stuck
  | .stuck => .stuck
@[simp] theorem gone_nx {i : Nat} {σ : AS} {h : AH} : (Out.nx σ h).gone i = .nx (σ.set i none) h := rfl
@[simp] theorem gone_bk {i : Nat} {σ : AS} {h : AH} : (Out.bk σ h).gone i = .bk (σ.set i none) h := rfl
@[simp] theorem gone_ct {i : Nat} {σ : AS} {h : AH} : (Out.ct σ h).gone i = .ct (σ.set i none) h := rfl
@[simp] theorem gone_rt {i : Nat} {d : D} {h : AH} : (Out.rt d h).gone i = .rt d h := rfl
/-- which classes a clause catches -/
abbrev Ct := Str → Option Bool
/-- try .. except C as n (slot i) -/
noncomputable def sTryAs (c : Ct) (i : Nat) (body : MS) (suite : Addr → Addr → Str → MS) : MS := fun σ h => match body σ h with
  | .ex e σ1 h1 => match c e.cls with
    | some true => agree fun a d => (suite a d e.cls (σ1.set i (some (.exn a d e.cls e.ns e.xs))) h1).gone i
    | some false => .ex e σ1 h1
    | none => .stuck
  | r => r
/-- the class that a clause names, and which of the program's classes are of it -/
def Clause (X : Cx) (x : Str) (c : Ct) : Prop := ∃ v, Names X x v ∧ ∀ (n : Str) (C : Addr) (b : Bool), c n = some b → X.mg n = some (.ref C) → PySem.W.exmOne X.K (.ref C) v = some b
/-- the context of a suite, as the readings know it: the exception at a, its dict at d, its class -/
structure Held (X : Cx) (a d : Addr) (c : Str) : Prop where
  ex : ∃ (oe : Obj) (C : Addr) (vs : Array Value), (a, oe) ∈ X.pn ∧ L2N.Zn (.ref C) (some d) oe ∧ oe.data = .fields vs ∧ X.mg c = some (.ref C)
theorem RelS.drop {K : PySem.W.Frag} {H : Hp} {μ : Mu} {σ : AS} {τ : L2.St} (r : RelS K H μ σ τ) (i : Nat) : RelS K H μ (σ.set i none) (τ.set i none) := by
  refine ⟨by rw [List.length_set, List.length_set]; exact r.1, fun j d e => ?_⟩
  by_cases hj : i = j
  · subst hj
    have hi : i < σ.length := by
      have := (List.getElem?_eq_some_iff.mp e).1
      simpa using this
    rw [List.getElem?_set_self hi] at e
    cases e
  · rw [List.getElem?_set_ne hj] at e ⊢
    exact r.2 j d e
section
variable {X : Cx} {W : WX} {x n : Str} {c : Ct} {i : Nat} {body suite : List Stmt} {b₀ : Stmt} {np pos pos' : Pos} {mb : MS} {ms : Addr → Addr → Str → MS}
/-- the reading of a suite -/
def tSu (X : Cx) (ms : Addr → Addr → Str → MS) : Addr → Value → Option Addr → TS := fun a cls dd D τ H => ∃ (cn : Str) (d C : Addr), cls = .ref C ∧ dd = some d ∧ X.mg cn = some (.ref C) ∧ tXS X WNever (ms a d cn) D τ H
theorem su_ok (hsu : ∀ (a d : Addr) (oe : Obj) (cn : Str) (pn : List (Addr × Obj)), Held (X.suite a ((a, oe) :: pn)) a d cn → QSs (X.suite a ((a, oe) :: pn)) WNever (ms a d cn) (b₀ :: suite)) (a : Addr) (oe : Obj) (cls : Value) (dd : Option Addr) (pn : List (Addr × Obj)) (hz : L2N.Zn cls dd oe)
    (hf : ∃ vs, oe.data = .fields vs) : PSs (X.suite a ((a, oe) :: pn)) (b₀ :: suite) (tSu X ms a cls dd) := ⟨fun pins s σ H D I h => by
  obtain ⟨cn, d, C, rfl, rfl, hm, h⟩ := h
  obtain ⟨vs, hv⟩ := hf
  exact (hsu a d oe cn pn ⟨oe, C, vs, List.mem_cons_self, hz, hv, hm⟩).run pins s σ H D I h⟩
/-- behind a suite -/
theorem post_gone {D : Ends} {H H' : Hp} {μ μ' : Mu} {r : Out} (st : Stp μ μ' H H') (q : PostS X W D H μ (r.gone i)) :
    PostS X WNever { nx := fun σ' H' => D.nx (σ'.set i none) H', rt := D.rt, bk := fun σ' H' => D.bk (σ'.set i none) H', ct := fun σ' H' => D.ct (σ'.set i none) H' } H' μ' r := by
  cases r with
  | stuck => exact q
  | ex e a b => exact False.elim q
  | nx a b => exact fun τ2 H2 μ2 s2 rs2 rh2 => q _ H2 μ2 (st.trans s2) (rs2.drop i) rh2
  | bk a b => exact fun τ2 H2 μ2 s2 rs2 rh2 => q _ H2 μ2 (st.trans s2) (rs2.drop i) rh2
  | ct a b => exact fun τ2 H2 μ2 s2 rs2 rh2 => q _ H2 μ2 (st.trans s2) (rs2.drop i) rh2
  | rt a b => exact fun v H2 μ2 s2 rh2 rd => q v H2 μ2 (st.trans s2) rh2 rd
theorem qs_tryAs (hs : X.stack = X.env :: X.outer) (hf : X.env.frame = some X.env.locals) (hN : X.N.Nodup) (hi : X.N[i]? = some n) (hln : X.env.kindOf n = some .local) (hc : Clause X x c) (tk : L2N.Takes X W)
    (hb : ∀ (W' : WX) (pn : List (Addr × Obj)) (xe : Value → Shared → Prop), L2N.Takes (X.tr pn xe) W' → PassesOwn (model X.prog X.w) X.A X.env xe → QSs (X.tr pn xe) W' mb body)
    (hsu : ∀ (a d : Addr) (oe : Obj) (cn : Str) (pn : List (Addr × Obj)), Held (X.suite a ((a, oe) :: pn)) a d cn → QSs (X.suite a ((a, oe) :: pn)) WNever (ms a d cn) (b₀ :: suite)) :
    QS X W (sTryAs c i mb ms) (.Try body [.ExceptHandler (some (.Name x np)) (some n) (b₀ :: suite) pos'] [] [] pos) := by
  obtain ⟨v, hv, hx⟩ := hc
  refine PS.of (L2N.ps_try_as (tb := fun W' => tXS X W' mb) (ts := tSu X ms) hs hf hN hi hln hv tk hb (su_ok hsu)) fun D τ H ⟨σ, h, μ, rs, rh, q⟩ => ⟨σ, h, μ, rs, rh, ?_⟩
  unfold sTryAs at q
  cases e : mb σ h with
  | ex ee σ1 h1 =>
    rw [e] at q
    intro cls dd τ1 H1 μ1 st rs1 rh1 rx
    obtain ⟨C, d, vs, hm, rfl, rfl, nd, hd, rds⟩ := rx
    cases hcc : c ee.cls with
    | none => simp only [hcc] at q; exact q.elim
    | some b =>
      refine ⟨b, hx _ _ _ hcc hm, ?_, ?_⟩
      · rintro rfl a na
        simp only [hcc] at q
        rw [agree_eq (fun z => by rw [z] at q; exact q) a d] at q
        exact ⟨ee.cls, d, C, rfl, rfl, hm, _, h1, μ1, rs1.set (.exn hd nd rds) i, rh1, post_gone st q⟩
      · rintro rfl
        simp only [hcc] at q
        exact q _ _ τ1 H1 μ1 st rs1 rh1 ⟨C, d, vs, hm, rfl, rfl, nd, hd, rds⟩
  | _ => rw [e] at q; exact q
end
end Q

/-! Q17: the exception that is handled: its fields, isinstance. -/
namespace Q
open PySem PySem.Spec PyProof.Rows L2
/-- what isinstance asks of an exception's class -/
structure XIs (K : PySem.W.Frag) (C : Addr) : Prop where
  cl : (PySem.W.clsIn K C).isSome = true
  dc : PySem.W.findIn K (.ref C) "__class__" = some (some (.builtin "object.__class__"))
  sp : PySem.W.specialIn K (.builtin "object.__class__") "__get__" = some (some (.builtin "getset_descriptor.__get__"))
  tk : PySem.W.takesIn K (.builtin "object.__class__") = some true
  mo : PySem.W.mroIn K C (.type "object") = some true
def xisB (K : PySem.W.Frag) (C : Addr) : Bool := (PySem.W.clsIn K C).isSome && decide (PySem.W.findIn K (.ref C) "__class__" = some (some (.builtin "object.__class__"))) && decide (PySem.W.specialIn K (.builtin "object.__class__") "__get__" = some (some (.builtin "getset_descriptor.__get__"))) &&
  decide (PySem.W.takesIn K (.builtin "object.__class__") = some true) && decide (PySem.W.mroIn K C (.type "object") = some true)
theorem xisB_ok {K : PySem.W.Frag} {C : Addr} (h : xisB K C = true) : XIs K C := by
  unfold xisB at h
  simp only [Bool.and_eq_true, decide_eq_true_eq] at h
  exact ⟨h.1.1.1.1, h.1.1.1.2, h.1.1.2, h.1.2, h.2⟩
/-- all that is asked of the program's classes: their fields -/
def XTab (K : PySem.W.Frag) (mg : Str → Option Value) (fs : Str → List Str) : Prop := ∀ (c : Str) (C : Addr), fs c ≠ [] → mg c = some (.ref C) → XfC K C ∧ XIs K C ∧ ∀ f ∈ fs c, PySem.W.findIn K (.ref C) f = some none
section
variable {X : Cx} {W : WX} {a d : Addr} {c : Str} {e : Expr} {te : TE} {pos : Pos} {fs : Str → List Str} {m : M} {f : Str}
theorem pe_fld (hh : Held X a d c) (xt : XTab X.K X.mg fs) (hfs : f ∈ fs c) (he : PE X e te) (hb : attributeBase e f X.env (eval e X.env) = eval e X.env := by rfl) :
    PE X (.Attribute e f pos) (fun σ H Q => te σ H fun x H1 => x = .ref a ∧ ∃ (ws : List (Str × V)) (v : V), H1 d = some (.xd ws) ∧ ws.lookup f = some v ∧ Q v H1) := ⟨fun pins s σ H Q I h => by
  obtain ⟨oe, C, vs, hp, hz, hv, hm⟩ := hh.ex
  obtain ⟨T, _, nof⟩ := xt c C (fun z => by rw [z] at hfs; cases hfs) hm
  refine attr_of hb (thn (he.run pins s σ H _ I h) fun u s1 ⟨x, H1, I1, rx, ex, ws, v, ed, l, q⟩ => ?_)
  subst ex
  obtain rfl : u = Value.ref a := rx
  have stands := (I1.pin (a, oe) (List.mem_append_left _ hp)).1
  obtain ⟨mA, hns, hr⟩ := (show ObjOk X.prog X.w H1 s1.heap d (.xd ws) from I1.hok d _ ed)
  obtain ⟨od, ho, hl⟩ := lookIn_ns hns
  obtain ⟨u, hu, ru⟩ := RelO.some_of (v := v) (o := mA f) (by rw [← l]; exact hr f)
  have at_ : PySem.W.InstAt s1.heap a oe C (some od) := ⟨stands, hz.1, by unfold PySem.W.notCls; rw [hv] <;> rfl, by rw [hz.2.1]; exact ho⟩
  exact HandSPX.exc_get I1.kIn at_ T.ga T.gg T.exC (PySem.W.findObj_own T.hdC (nof f hfs) rfl (by rw [hl, hu])) (handed_of ru) ⟨v, H1, I1.tok _, ru, q⟩⟩
theorem lookup_zip {K : PySem.W.Frag} {H : Hp} {μ : Mu} {f : Str} {x : D} : ∀ {ns : List Str} {xs : List D} {vs : List V}, RDs K H μ xs vs → (ns.zip xs).lookup f = some x → ∃ v, (ns.zip vs).lookup f = some v ∧ RD K H μ x v
  | [], _, _, _, e => by cases e
  | _ :: _, [], _, r, e => by cases e
  | n :: ns, y :: ys, _, r, e => by
    cases r with
    | cons r1 r2 =>
      rw [List.zip_cons_cons, List.lookup] at e ⊢
      cases h : f == n with
      | true => rw [h] at e; cases e; exact ⟨_, rfl, r1⟩
      | false => rw [h] at e; exact lookup_zip r2 e
/-- e.f of the exception that is handled -/
def eFld (fs : Str → List Str) (a d : Addr) (c f : Str) (m : M) : M := fun σ h => (m σ h).bind fun x h1 => match x with
  | .exn a' d' _ ns xs => if (a' = a ∧ d' = d) ∧ f ∈ fs c then (match (ns.zip xs).lookup f with
    | some v => .ok v h1
    | none => .stuck) else .stuck
  | _ => .stuck
theorem q_fld (hh : Held X a d c) (xt : XTab X.K X.mg fs) (hm : QE X W m e) (hb : attributeBase e f X.env (eval e X.env) = eval e X.env := by rfl) : QE X W (eFld fs a d c f m) (.Attribute e f pos) := by
  by_cases hfs : f ∈ fs c
  · exact QE.of (pe_fld hh xt hfs hm hb) fun τ H Q ⟨σ, h, μ, rs, rh, q⟩ => go rs rh q fun x h1 v H1 μ1 s1 rs1 rh1 rx q1 => by
      split at q1
      · split at q1
        · rename_i hc
          obtain ⟨⟨rfl, rfl⟩, _⟩ := hc
          cases rx with
          | exn hd nd rr =>
            split at q1
            · rename_i y ey
              obtain ⟨z, ez, rz⟩ := lookup_zip rr ey
              exact ⟨rfl, _, z, hd, ez, q1.now rh1 rz⟩
            · exact q1.elim
        · exact q1.elim
      · exact q1.elim
  · refine ⟨fun pins s τ H Q I ⟨σ, h, μ, rs, rh, q⟩ => ?_⟩
    refine attr_of hb (thn (hm.run pins s τ H (fun _ _ => False) I (go rs rh q fun x h1 v H1 μ1 s1 rs1 rh1 rx q1 => by
      split at q1
      · split at q1
        · rename_i hc
          exact hfs hc.2
        · exact q1.elim
      · exact q1.elim)) fun u s1 ⟨v, H1, I1, r1, z⟩ => z.elim)
/-- isinstance of the exception that is handled -/
theorem call_held (hh : Held X a d c) (xt : XTab X.K X.mg fs) (hfs : fs c ≠ []) :
    CallR X (.builtin "isinstance") (fun xs H Q => ∃ (cv : V) (u : Value) (b : Bool) (ws : List (Str × V)), xs = [.ref a, cv] ∧ ClsV cv u ∧ H d = some (.xd ws) ∧ (∀ C, X.mg c = some (.ref C) → PySem.W.kitOne X.K (.ref C) u = some b) ∧ Q (.bl b) H) := fun pins s σ H xs us Q I r h => by
  obtain ⟨cv, u, b, ws, rfl, k, hd, hk, q⟩ := h
  obtain ⟨u1, u2, rfl, r1, r2⟩ := vals2 r
  cases (show u1 = Value.ref a from r1)
  have e2 := k.eq r2
  subst e2
  obtain ⟨oe, C, vs, hp, hz, hv, hm⟩ := hh.ex
  obtain ⟨T, S, _⟩ := xt c C hfs hm
  have stands := (I.pin (a, oe) (List.mem_append_left _ hp)).1
  obtain ⟨mA, hns, _⟩ := (show ObjOk X.prog X.w H s.heap d (.xd ws) from I.hok d _ hd)
  obtain ⟨od, ho, _⟩ := lookIn_ns hns
  have at_ : PySem.W.InstAt s.heap a oe C (some od) := ⟨stands, hz.1, by unfold PySem.W.notCls; rw [hv] <;> rfl, by rw [hz.2.1]; exact ho⟩
  exact PySem.W.kia_one (PySem.W.kitx_exc S.cl T.ga T.gg T.exC S.dc S.sp S.tk S.mo) I.kIn at_ (hk C hm) (by intro z; cases z) fun tk => ⟨.bl b, H, I.tok tk, rfl, q⟩
/-- a class as isinstance's second argument; which of the program's exceptions are of it -/
def IsC (X : Cx) (T : Str) (ct : Ct) : Prop := ∃ (cv : V) (u : Value), ClsV cv u ∧ ((∃ v, X.mg T = some v ∧ RelV cv v) ∨ (X.mg T = none ∧ ∃ v, bootBuiltins T = some v ∧ RelV cv v ∧ T ≠ "__name__")) ∧ ∀ (n : Str) (C : Addr) (b : Bool), ct n = some b → X.mg n = some (.ref C) → PySem.W.kitOne X.K (.ref C) u = some b
/-- isinstance(e, T) of the exception that is handled -/
def eIsX (fs : Str → List Str) (ct : Ct) (a d : Addr) (c : Str) (m : M) : M := fun σ h => (m σ h).bind fun x h1 => match x with
  | .exn a' d' _ _ _ => if (a' = a ∧ d' = d) ∧ fs c ≠ [] then (match ct c with
    | some b => .ok (.bl b) h1
    | none => .stuck) else .stuck
  | _ => .stuck
theorem q_isX {T : Str} {ct : Ct} {p p2 : Pos} (hh : Held X a d c) (xt : XTab X.K X.mg fs) (it : IsC X T ct) (hg : Gl X "isinstance") (hi : X.mg "isinstance" = none) (hm : QE X W m e) (hgT : Gl X T) (hdT : (T == ("__debug__" : Str)) = false := by decide)
    (he : starEach [e, .Name T p2] X.env = (false, eval e X.env) :: starEach [.Name T p2] X.env := by rfl) (hpl : (backTo pos (starEach [Expr.Name T p2] X.env)).any (·.1) = false := by rfl) : QE X W (eIsX fs ct a d c m) (.Call (.Name "isinstance" p) [e, .Name T p2] [] pos) := by
  obtain ⟨cv, u, k, hn, hk⟩ := it
  have pT : PE X (.Name T p2) (tC cv) := by
    rcases hn with ⟨v, h1, h2⟩ | ⟨h1, v, h2, h3, h4⟩
    · exact pe_glob hgT h1 h2 hdT
    · exact pe_bltn hgT h1 h2 h3 h4 hdT
  by_cases hfs : fs c ≠ []
  · refine QE.of (pe_callB (call_held hh xt hfs) hg hi (by decide +kernel) (pa_cons hm (pa_cons pT pa_nil) he) (by decide) (by decide) he hpl) fun τ H Q ⟨σ, h, μ, rs, rh, q⟩ => go rs rh q fun x h1 v H1 μ1 s1 rs1 rh1 rx q1 => ?_
    split at q1
    · split at q1
      · rename_i hc
        obtain ⟨⟨rfl, rfl⟩, _⟩ := hc
        cases rx with
        | exn hd nd rr =>
          split at q1
          · rename_i b eb
            exact ⟨cv, u, b, _, rfl, k, hd, fun C hC => hk c C b eb hC, q1.now rh1 (.bl b)⟩
          · exact q1.elim
      · exact q1.elim
    · exact q1.elim
  · refine QE.of (pe_callB (id := "isinstance") (r := fun _ _ _ => False) (fun pins s σ H xs us Q I r h => h.elim) hg hi (by decide +kernel) (pa_cons hm (pa_cons pT pa_nil) he) (by decide) (by decide) he hpl) fun τ H Q ⟨σ, h, μ, rs, rh, q⟩ => go rs rh q fun x h1 v H1 μ1 s1 rs1 rh1 rx q1 => ?_
    split at q1
    · split at q1
      · rename_i hc
        exact (hfs hc.2).elim
      · exact q1.elim
    · exact q1.elim
end
end Q

/-! Q18: defs called where an exception is handled. -/
namespace Q
open PySem PySem.Spec PyProof.Rows L2
/-- oe, at a, is the handled exception: its class by the name c, its dict at d -/
structure Hot (mg : Str → Option Value) (A : Around) (a d : Addr) (c : Str) (oe : Obj) : Prop where
  hot : L2H.Hot1 A (a, oe)
  ex : ∃ (C : Addr) (vs : Array Value), L2N.Zn (.ref C) (some d) oe ∧ oe.data = .fields vs ∧ mg c = some (.ref C)
theorem Hot.held {X : Cx} {A : Around} {a d : Addr} {c : Str} {oe : Obj} (h : Hot X.mg A a d c oe) (m : (a, oe) ∈ X.pn) : Held X a d c :=
  let ⟨C, vs, h1, h2, h3⟩ := h.ex; ⟨oe, C, vs, m, h1, h2, h3⟩
/-- the context of a suite, for calls -/
structure HeldH (X : Cx) (a d : Addr) (c : Str) : Prop where
  ex : ∃ oe : Obj, (a, oe) ∈ X.pn ∧ Hot X.mg X.A a d c oe
theorem HeldH.held {X : Cx} {a d : Addr} {c : Str} (h : HeldH X a d c) : Held X a d c := let ⟨_, m, h⟩ := h.ex; h.held m
theorem Held.hot {X : Cx} {a d : Addr} {c : Str} (h : Held X a d c) (e : X.A.handled = some (.ref a)) : HeldH X a d c :=
  let ⟨oe, C, vs, m, h1, h2, h3⟩ := h.ex; ⟨oe, m, ⟨e, vs, h2, h1.2.2 vs h2⟩, C, vs, h1, h2, h3⟩
/-- a promise that holds while an exception is handled -/
structure FnE (P : Program) (w : World) (K : PySem.W.Frag) (mg : Str → Option Value) (base : Heap) (k : Nat) (f : Addr) (fd : FuncData) (ps : List Str) (sp : Addr → Addr → Str → Sp) : Prop where
  many : ∀ a d c vs H Q E, sp a d c vs H Q E → vs.length = ps.length
  goes : ∀ (A : Around) (outer : List Env) (s : Shared) (H : Hp) (args : Args) (us : List Value) (vs : List V) (Q : VK) (E : XK) (a d : Addr) (c : Str) (oe : Obj), L2H.RoomH k A → Hot mg A a d c oe → L2H.PinOk outer H s (a, oe) → Env0 P w K mg base A outer s H →
    BindsTo s fd args (ps.zip us) → Vals vs us → sp a d c vs H Q E → codeAny (model P w) A (.call (.ref f) args) (CR CX0 outer P w H s Q E) s
/-- .. by a mirror, which lets nothing out -/
def spH (P : Program) (w : World) (K : PySem.W.Frag) (mg : Str → Option Value) (f : Addr → Addr → Str → List D → AH → Res D) : Addr → Addr → Str → Sp := fun a d c vs H Q _ => spOf P w K mg (f a d c) vs H Q fun _ _ _ => False
section
variable {P : Program} {w : World} {K : PySem.W.Frag} {mg : Str → Option Value} {base : Heap} {x qual : Str} {params : Arguments} {ss : List Stmt} {scope : Scope} {f : Addr} {fd : FuncData}
/-- the body of such a def -/
theorem fn_okE {N ps : List Str} {k : Nat} {body : Addr → Addr → Str → MS} (F : FunD K x qual params ss scope [] [] f fd) (S : FnScope N ps scope)
    (hbody : ∀ (cdv : Value) (A : Around) (outer : List Env) (s : Shared) (H : Hp) (E : XK) (a d : Addr) (c : Str) (oe : Obj), L2H.RoomH k (A.deeper (envOfC qual scope s.heap.objs.size f cdv)) → Hot mg A a d c oe →
      QSs (L2H.cxH CX0 P w K mg base N qual scope f cdv A outer s H E (a, oe)) WNever (body a d c) ss) :
    FnE P w K mg base (k + 1) f fd ps (spH P w K mg fun a d c => fnR true ps.length N.length (body a d c)) := by
  have cnt : ∀ a d c vs H Q E, spH P w K mg (fun a d c => fnR true ps.length N.length (body a d c)) a d c vs H Q E → vs.length = ps.length := fun a d c vs H Q E ⟨ds, μ, h, _, rds, q⟩ => by
    rw [rds.length]
    by_cases hl : ds.length = ps.length
    · exact hl
    · have e : fnR true ps.length N.length (body a d c) ds h = .stuck := if_neg hl
      have q' : PostF P w K mg H μ Q (fun _ _ _ => False) (fnR true ps.length N.length (body a d c) ds h) := q
      rw [e] at q'
      exact q'.elim
  obtain ⟨oc, od, dV, kV, doc, pm, an, cdv, ct, osl, rfl, look, code, _, _⟩ := F.ex
  refine ⟨cnt, fun A outer s0 H args us vs Q E a d c oe room hot pin env bnd rel wish => ?_⟩
  have few := cnt _ _ _ _ _ _ _ wish
  have inK : K.In s0.heap := env.mod.kin.keeps fun b o q => (env.bs b o q).1
  have free : s0.heap.NoLimit := env.mod.nolimit.keeps fun b o q => (env.bs b o q).1
  have kinds : ∀ y ∈ ps.zip us, scope.names.lookup y.1 = some .local ∨ (scope.names.lookup y.1 = some .cell ∧ ((cellsFrom (s0.heap.objs.size + 1) scope.names []).lookup y.1).isSome = true) := fun y hy =>
    (S.par y.1 (List.of_mem_zip (a := y.1) (b := y.2) hy).1).imp id fun z => ⟨z, PySem.W.cellsFrom_some _ _ _ (.inl z)⟩
  refine codeAny_call_function room.depth (inK _ _ look) rfl S.co S.gen rfl (PySem.W.codeRec_of inK code) (bnd _ _ _ _ ?_)
  refine wpAny_newFunctionEnv_cells S.kind kinds fun env' ee s1 st => ?_
  subst ee
  refine ⟨free.keeps st.toInCall.keep, codeAny_func ?_⟩
  have start := L2H.inv_startH (CX := CX0) (qual := qual) (f := f) (cd := cdv) (E := E) S pin env few rel st
  have body' := hbody cdv A outer s0 H E a d c oe (room.deeper _) hot
  have read : tXS (L2H.cxH CX0 P w K mg base N qual scope f cdv A outer s0 H E (a, oe)) WNever (body a d c) { nx := fun _ H' => Q .non H', rt := Q } (L2.start N vs) H := by
    exact sp_body (X := L2H.cxH CX0 P w K mg base N qual scope f cdv A outer s0 H E (a, oe)) wish
  refine wpAny_mono (body'.run [] s1 (L2.start N vs) H _ start read) (fun fl s2 ends => ?_) fun _ _ z => z
  have back : ∀ {σ' : L2.St} {H' : Hp} {v : V} {u : Value}, Inv (L2H.cxH CX0 P w K mg base N qual scope f cdv A outer s0 H E (a, oe)) [] σ' H' s2 → RelV v u → Q v H' → CE outer P w H s0 Q u s2 := fun {_ H' v _} J rv q => ⟨v, H', J.os, J.bare, J.base, J.hok, rv, q⟩
  cases fl with
  | ret u => obtain ⟨v, σ', H', J, rv, q⟩ := ends; exact back J rv q
  | next => obtain ⟨σ', H', J, q⟩ := ends; exact back (v := .non) J rfl q
  | brk => obtain ⟨_, _, _, q⟩ := ends; exact q.elim
  | cont => obtain ⟨_, _, _, q⟩ := ends; exact q.elim
end
/-- such a def by its name -/
def DefH (P : Program) (w : World) (K : PySem.W.Frag) (mg : Str → Option Value) (base : Heap) (k : Nat) (x : Str) (f : Addr → Addr → Str → List D → AH → Res D) : Prop :=
  ∃ (fa : Addr) (fd : FuncData) (ps : List Str), FnE P w K mg base k fa fd ps (spH P w K mg f) ∧ mg x = some (.ref fa) ∧ PySem.W.keepIn K (.ref fa) = true ∧ Binds K fd ps []
/-- nothing is let out -/
def Res.shut {α : Type} : Res α → Res α
  | .ex _ _ => .stuck
  | r => r
@[simp] theorem shut_ok {α : Type} {a : α} {h : AH} : (Res.ok a h).shut = .ok a h := rfl
def eFnH (f : List D → AH → Res D) (r : ML) : M := fun σ h => (r σ h).bind fun ds h1 => (f ds h1).shut
section
variable {X : Cx} {W : WX} {a d : Addr} {c : Str}
theorem q_fnH {k : Nat} {f : Addr → Addr → Str → List D → AH → Res D} {x : Str} {r : ML} {e : Expr} {es : List Expr} {p pos : Pos} (hh : HeldH X a d c) (dh : DefH X.prog X.w X.K X.mg X.base k x f) (room : L2H.RoomH k X.A) (hg : Gl X x) (ha : QA X W r (e :: es)) (hdb : (x == ("__debug__" : Str)) = false := by decide)
    (he : starEach (e :: es) X.env = (false, eval e X.env) :: starEach es X.env := by rfl) (hpl : (backTo pos (starEach es X.env)).any (·.1) = false := by rfl) : QE X W (eFnH (f a d c) r) (.Call (.Name x p) (e :: es) [] pos) := by
  obtain ⟨fa, fd, ps, F, hm, hk, hb⟩ := dh
  obtain ⟨oe, mem, hot⟩ := hh.ex
  refine ⟨fun pins s τ H Q I ⟨σ, h, μ, rs, rh, q⟩ => ?_⟩
  refine wpAny_Call_Name_kw (ld_glob I hg hm ?_ hdb)
  have h2 := ha.run pos pins s τ H (fun vs H1 => spH X.prog X.w X.K X.mg f a d c vs H1 Q fun _ _ _ => False) I (go rs rh q fun ds h1 vs H1 μ1 s1 rs1 rh1 rds q1 => ⟨ds, μ1, h1, rh1, rds, by
    show PostF _ _ _ _ _ _ _ _ (f a d c ds h1)
    cases e : f a d c ds h1 with
    | stuck => rw [e] at q1; exact q1
    | ok d h' => rw [e] at q1; exact q1
    | ex x h' => rw [e] at q1; exact q1.elim⟩)
  refine PySem.W.callWith_K (h₀ := X.base) I.ok.mod.kin hk (thn h2 fun us s1 ⟨vs, H1, I1, rel, wish⟩ => ⟨I1.kIn, ?_⟩) he hpl
  have many : us.length = ps.length := by rw [← rel.length]; exact F.many _ _ _ _ _ _ _ wish
  have bnd := hb s1 us I1.kIn (by rw [List.append_nil]; exact many)
  rw [List.append_nil] at bnd
  have stands := I1.pin (a, oe) (List.mem_append_left _ mem)
  have pin : L2H.PinOk X.stack H1 s1 (a, oe) := ⟨stands.1, stands.2.1, fun hm => (List.mem_cons.mp (I1.stkSub a hm)).elim stands.2.2.1 stands.2.2.2.1, stands.2.2.2.2⟩
  refine wpAny_call (codeAny_mono (F.goes X.A X.stack s1 H1 ⟨us, []⟩ us vs Q (fun _ _ _ => False) a d c oe room hot pin I1.env0 bnd rel wish) fun r s2 ends => ?_)
  cases r with
  | error er => exact ends.elim
  | ok fl =>
    cases fl with
    | ret u => exact I1.after ends
    | next => exact ends.elim
    | brk => exact ends.elim
    | cont => exact ends.elim
end
end Q

/-! Q19: a list comprehension over a range, where an exception is handled. -/
namespace Q
open PySem PySem.Spec PyProof.Rows L2
/-- the block's context, with the handled exception's pin -/
abbrev blkH (X : Cx) (s : Shared) (H : Hp) (scope : Scope) (cenv : Env) (fp : List Addr) (p : Addr × Obj) : Cx := { X.blk s H scope cenv fp with pn := [p] }
theorem inv_pin {Y : Cx} {p : Addr × Obj} {pins : List (Addr × Obj)} {σ : L2.St} {H : Hp} {s : Shared} (I : Inv { Y with pn := [] } pins σ H s)
    (h : s.heap.get? p.1 = some p.2 ∧ H p.1 = none ∧ p.1 ≠ Y.env.locals ∧ p.1 ∉ Y.fs ∧ ∀ v, p.2.data ≠ .cell v) : Inv { Y with pn := [p] } pins σ H s where
  ok := ⟨I.ok.mod, I.ok.kind, I.ok.glob, I.ok.blt, I.ok.above, I.ok.inj, I.ok.has, I.ok.cab, I.ok.hd, I.ok.frames, I.ok.stk, I.ok.exf, I.ok.bs, I.ok.bsz, I.ok.noex, I.ok.exfs, I.ok.funs, I.ok.frf⟩
  os := I.os
  bare := I.bare
  base := I.base
  loc := I.loc
  cell := I.cell
  free := I.free
  freeC := I.freeC
  pin := fun q hq => by
    rcases List.mem_cons.mp (show q ∈ p :: pins from hq) with e | m
    · rw [e]; exact h
    · exact I.pin q (show q ∈ [] ++ pins by simpa using m)
  hok := I.hok
  len := I.len
section
variable {X : Cx}
theorem pe_lcH {elt tg iter : Expr} {ifs : List Expr} {scope : Scope} {own : List (Str × Nat)} {pos : Pos} {wi : TI} {g : TG} {tt : TT} {te : TE} (hot : L2H.HotC X) (hN : X.N.Nodup) (hi : L2H.PIH X tg iter wi) (ok : BlkOk X.N X.env.scope scope own)
    (hg : ∀ (s : Shared) (H : Hp) (C : Addr) (cl : List (Str × Addr)) (fp : List Addr) (p : Addr × Obj), PG (blkH X s H scope (compEnvC scope cl C X.env) fp p) tg g)
    (ht : ∀ (s : Shared) (H : Hp) (C : Addr) (cl : List (Str × Addr)) (fp : List Addr) (p : Addr × Obj), PTs (blkH X s H scope (compEnvC scope cl C X.env) fp p) ifs tt)
    (he : ∀ (s : Shared) (H : Hp) (C : Addr) (cl : List (Str × Addr)) (fp : List Addr) (p : Addr × Obj), PE (blkH X s H scope (compEnvC scope cl C X.env) fp p) elt te)
    (hs : ∀ x, foldedSetIterable iter X.env x = pure x := by intro _; rfl) : PE X (.ListComp elt [⟨tg, iter, ifs, 0⟩] scope pos) (tLc wi g tt te (own.map (·.2))) := ⟨fun pins s0 σ H Q I wish => by
  obtain ⟨p, hot1, hp⟩ := hot
  rw [eval_ListComp]
  have cells : ∀ y ∈ scope.names, y.2 = .free → ∃ c, X.env.cells.lookup y.1 = some c := fun y hy e =>
    (ok.free y hy e).elim (fun k => I.ok.has _ (.inl k)) fun k => I.ok.has _ (.inr k)
  refine wpAny_comprehension_free (use := none) rfl hs (closure_ok cells) ok.kind (fun y hy e => by rw [ok.uniq y hy, e]) (thn (hi.run pins s0 σ H _ I wish) fun v0 s1 w1 => thn w1 fun v1 s2 w2 => ?_)
  obtain ⟨it, fp, tn, J, Ha, rfl, Ia, turns, at0, apart, goal⟩ := w2
  refine wpAny_newObj_type (newEnv_comp ?_) (by show 0 ≤ sizeLine; decide)
  generalize hL : s2.heap.objs.size = L
  have newL : Ha L = none := Ia.hok.fresh (Nat.le_of_eq hL)
  obtain ⟨Wt, ⟨m0, start⟩, step⟩ := goal L newL
  -- the list that is made
  generalize hs3 : ({ s2 with heap := s2.heap.push { cls := .type "list", data := .seq ([] : List Value).toArray } } : Shared) = s3
  have e3 : s3.heap = s2.heap.push { cls := .type "list", data := .seq ([] : List Value).toArray } := by
    rw [← hs3]
  have Ib : Inv X pins σ (upd Ha L (.lst [])) s3 := by
    rw [← hs3]
    refine Ia.laid (t' := s2.toks) (fun _ _ q => Heap.get?_push_of_some _ q) (Nat.le_of_eq hL) ?_
    refine ⟨Nat.zero_le _, [], 0, .nil, ?_⟩
    rw [← hL]; exact Heap.get?_push_size _ rfl
  have below : ∀ b ∈ fp, b < s2.heap.objs.size := fun b hb => let ⟨_, q, _⟩ := turns.obj _ _ at0 b hb; Heap.lt_size q
  have apart3 : ∀ b ∈ fp, FpOk X pins (upd Ha L (.lst [])) b ∧ b < s3.heap.objs.size := fun b hb => by
    have lt := below b hb
    have nb : b ≠ L := by rw [← hL]; exact Nat.ne_of_lt lt
    exact ⟨⟨by rw [upd_ne nb]; exact (apart b hb).1, (apart b hb).2⟩, by rw [e3, Heap.size_push]; exact Nat.lt_succ_of_lt lt⟩
  have at3 : tn 0 s3.heap := turns.keep _ _ _ at0 fun b _ o q => by rw [e3]; exact Heap.get?_push_of_some _ q
  have Ic := block_start Ib ok hN apart3
  generalize hB : upd Ha L (.lst []) = Hb at Ib Ic apart3 start
  have stands := Ib.pin p (List.mem_append_left _ hp)
  have free3 : ∀ b ∈ fp, Hb b = none := fun b hb => (apart3 b hb).1.1
  show codeAny _ _ (.compStart (.ListComp elt [⟨tg, iter, ifs, 0⟩] scope pos) 0 (.ref it) (.ref L)
    (compEnvC scope (cellsFrom (s3.heap.objs.size + 1) scope.names (cloFrom X.env.cells scope.names [])) s3.heap.objs.size X.env)) (compPost (model X.prog X.w) X.A X.xe none _ (.ref L) s3.heap.objs.size)
    { s3 with heap := pushCells (s3.heap.push { cls := .type "dict", data := .dict #[] }) scope.names }
  have rg := fun q => hg s3 Hb s3.heap.objs.size (cellsFrom (s3.heap.objs.size + 1) scope.names (cloFrom X.env.cells scope.names [])) fp q
  have rt := fun q => ht s3 Hb s3.heap.objs.size (cellsFrom (s3.heap.objs.size + 1) scope.names (cloFrom X.env.cells scope.names [])) fp q
  have re := fun q => he s3 Hb s3.heap.objs.size (cellsFrom (s3.heap.objs.size + 1) scope.names (cloFrom X.env.cells scope.names [])) fp q
  generalize hcv : compEnvC scope (cellsFrom (s3.heap.objs.size + 1) scope.names (cloFrom X.env.cells scope.names [])) s3.heap.objs.size X.env = cv at Ic rg rt re ⊢
  have locs : cv.locals = s3.heap.objs.size := by subst hcv; rfl
  generalize hs4 : ({ s3 with heap := pushCells (s3.heap.push { cls := .type "dict", data := .dict #[] }) scope.names } : Shared) = s4 at Ic ⊢
  have kept4 : ∀ b o, s3.heap.get? b = some o → s4.heap.get? b = some o := fun b o q => by
    rw [← hs4]; exact pushCells_keeps _ _ _ _ (Heap.get?_push_of_some _ q)
  have at4 : tn 0 s4.heap := turns.keep _ _ _ at3 fun b _ o q => kept4 b o q
  have fsB : ∀ b, b ∈ frs X.stack → b ∈ X.fs ∨ b = X.env.locals := fun b hm => (List.mem_cons.mp (Ib.stkSub b hm)).symm
  have Id : Inv (blkH X s3 Hb scope cv fp p) [] (wipe σ (own.map (·.2))) Hb s4 := inv_pin (Y := X.blk s3 Hb scope cv fp) Ic
    ⟨kept4 _ _ stands.1, stands.2.1, by show p.1 ≠ cv.locals; rw [locs]; exact Nat.ne_of_lt (Heap.lt_size stands.1), fun hm => (fsB p.1 hm).elim stands.2.2.2.1 stands.2.2.1, stands.2.2.2.2⟩
  have hotB : L2H.HotC (blkH X s3 Hb scope cv fp p) := ⟨p, hot1, List.mem_cons_self⟩
  have stay : ∀ {σ' : L2.St} {H' : Hp} {s' : Shared}, Inv (blkH X s3 Hb scope cv fp p) [] σ' H' s' → (∀ b ∈ fp, H' b = none) → ∀ b ∈ fp, FpOk (blkH X s3 Hb scope cv fp p) [] H' b := fun {_ _ _} J hn b hb =>
    ⟨hn b hb, (J.ok.exf b hb).1, J.ok.exfs b hb, .inl hb, fun x c q => (J.ok.exf b hb).2 x c q, fun q hq => by
      have e : q = p := by simpa using (show q ∈ [p] ++ ([] : List (Addr × Obj)) from hq)
      rw [e]
      exact (apart b hb).2.2.2.2.2 p (List.mem_append_left _ hp)⟩
  have loop : codeAny (model X.prog X.w) X.A (.compLoop (.ListComp elt [⟨tg, iter, ifs, 0⟩] scope pos) 0 (.ref it) (.ref L) cv) (compPost (model X.prog X.w) X.A X.xe none (EP X pins σ Q) (.ref L) s3.heap.objs.size) s4 := by
    refine compLoop_any (fun n sx => ∃ i Hx, Inv (blkH X s3 Hb scope cv fp p) [] (wipe σ (own.map (·.2))) Hx sx ∧ tn i sx.heap ∧ (∀ b ∈ fp, Hx b = none) ∧ Wt i n Hx) ?_ m0 ⟨0, Hb, Id, at4, free3, start⟩
    rintro n s5 ⟨i, H5, I5, at5, free5, w5⟩
    rcases step i n H5 w5 with ⟨stop, fin⟩ | ⟨go, Nx, less, turn⟩
    · refine thnF (turns.done (blkH X s3 Hb scope cv fp p) rfl rfl rfl hotB i [] s5 _ H5 (fun _ _ => False) I5 (stay I5 free5) at5 stop) fun r s6 ⟨er, I6⟩ => ?_
      subst er
      have I7 : Inv X pins σ H5 s6 := Ib.call' (ch := fp) I6.os I6.base I6.hok I6.bare fun b hb =>
        let z := (apart3 b hb).1; ⟨z.2.2.2.1, z.2.1, z.2.2.2.2.1, z.2.2.2.2.2⟩
      have freeC : H5 s3.heap.objs.size = none := by rw [← locs]; exact I6.free
      obtain ⟨m, hn, _⟩ := I6.loc
      have hn' : s6.heap.Ns s3.heap.objs.size m := by rw [← locs]; exact hn
      refine ⟨m, hn', fun h'' same => ?_⟩
      obtain ⟨f0, f1, f2, f3, f4, f5⟩ := Ib.fpOk (Nat.le_refl _) freeC
      exact ⟨.ref L, H5, I7.turned (t' := s6.toks) (fun b o nb q => (same.2 b nb).trans q) f0 f1 f3 f4 f5, rfl, fin⟩
    · refine thnF (turns.item (blkH X s3 Hb scope cv fp p) rfl rfl rfl hotB i [] s5 _ H5 (fun _ _ => False) I5 (stay I5 free5) at5 go) fun r s6 ⟨u, er, h6⟩ => ?_
      subst er
      refine thnF h6 fun _ s7 ⟨x, H7, I7, rx, yx, at7, free7⟩ => ?_
      have I8 := I7.pinned (stay I7 free7) (turns.obj _ _ at7)
      refine thnF ((rg p).run _ s7 _ H7 x u _ I8 rx (turn x H7 yx)) fun _ s8 ⟨σ8, H8, I9, wiped, t8⟩ => ?_
      refine thnF ((rt p).run _ s8 σ8 H8 _ I9 t8) fun b s9 ⟨H9, I10, t9⟩ => ?_
      have again : ∀ {sz : Shared} {Hz : Hp}, Inv (blkH X s3 Hb scope cv fp p) ([] ++ pinsAt fp s7.heap) σ8 Hz sz → Nx Hz →
          ∃ m, m < n ∧ ∃ i Hx, Inv (blkH X s3 Hb scope cv fp p) [] (wipe σ (own.map (·.2))) Hx sz ∧ tn i sz.heap ∧ (∀ b ∈ fp, Hx b = none) ∧ Wt i m Hx := fun {sz Hz} Iz nz => by
        obtain ⟨m', lt, w'⟩ := less Hz nz
        have still : ∀ b ∈ fp, ∀ o, s7.heap.get? b = some o → sz.heap.get? b = some o ∧ Hz b = none := fun b hb o q =>
          let z := Iz.pin (b, o) (List.mem_append_right _ (List.mem_append_right _ (mem_pinsAt hb q))); ⟨z.1, z.2.1⟩
        have len8 : (wipe σ (own.map (·.2))).length = σ8.length := by rw [← wiped, wipe_length]
        refine ⟨m', lt, i + 1, Hz, (Iz.unpinned (pins := [])).weak len8 (fun j v q => by rw [← wiped] at q; exact (wipe_some q).1), turns.keep _ _ _ at7 fun b hb o q => (still b hb o q).1, fun b hb => ?_, w'⟩
        obtain ⟨o, q, _⟩ := turns.obj _ _ at7 b hb
        exact (still b hb o q).2
      cases b with
      | false =>
        rw [if_neg Bool.false_ne_true] at t9 ⊢
        exact again I10 t9
      | true =>
        rw [if_pos rfl] at t9 ⊢
        refine thnF ((re p).run _ s9 σ8 H9 _ I10 t9) fun z s10 ⟨yv, H10, I11, ry, acc, atL, small, nx⟩ => ?_
        exact app_ok (X := blkH X s3 Hb scope cv fp p) I11 atL small ry fun s11 I12 => again I12 nx
  exact codeAny_compStart_list loop (turns.self X.A 0 _ _ _ at4 loop)⟩
end
section
variable {X : Cx} {W : WX} {tg : Expr}
theorem qi_rangeH {m : M} {e : Expr} {p pos : Pos} (hg : Gl X "range") (hm : X.mg "range" = none) (he : QE X W m e) (hs : starEach [e] X.env = [(false, eval e X.env)] := by rfl) (hs2 : starEach [e] X.env = (false, eval e X.env) :: starEach [] X.env := by rfl) : L2H.PIH X tg (.Call (.Name "range" p) [e] [] pos) (tI X W (iRange1 m)) :=
  ⟨fun pins s τ H R I ⟨σ, h, μ, rs, rh, q⟩ => (L2H.pi_range1H hg hm (pa_cons he pa_nil hs2) hs).run pins s τ H R I (go rs rh q fun d h1 v H1 μ1 s1 rs1 rh1 rd q1 => by
    split at q1
    · split at q1
      · rename_i hb
        cases rd
        exact ⟨_, rfl, hb.1, hb.2, q1.now rh1 walk_rng⟩
      · exact q1.elim
    · exact q1.elim)⟩
theorem q_lcH {it : MI} {g : MG} {t : MB} {m : M} {is : List Nat} {elt iter : Expr} {ifs : List Expr} {scope : Scope} {own : List (Str × Nat)} {pos : Pos} (hot : L2H.HotC X) (hN : X.N.Nodup) (hi : L2H.PIH X tg iter (tI X W it)) (ok : BlkOk X.N X.env.scope scope own)
    (hg : ∀ (s : Shared) (H : Hp) (C : Addr) (cl : List (Str × Addr)) (fp : List Addr) (p : Addr × Obj), QG (blkH X s H scope (compEnvC scope cl C X.env) fp p) g is tg) (ht : ∀ (s : Shared) (H : Hp) (C : Addr) (cl : List (Str × Addr)) (fp : List Addr) (p : Addr × Obj), QTs (blkH X s H scope (compEnvC scope cl C X.env) fp p) WNever t ifs)
    (he : ∀ (s : Shared) (H : Hp) (C : Addr) (cl : List (Str × Addr)) (fp : List Addr) (p : Addr × Obj), QE (blkH X s H scope (compEnvC scope cl C X.env) fp p) WNever m elt) (his : ∀ j, j ∈ is → j ∈ own.map (·.2) := by decide) (hs : ∀ x, foldedSetIterable iter X.env x = pure x := by intro _; rfl) :
    QE X W (eLc it g t m (own.map (·.2))) (.ListComp elt [⟨tg, iter, ifs, 0⟩] scope pos) :=
  QE.of (pe_lcH hot hN hi ok (g := tGt X g is) (tt := tT X WNever t) (te := tE X WNever m) hg ht he hs) (lc_go his)
theorem HeldH.hotC {a d : Addr} {c : Str} (h : HeldH X a d c) : L2H.HotC X := let ⟨oe, m, h⟩ := h.ex; ⟨(a, oe), h.hot, m⟩
end
end Q

/-! Q20: short forms for printed texts with exceptions; the facts of the classes, computed. -/
namespace Q
open PySem PySem.Spec PyProof.Rows L2
/-! ### contexts -/
theorem takesM {P : Program} {w : World} {K : PySem.W.Frag} {mg : Str → Option Value} {base : Heap} {N : List Str} {qual : Str} {scope : Scope} {f : Addr} {cdv : Value} {A : Around} {outer : List Env} {s : Shared} {H : Hp} {E : XK} :
    L2N.Takes (cxOf (L2N.CX P w) P w K mg base N qual scope f cdv A outer s H E) (WFn E) := L2N.takes_of rfl rfl rfl rfl
theorem takesN {X : Cx} : L2N.Takes X WNever := fun _ _ ⟨_, _, _, _, _, _, _, _, _, _, _, _, _, _, _, _, z⟩ => z.elim
theorem Def.calX {P : Program} {w : World} {K : PySem.W.Frag} {mg : Str → Option Value} {base : Heap} {X : Cx} {W : WX} {k : Nat} {x : Str} {dfl : List D} {f : List D → AH → Res D} {A : Around} (d : Def P w K mg base (L2N.CX P w) k x dfl f) (hr : Room k A) (tk : L2N.Takes X W)
    (e1 : X.prog = P) (e2 : X.w = w) (e3 : X.K = K) (e4 : X.mg = mg) (e5 : X.base = base) (e6 : X.A = A) : Cal X W x dfl f := by
  subst e1 e2 e3 e4 e5 e6
  exact d.cal hr (L2N.passAt tk)
theorem cxH_held {P : Program} {w : World} {K : PySem.W.Frag} {mg : Str → Option Value} {base : Heap} {N : List Str} {qual : Str} {scope : Scope} {f : Addr} {cdv : Value} {A : Around} {outer : List Env} {s : Shared} {H : Hp} {E : XK} {a d : Addr} {c : Str} {oe : Obj} (hot : Hot mg A a d c oe) :
    HeldH (L2H.cxH CX0 P w K mg base N qual scope f cdv A outer s H E (a, oe)) a d c := ⟨oe, List.mem_cons_self, ⟨hot.hot.1, hot.hot.2⟩, hot.ex⟩
/-! ### classes -/
/-- the class that a clause names -/
def ClM (K : PySem.W.Frag) (mg : Str → Option Value) (x : Str) (c : Ct) : Prop := ∃ v, (mg x = some v ∨ (mg x = none ∧ bootBuiltins x = some v ∧ x ≠ "__name__")) ∧ ∀ (n : Str) (C : Addr) (b : Bool), c n = some b → mg n = some (.ref C) → PySem.W.exmOne K (.ref C) v = some b
theorem ClM.clause {X : Cx} {x : Str} {c : Ct} (h : ClM X.K X.mg x c) (hg : Gl X x := by rfl) (hd : (x == ("__debug__" : Str)) = false := by decide) : Clause X x c := let ⟨v, h1, h2⟩ := h; ⟨v, ⟨hg, hd, h1⟩, h2⟩
def IsM (K : PySem.W.Frag) (mg : Str → Option Value) (T : Str) (ct : Ct) : Prop := ∃ (cv : V) (u : Value), ClsV cv u ∧ ((∃ v, mg T = some v ∧ RelV cv v) ∨ (mg T = none ∧ ∃ v, bootBuiltins T = some v ∧ RelV cv v ∧ T ≠ "__name__")) ∧ ∀ (n : Str) (C : Addr) (b : Bool), ct n = some b → mg n = some (.ref C) → PySem.W.kitOne K (.ref C) u = some b
theorem IsM.isC {X : Cx} {T : Str} {ct : Ct} (h : IsM X.K X.mg T ct) : IsC X T ct := h
/-- the class object at C: of the form of an exception class that is ValueError in the end -/
def oexB (K : PySem.W.Frag) (C : Addr) : Bool := match K.lookup C with
  | some ⟨.type "type", _, .cls z, sl⟩ => (match z.mro, sl.toList with
    | .ref D :: bm, [_, _, _, _, some (.builtin n), _] => D == C && (n == "ValueError.__new__" && (!z.hasDel && (z.hasDict && PySem.HandSPX.refsVE bm)))
    | _, _ => false)
  | _ => false
theorem oexB_ok {K : PySem.W.Frag} {C : Addr} (h : oexB K C = true) : ∃ nm q N bs bm sn sub ab col dd k0 k1 k2 k3 k5, K.lookup C = some (excClassObj nm q C N bs bm true sn sub ab col dd k0 k1 k2 k3 k5 "ValueError.__new__") ∧ PySem.HandSPX.refsVE bm = true := by
  unfold oexB at h
  split at h
  · rename_i dd z sl look
    split at h
    · rename_i D bm k0 k1 k2 k3 n k5 hm hs
      simp only [Bool.and_eq_true, beq_iff_eq, Bool.not_eq_true'] at h
      obtain ⟨rfl, rfl, nd, yd, ve⟩ := h
      obtain ⟨nm, bs, mro, ns, qn, hd, sn, sub, ab, col, del⟩ := z
      dsimp only at hm nd yd
      subst hm nd yd
      have es : sl = #[k0, k1, k2, k3, some (.builtin "ValueError.__new__"), k5] := by
        obtain ⟨l⟩ := sl
        simp only at hs
        rw [hs]
      subst es
      exact ⟨nm, qn, ns, bs, bm, sn, sub, ab, col, dd, k0, k1, k2, k3, k5, look, ve⟩
    · cases h
  · cases h
/-- all that is asked of the class n, with the fields ns -/
def xcB (K : PySem.W.Frag) (n : Str) (ns : List Str) : Bool := oexB K (He.ga K n) && (decide (PySem.W.findIn K (.ref (He.ga K n)) "__setattr__" = some (some (.builtin "object.__setattr__"))) && (decide (PySem.W.typeIn K (.ref (He.ga K n)) = some (.type "type")) && (PySem.W.keepIn K (.ref (He.ga K n)) && (xfB K (He.ga K n) && (xisB K (He.ga K n) &&
  (decide (PySem.W.findIn K (.ref (He.ga K n)) "__init__" = some (some (.ref (He.ma K (He.ga K n) "__init__")))) && (decide (PySem.W.typeIn K (.ref (He.ma K (He.ga K n) "__init__")) = some (.type "function")) && ns.all fun f => decide (PySem.W.findIn K (.ref (He.ga K n)) f = some none))))))))
structure XcOk (K : PySem.W.Frag) (n : Str) (ns : List Str) : Prop where
  oex : OexC K (He.ga K n)
  xf : XfC K (He.ga K n)
  xi : XIs K (He.ga K n)
  ini : PySem.W.findIn K (.ref (He.ga K n)) "__init__" = some (some (.ref (He.ma K (He.ga K n) "__init__")))
  fn : PySem.W.typeIn K (.ref (He.ma K (He.ga K n) "__init__")) = some (.type "function")
  no : ∀ f ∈ ns, PySem.W.findIn K (.ref (He.ga K n)) f = some none
theorem xcB_ok {K : PySem.W.Frag} {n : Str} {ns : List Str} (h : xcB K n ns = true) : XcOk K n ns := by
  unfold xcB at h
  simp only [Bool.and_eq_true, decide_eq_true_eq, List.all_eq_true] at h
  obtain ⟨h1, h2, h3, h4, h5, h6, h7, h8, h9⟩ := h
  have xf := xfB_ok h5
  exact ⟨⟨oexB_ok h1, h2, xf.exC, h3, h4⟩, xf, xisB_ok h6, h7, h8, h9⟩
section
variable {P : Program} {w : World} {K : PySem.W.Frag} {mg : Str → Option Value} {base : Heap} {n : Str} {ns ps : List Str} {fd : FuncData}
theorem XCls.of (x : XcOk K n ns) (g : mg n = some (.ref (He.ga K n))) (F : FnOk P w K mg base CX0 1 (He.ma K (He.ga K n) "__init__") fd ps (spIni K ns)) (b : Binds K fd ps []) : XCls P w K mg base n ns := ⟨_, _, fd, ps, x.oex, x.xf, x.ini, x.fn, F, b, g, x.no⟩
/-- a def that lets nothing out, in no context of exceptions -/
theorem fnOk0 {k : Nat} {f : Addr} {sp : Sp} (F : FnOk P w K mg base (L2N.CX P w) k f fd ps sp) : FnOk P w K mg base CX0 k f fd ps (fun vs H Q _ => sp vs H Q fun _ _ _ => False) :=
  ⟨fun vs H Q E h => F.len vs H Q _ h, fun A outer s H args us vs Q E hr e0 hb rv h => codeAny_mono (F.run A outer s H args us vs Q (fun _ _ _ => False) hr e0 hb rv h) fun r s' q => by
    cases r with
    | error e => exact (let ⟨_, _, _, _, _, _, _, _, _, _, _, _, z⟩ := q; z.elim)
    | ok fl =>
      cases fl with
      | ret u => exact q
      | next => exact q.elim
      | brk => exact q.elim
      | cont => exact q.elim⟩
theorem DefH.mk {k : Nat} {x qual : Str} {params : Arguments} {body : List Stmt} {scope : Scope} {fa : Addr} {f : Addr → Addr → Str → List D → AH → Res D} (F : FunD K x qual params body scope [] [] fa fd) (ok : FnE P w K mg base k fa fd ps (spH P w K mg f)) (g : mg x = some (.ref fa))
    (h : ∀ (kV doc pm : Value) (an : Option Addr) (cdv ct : Value) (us : List Value), us.length = ps.length → bindArgs (PySem.W.fnOf x qual params body scope .none kV doc pm an cdv ct) ⟨us, []⟩ = pure (ps.zip us)) : DefH P w K mg base k x f := ⟨fa, fd, ps, ok, g, F.kp, F.bindsN h⟩
end
theorem hu64H {k : Nat} {A : Around} (r : L2H.RoomH k A) : A.units + 64 < cLine := by have := r.un; omega
end Q

/-! The walk of morethan_k04_whole_books_and_their_limit: printed by gen2.py. -/
namespace G
open PySem PySem.Spec PyProof.Rows L2 Q
def top (i : Nat) : Stmt := PySem.Challenge.pw_morethan_k04_whole_books_and_their_limit.main.body.getD i (.Pass ⟨0, 0, 0, 0⟩)
/-- a statement of a class -/
def mth (i j : Nat) : Stmt := match top i with
  | .ClassDef _ _ _ body .. => body.getD j (.Pass ⟨0, 0, 0, 0⟩)
  | _ => .Pass ⟨0, 0, 0, 0⟩
/-- the fields of the classes -/
def FS (c : Str) : List Str := if c = "BadValue" then ["name"] else if c = "NotPossible" then ["why"] else if c = "TooLarge" then ["what"] else if c = "TextError" then ["problem", "column"] else []
/-- which of them are of a class -/
def CK (T : Str) : Ct := fun c => if FS c = [] then none else some (decide (T = c) || (decide (T = "MoreError") || decide (T = "ValueError")))
def K_MOST_SIGNS : Q.D := .int 12
def K_MOST_SOURCE : Q.D := .int 5
def K_MOST_KINDS : Q.D := .int 30
def K_WORDS : Q.D := .tup [.str "all", .str "many", .str "more", .str "some"]
def K_MOST_ENTRIES : Q.D := .int 150
/-- the free names, the constants -/
structure Fr (mg : Str → Option Value) (K : PySem.W.Frag) : Prop where
  len : mg "len" = none
  isinstance : mg "isinstance" = none
  int : mg "int" = none
  bool : mg "bool" = none
  str : mg "str" = none
  tuple : mg "tuple" = none
  list : mg "list" = none
  all : mg "all" = none
  sorted : mg "sorted" = none
  range : mg "range" = none
  abs : mg "abs" = none
  MOST_SIGNS : GCm mg K "MOST_SIGNS" K_MOST_SIGNS
  MOST_SOURCE : GCm mg K "MOST_SOURCE" K_MOST_SOURCE
  MOST_KINDS : GCm mg K "MOST_KINDS" K_MOST_KINDS
  WORDS : GCm mg K "WORDS" K_WORDS
  MOST_ENTRIES : GCm mg K "MOST_ENTRIES" K_MOST_ENTRIES
/-- the classes -/
structure Xs (P : Program) (w : World) (K : PySem.W.Frag) (mg : Str → Option Value) (base : Heap) : Prop where
  tab : XTab K mg FS
  c_BadValue : XCls P w K mg base "BadValue" ["name"]
  cl_MoreError : ClM K mg "MoreError" (CK "MoreError")
  is_BadValue : IsM K mg "BadValue" (CK "BadValue")
  is_MoreError : IsM K mg "MoreError" (CK "MoreError")
  is_NotPossible : IsM K mg "NotPossible" (CK "NotPossible")
  is_TextError : IsM K mg "TextError" (CK "TextError")
  is_TooLarge : IsM K mg "TooLarge" (CK "TooLarge")
  is_ValueError : IsM K mg "ValueError" (CK "ValueError")

/-! ### _law_one_class, where an exception is handled (level 1) -/
abbrev s_n__law_one_class : Stmt := top 39
abbrev N_n__law_one_class : List Str := ["error", "wanted", "found", "k"]
abbrev P_n__law_one_class : List Str := ["error", "wanted"]
theorem sc_n__law_one_class : FnScope N_n__law_one_class P_n__law_one_class (defScope s_n__law_one_class) := ⟨rfl, rfl, rfl, by decide +kernel, rfl, by decide +kernel, by decide +kernel⟩
noncomputable def mh_n__law_one_class (xa xd : Addr) (xc : Str) : MS :=
  (sCons (sAsg (eLst (aCons (eIsX FS (CK "BadValue") xa xd xc (eVar 0)) (aCons (eIsX FS (CK "NotPossible") xa xd xc (eVar 0)) (aCons (eIsX FS (CK "TooLarge") xa xd xc (eVar 0)) (aCons (eIsX FS (CK "TextError") xa xd xc (eVar 0)) aNil))))) (gSlot 2))
  (sCons (sRet (eAnd (eOp dEq (eVar 2) (eLc (iRange1 (eC (.int 4))) (gSlot 3) tYesM (eOp dEq (eVar 1) (eVar 3)) [3])) (eAnd (eIsX FS (CK "MoreError") xa xd xc (eVar 0)) (eIsX FS (CK "ValueError") xa xd xc (eVar 0)))))
  sNil))
noncomputable def fh_n__law_one_class (xa xd : Addr) (xc : Str) : List Q.D → AH → Res Q.D := fnR true P_n__law_one_class.length N_n__law_one_class.length (mh_n__law_one_class xa xd xc)

/-! ### _law_bad, where an exception is handled (level 2) -/
abbrev s_n__law_bad : Stmt := top 40
abbrev N_n__law_bad : List Str := ["error", "name"]
abbrev P_n__law_bad : List Str := ["error", "name"]
theorem sc_n__law_bad : FnScope N_n__law_bad P_n__law_bad (defScope s_n__law_bad) := ⟨rfl, rfl, rfl, by decide +kernel, rfl, by decide +kernel, by decide +kernel⟩
noncomputable def mh_n__law_bad (xa xd : Addr) (xc : Str) : MS :=
  (sCons (sRet (eAnd (eFnH (fh_n__law_one_class xa xd xc) (aCons (eVar 0) (aCons (eC (.int 0)) aNil))) (eAnd (eIsi "str" (eFld FS xa xd xc "name" (eVar 0))) (eOp dEq (eFld FS xa xd xc "name" (eVar 0)) (eVar 1)))))
  sNil)
noncomputable def fh_n__law_bad (xa xd : Addr) (xc : Str) : List Q.D → AH → Res Q.D := fnR true P_n__law_bad.length N_n__law_bad.length (mh_n__law_bad xa xd xc)

/-! ### is_integer (level 1) -/
abbrev s_is_integer : Stmt := top 10
abbrev N_is_integer : List Str := ["value"]
abbrev P_is_integer : List Str := ["value"]
theorem sc_is_integer : FnScope N_is_integer P_is_integer (defScope s_is_integer) := ⟨rfl, rfl, rfl, by decide +kernel, rfl, by decide +kernel, by decide +kernel⟩
noncomputable def m_is_integer : MS :=
  (sCons (sRet (eAnd (eIsi "int" (eVar 0)) (eNot (eIsi "bool" (eVar 0)))))
  sNil)
noncomputable def f_is_integer : List Q.D → AH → Res Q.D := fnR true P_is_integer.length N_is_integer.length m_is_integer

/-! ### is_bit (level 1) -/
abbrev s_is_bit : Stmt := top 11
abbrev N_is_bit : List Str := ["value"]
abbrev P_is_bit : List Str := ["value"]
theorem sc_is_bit : FnScope N_is_bit P_is_bit (defScope s_is_bit) := ⟨rfl, rfl, rfl, by decide +kernel, rfl, by decide +kernel, by decide +kernel⟩
noncomputable def m_is_bit : MS :=
  (sCons (sRet (eIsi "bool" (eVar 0)))
  sNil)
noncomputable def f_is_bit : List Q.D → AH → Res Q.D := fnR true P_is_bit.length N_is_bit.length m_is_bit

/-! ### is_from_to (level 2) -/
abbrev s_is_from_to : Stmt := top 12
abbrev N_is_from_to : List Str := ["value", "least", "most"]
abbrev P_is_from_to : List Str := ["value", "least", "most"]
theorem sc_is_from_to : FnScope N_is_from_to P_is_from_to (defScope s_is_from_to) := ⟨rfl, rfl, rfl, by decide +kernel, rfl, by decide +kernel, by decide +kernel⟩
noncomputable def m_is_from_to : MS :=
  (sCons (sRet (eAnd (eFn f_is_integer [] (aCons (eVar 0) aNil)) (eChain dLe dLe (eVar 1) (eVar 0) (eVar 2))))
  sNil)
noncomputable def f_is_from_to : List Q.D → AH → Res Q.D := fnR true P_is_from_to.length N_is_from_to.length m_is_from_to

/-! ### is_tuple_of (level 1) -/
abbrev s_is_tuple_of : Stmt := top 13
abbrev N_is_tuple_of : List Str := ["value", "least", "most"]
abbrev P_is_tuple_of : List Str := ["value", "least", "most"]
theorem sc_is_tuple_of : FnScope N_is_tuple_of P_is_tuple_of (defScope s_is_tuple_of) := ⟨rfl, rfl, rfl, by decide +kernel, rfl, by decide +kernel, by decide +kernel⟩
noncomputable def m_is_tuple_of : MS :=
  (sCons (sRet (eAnd (eIsi "tuple" (eVar 0)) (eChain dLe dLe (eVar 1) (eCall gLen (aCons (eVar 0) aNil)) (eVar 2))))
  sNil)
noncomputable def f_is_tuple_of : List Q.D → AH → Res Q.D := fnR true P_is_tuple_of.length N_is_tuple_of.length m_is_tuple_of

/-! ### is_ascending (level 1) -/
abbrev s_is_ascending : Stmt := top 14
abbrev N_is_ascending : List Str := ["rows", "at"]
abbrev P_is_ascending : List Str := ["rows"]
theorem sc_is_ascending : FnScope N_is_ascending P_is_ascending (defScope s_is_ascending) := ⟨rfl, rfl, rfl, by decide +kernel, rfl, by decide +kernel, by decide +kernel⟩
noncomputable def m_is_ascending : MS :=
  (sCons (sRet (eCall gAll (aCons (eLc (iRange1 (eOp dSub (eCall gLen (aCons (eVar 0) aNil)) (eC (.int 1)))) (gSlot 1) tYesM (eOp dLt (eOp dIx (eVar 0) (eVar 1)) (eOp dIx (eVar 0) (eOp dPlus (eVar 1) (eC (.int 1))))) [1]) aNil)))
  sNil)
noncomputable def f_is_ascending : List Q.D → AH → Res Q.D := fnR true P_is_ascending.length N_is_ascending.length m_is_ascending

/-! ### without_doubles (level 1) -/
abbrev s_without_doubles : Stmt := top 15
abbrev N_without_doubles : List Str := ["rows", "found", "row"]
abbrev P_without_doubles : List Str := ["rows"]
theorem sc_without_doubles : FnScope N_without_doubles P_without_doubles (defScope s_without_doubles) := ⟨rfl, rfl, rfl, by decide +kernel, rfl, by decide +kernel, by decide +kernel⟩
noncomputable def b_without_doubles_1 : MS :=
  (sCons (sAsg (eC (.bl true)) (gSubD dSet (eVar 1) (eVar 2)))
  sNil)
noncomputable def m_without_doubles : MS :=
  (sCons (sAsg eNewT (gSlot 1))
  (sCons (sFor (iSeq (eVar 0)) (gSlot 2) b_without_doubles_1)
  (sCons (sRet (eCall gListF (aCons (eVar 1) aNil)))
  sNil)))
noncomputable def f_without_doubles : List Q.D → AH → Res Q.D := fnR true P_without_doubles.length N_without_doubles.length m_without_doubles

/-! ### is_kind (level 1) -/
abbrev s_is_kind : Stmt := top 16
abbrev N_is_kind : List Str := ["value", "sign"]
abbrev P_is_kind : List Str := ["value"]
theorem sc_is_kind : FnScope N_is_kind P_is_kind (defScope s_is_kind) := ⟨rfl, rfl, rfl, by decide +kernel, rfl, by decide +kernel, by decide +kernel⟩
noncomputable def m_is_kind : MS :=
  (sCons (sIf (tOrM (tNotM (mB (eIsi "str" (eVar 0)))) (tNotM (mB (eChain dLe dLe (eC (.int 1)) (eCall gLen (aCons (eVar 0) aNil)) (eC K_MOST_SIGNS))))) (sCons (sRet (eC (.bl false)))
  sNil) sNil)
  (sCons (sRet (eAnd (eChain dLe dLe (eC (.str "a")) (eOp dIx (eVar 0) (eC (.int 0))) (eC (.str "z"))) (eCall gAll (aCons (eLc (iSeq (eVar 0)) (gSlot 1) tYesM (eOr (eChain dLe dLe (eC (.str "a")) (eVar 1) (eC (.str "z"))) (eChain dLe dLe (eC (.str "0")) (eVar 1) (eC (.str "9")))) [1]) aNil))))
  sNil))
noncomputable def f_is_kind : List Q.D → AH → Res Q.D := fnR true P_is_kind.length N_is_kind.length m_is_kind

/-! ### is_source (level 3) -/
abbrev s_is_source : Stmt := top 17
abbrev N_is_source : List Str := ["value"]
abbrev P_is_source : List Str := ["value"]
theorem sc_is_source : FnScope N_is_source P_is_source (defScope s_is_source) := ⟨rfl, rfl, rfl, by decide +kernel, rfl, by decide +kernel, by decide +kernel⟩
noncomputable def m_is_source : MS :=
  (sCons (sRet (eFn f_is_from_to [] (aCons (eVar 0) (aCons (eC (.int 0)) (aCons (eC K_MOST_SOURCE) aNil)))))
  sNil)
noncomputable def f_is_source : List Q.D → AH → Res Q.D := fnR true P_is_source.length N_is_source.length m_is_source

/-! ### is_kind_row (level 2) -/
abbrev s_is_kind_row : Stmt := top 18
abbrev N_is_kind_row : List Str := ["value", "least", "one"]
abbrev P_is_kind_row : List Str := ["value", "least"]
theorem sc_is_kind_row : FnScope N_is_kind_row P_is_kind_row (defScope s_is_kind_row) := ⟨rfl, rfl, rfl, by decide +kernel, rfl, by decide +kernel, by decide +kernel⟩
noncomputable def m_is_kind_row : MS :=
  (sCons (sRet (eAnd (eFn f_is_tuple_of [] (aCons (eVar 0) (aCons (eVar 1) (aCons (eC K_MOST_KINDS) aNil)))) (eAnd (eCall gAll (aCons (eLc (iSeq (eVar 0)) (gSlot 2) tYesM (eFn f_is_kind [] (aCons (eVar 2) aNil)) [2]) aNil)) (eFn f_is_ascending [] (aCons (eVar 0) aNil)))))
  sNil)
noncomputable def f_is_kind_row : List Q.D → AH → Res Q.D := fnR true P_is_kind_row.length N_is_kind_row.length m_is_kind_row

/-! ### is_kinds (level 3) -/
abbrev s_is_kinds : Stmt := top 19
abbrev N_is_kinds : List Str := ["value"]
abbrev P_is_kinds : List Str := ["value"]
theorem sc_is_kinds : FnScope N_is_kinds P_is_kinds (defScope s_is_kinds) := ⟨rfl, rfl, rfl, by decide +kernel, rfl, by decide +kernel, by decide +kernel⟩
noncomputable def m_is_kinds : MS :=
  (sCons (sRet (eFn f_is_kind_row [] (aCons (eVar 0) (aCons (eC (.int 1)) aNil))))
  sNil)
noncomputable def f_is_kinds : List Q.D → AH → Res Q.D := fnR true P_is_kinds.length N_is_kinds.length m_is_kinds

/-! ### is_term_over (level 2) -/
abbrev s_is_term_over : Stmt := top 20
abbrev N_is_term_over : List Str := ["kinds", "value"]
abbrev P_is_term_over : List Str := ["kinds", "value"]
theorem sc_is_term_over : FnScope N_is_term_over P_is_term_over (defScope s_is_term_over) := ⟨rfl, rfl, rfl, by decide +kernel, rfl, by decide +kernel, by decide +kernel⟩
noncomputable def m_is_term_over : MS :=
  (sCons (sRet (eAnd (eFn f_is_tuple_of [] (aCons (eVar 1) (aCons (eC (.int 2)) (aCons (eC (.int 2)) aNil)))) (eAnd (eIsi "str" (eOp dIx (eVar 1) (eC (.int 0)))) (eAnd (eOp (dIn false) (eOp dIx (eVar 1) (eC (.int 0))) (eVar 0)) (eFn f_is_bit [] (aCons (eOp dIx (eVar 1) (eC (.int 1))) aNil))))))
  sNil)
noncomputable def f_is_term_over : List Q.D → AH → Res Q.D := fnR true P_is_term_over.length N_is_term_over.length m_is_term_over

/-! ### is_word_and (level 2) -/
abbrev s_is_word_and : Stmt := top 23
abbrev N_is_word_and : List Str := ["value", "size"]
abbrev P_is_word_and : List Str := ["value", "size"]
theorem sc_is_word_and : FnScope N_is_word_and P_is_word_and (defScope s_is_word_and) := ⟨rfl, rfl, rfl, by decide +kernel, rfl, by decide +kernel, by decide +kernel⟩
noncomputable def m_is_word_and : MS :=
  (sCons (sRet (eAnd (eFn f_is_tuple_of [] (aCons (eVar 0) (aCons (eVar 1) (aCons (eVar 1) aNil)))) (eAnd (eIsi "str" (eOp dIx (eVar 0) (eC (.int 0)))) (eOp (dIn false) (eOp dIx (eVar 0) (eC (.int 0))) (eC K_WORDS)))))
  sNil)
noncomputable def f_is_word_and : List Q.D → AH → Res Q.D := fnR true P_is_word_and.length N_is_word_and.length m_is_word_and

/-! ### is_sentence_over (level 3) -/
abbrev s_is_sentence_over : Stmt := top 24
abbrev N_is_sentence_over : List Str := ["kinds", "value"]
abbrev P_is_sentence_over : List Str := ["kinds", "value"]
theorem sc_is_sentence_over : FnScope N_is_sentence_over P_is_sentence_over (defScope s_is_sentence_over) := ⟨rfl, rfl, rfl, by decide +kernel, rfl, by decide +kernel, by decide +kernel⟩
noncomputable def m_is_sentence_over : MS :=
  (sCons (sRet (eAnd (eFn f_is_word_and [] (aCons (eVar 1) (aCons (eC (.int 3)) aNil))) (eAnd (eFn f_is_term_over [] (aCons (eVar 0) (aCons (eOp dIx (eVar 1) (eC (.int 1))) aNil))) (eFn f_is_term_over [] (aCons (eVar 0) (aCons (eOp dIx (eVar 1) (eC (.int 2))) aNil))))))
  sNil)
noncomputable def f_is_sentence_over : List Q.D → AH → Res Q.D := fnR true P_is_sentence_over.length N_is_sentence_over.length m_is_sentence_over

/-! ### is_entry (level 4) -/
abbrev s_is_entry : Stmt := top 27
abbrev N_is_entry : List Str := ["kinds", "value"]
abbrev P_is_entry : List Str := ["kinds", "value"]
theorem sc_is_entry : FnScope N_is_entry P_is_entry (defScope s_is_entry) := ⟨rfl, rfl, rfl, by decide +kernel, rfl, by decide +kernel, by decide +kernel⟩
noncomputable def m_is_entry : MS :=
  (sCons (sRet (eAnd (eFn f_is_tuple_of [] (aCons (eVar 1) (aCons (eC (.int 2)) (aCons (eC (.int 2)) aNil)))) (eAnd (eFn f_is_source [] (aCons (eOp dIx (eVar 1) (eC (.int 0))) aNil)) (eFn f_is_sentence_over [] (aCons (eVar 0) (aCons (eOp dIx (eVar 1) (eC (.int 1))) aNil))))))
  sNil)
noncomputable def f_is_entry : List Q.D → AH → Res Q.D := fnR true P_is_entry.length N_is_entry.length m_is_entry

/-! ### is_book (level 5) -/
abbrev s_is_book : Stmt := top 28
abbrev N_is_book : List Str := ["value", "kinds", "entries", "entry"]
abbrev P_is_book : List Str := ["value"]
theorem sc_is_book : FnScope N_is_book P_is_book (defScope s_is_book) := ⟨rfl, rfl, rfl, by decide +kernel, rfl, by decide +kernel, by decide +kernel⟩
noncomputable def m_is_book : MS :=
  (sCons (sIf (tOrM (tNotM (mB (eFn f_is_tuple_of [] (aCons (eVar 0) (aCons (eC (.int 2)) (aCons (eC (.int 2)) aNil)))))) (tNotM (mB (eFn f_is_kinds [] (aCons (eOp dIx (eVar 0) (eC (.int 0))) aNil))))) (sCons (sRet (eC (.bl false)))
  sNil) sNil)
  (sCons (sAsg (eVar 0) (gTupD 2 (gsCons (gSlot 1) (gsCons (gSlot 2) gsNil))))
  (sCons (sIf (tOrM (tNotM (mB (eFn f_is_tuple_of [] (aCons (eVar 2) (aCons (eC (.int 0)) (aCons (eC K_MOST_ENTRIES) aNil)))))) (tNotM (mB (eCall gAll (aCons (eLc (iSeq (eVar 2)) (gSlot 3) tYesM (eFn f_is_entry [] (aCons (eVar 1) (aCons (eVar 3) aNil))) [3]) aNil))))) (sCons (sRet (eC (.bl false)))
  sNil) sNil)
  (sCons (sRet (eOp dEq (eCall gLen (aCons (eFn f_without_doubles [] (aCons (eVar 2) aNil)) aNil)) (eCall gLen (aCons (eVar 2) aNil))))
  sNil))))
noncomputable def f_is_book : List Q.D → AH → Res Q.D := fnR true P_is_book.length N_is_book.length m_is_book

/-! ### check_book (level 6) -/
abbrev s_check_book : Stmt := top 29
abbrev N_check_book : List Str := ["book", "name"]
abbrev P_check_book : List Str := ["book", "name"]
theorem sc_check_book : FnScope N_check_book P_check_book (defScope s_check_book) := ⟨rfl, rfl, rfl, by decide +kernel, rfl, by decide +kernel, by decide +kernel⟩
noncomputable def m_check_book : MS :=
  (sCons (sIf (tNotM (mB (eFn f_is_book [] (aCons (eVar 0) aNil)))) (sCons (sRaise "BadValue" ["name"] (aCons (eVar 1) aNil))
  sNil) sNil)
  sNil)
noncomputable def f_check_book : List Q.D → AH → Res Q.D := fnR true P_check_book.length N_check_book.length m_check_book

/-! ### sentences_among (level 2) -/
abbrev s_sentences_among : Stmt := top 30
abbrev N_sentences_among : List Str := ["book", "source", "sentence"]
abbrev P_sentences_among : List Str := ["book"]
theorem sc_sentences_among : FnScope N_sentences_among P_sentences_among (defScope s_sentences_among) := ⟨rfl, rfl, rfl, by decide +kernel, rfl, by decide +kernel, by decide +kernel⟩
noncomputable def m_sentences_among : MS :=
  (sCons (sRet (eCall gTuple (aCons (eFn f_without_doubles [] (aCons (eLc (iSeq (eOp dIx (eVar 0) (eC (.int 1)))) (gTupD 2 (gsCons (gSlot 1) (gsCons (gSlot 2) gsNil))) tYesM (eVar 2) [1, 2]) aNil)) aNil)))
  sNil)
noncomputable def f_sentences_among : List Q.D → AH → Res Q.D := fnR true P_sentences_among.length N_sentences_among.length m_sentences_among

/-! ### told_sentences (level 7) -/
abbrev s_told_sentences : Stmt := top 31
abbrev N_told_sentences : List Str := ["book"]
abbrev P_told_sentences : List Str := ["book"]
theorem sc_told_sentences : FnScope N_told_sentences P_told_sentences (defScope s_told_sentences) := ⟨rfl, rfl, rfl, by decide +kernel, rfl, by decide +kernel, by decide +kernel⟩
noncomputable def m_told_sentences : MS :=
  (sCons (sExpr (eFn f_check_book [.str "book"] (aCons (eVar 0) aNil)))
  (sCons (sRet (eFn f_sentences_among [] (aCons (eVar 0) aNil)))
  sNil))
noncomputable def f_told_sentences : List Q.D → AH → Res Q.D := fnR true P_told_sentences.length N_told_sentences.length m_told_sentences

/-! ### sizes_of (level 7) -/
abbrev s_sizes_of : Stmt := top 32
abbrev N_sizes_of : List Str := ["book"]
abbrev P_sizes_of : List Str := ["book"]
theorem sc_sizes_of : FnScope N_sizes_of P_sizes_of (defScope s_sizes_of) := ⟨rfl, rfl, rfl, by decide +kernel, rfl, by decide +kernel, by decide +kernel⟩
noncomputable def m_sizes_of : MS :=
  (sCons (sExpr (eFn f_check_book [.str "book"] (aCons (eVar 0) aNil)))
  (sCons (sRet (eTup (aCons (eCall gLen (aCons (eOp dIx (eVar 0) (eC (.int 0))) aNil)) (aCons (eCall gLen (aCons (eOp dIx (eVar 0) (eC (.int 1))) aNil)) (aCons (eCall gLen (aCons (eFn f_sentences_among [] (aCons (eVar 0) aNil)) aNil)) aNil)))))
  sNil))
noncomputable def f_sizes_of : List Q.D → AH → Res Q.D := fnR true P_sizes_of.length N_sizes_of.length m_sizes_of

/-! ### _law_stream (level 1) -/
abbrev s_n__law_stream : Stmt := top 34
abbrev N_n__law_stream : List Str := ["script"]
abbrev P_n__law_stream : List Str := ["script"]
theorem sc_n__law_stream : FnScope N_n__law_stream P_n__law_stream (defScope s_n__law_stream) := ⟨rfl, rfl, rfl, by decide +kernel, rfl, by decide +kernel, by decide +kernel⟩
noncomputable def m_n__law_stream : MS :=
  (sCons (sRet (eNewL (aCons (eCall gListF (aCons (eVar 0) aNil)) (aCons (eC (.int 0)) (aCons (eC (.int 0)) aNil)))))
  sNil)
noncomputable def f_n__law_stream : List Q.D → AH → Res Q.D := fnR false P_n__law_stream.length N_n__law_stream.length m_n__law_stream

/-! ### _law_next (level 1) -/
abbrev s_n__law_next : Stmt := top 35
abbrev N_n__law_next : List Str := ["stream", "many", "digit", "k", "cell"]
abbrev P_n__law_next : List Str := ["stream", "many"]
theorem sc_n__law_next : FnScope N_n__law_next P_n__law_next (defScope s_n__law_next) := ⟨rfl, rfl, rfl, by decide +kernel, rfl, by decide +kernel, by decide +kernel⟩
noncomputable def m_n__law_next : MS :=
  (sCons (sIf (mB (eOp dEq (eOp dIx (eVar 0) (eC (.int 1))) (eC (.int 0)))) (sCons (sAsg (eOp dIx (eVar 0) (eC (.int 2))) (gSlot 3))
  (sCons (sAsg (eOp dPlus (eC (.int 7)) (eVar 3)) (gSlot 4))
  (sCons (sIf (mB (eOp dLt (eVar 3) (eCall gLen (aCons (eOp dIx (eVar 0) (eC (.int 0))) aNil)))) (sCons (sAsg (eOp dMod (eCall gInt (aCons (eCall gAbs (aCons (eOp dIx (eOp dIx (eVar 0) (eC (.int 0))) (eVar 3)) aNil)) aNil)) (eOp dPow (eC (.int 10)) (eC (.int 60)))) (gSlot 4))
  sNil) sNil)
  (sCons (sIf (mB (eOp dLt (eVar 4) (eOp dPow (eC (.int 10)) (eC (.int 18))))) (sCons (sAsg (eOp dMod (eCall gInt (aCons (eOp dPlus (eOp dPlus (eOp dMul (eVar 4) (eC (.int 48271))) (eOp dMul (eVar 3) (eC (.int 69621)))) (eC (.int 11))) aNil)) (eC (.int 2147483647))) (gSlot 4))
  (sCons (sAsg (eOp dPlus (eOp dMul (eOp dMod (eCall gInt (aCons (eOp dPlus (eOp dMul (eVar 4) (eC (.int 16807))) (eC (.int 13))) aNil)) (eC (.int 2147483647))) (eC (.int 65537))) (eVar 4)) (gSlot 4))
  sNil)) sNil)
  (sCons (sAsg (eVar 4) (gSubD dSet (eVar 0) (eC (.int 1))))
  (sCons (sAsg (eOp dPlus (eVar 3) (eC (.int 1))) (gSubD dSet (eVar 0) (eC (.int 2))))
  sNil)))))) sNil)
  (sCons (sAsg (eOp dMod (eCall gInt (aCons (eOp dIx (eVar 0) (eC (.int 1))) aNil)) (eVar 1)) (gSlot 2))
  (sCons (sAsg (eOp dDiv (eOp dIx (eVar 0) (eC (.int 1))) (eVar 1)) (gSubD dSet (eVar 0) (eC (.int 1))))
  (sCons (sRet (eVar 2))
  sNil))))
noncomputable def f_n__law_next : List Q.D → AH → Res Q.D := fnR true P_n__law_next.length N_n__law_next.length m_n__law_next

/-! ### _law_pick (level 2) -/
abbrev s_n__law_pick : Stmt := top 36
abbrev N_n__law_pick : List Str := ["stream", "rows"]
abbrev P_n__law_pick : List Str := ["stream", "rows"]
theorem sc_n__law_pick : FnScope N_n__law_pick P_n__law_pick (defScope s_n__law_pick) := ⟨rfl, rfl, rfl, by decide +kernel, rfl, by decide +kernel, by decide +kernel⟩
noncomputable def m_n__law_pick : MS :=
  (sCons (sRet (eOp dIx (eVar 1) (eFn f_n__law_next [] (aCons (eVar 0) (aCons (eCall gLen (aCons (eVar 1) aNil)) aNil)))))
  sNil)
noncomputable def f_n__law_pick : List Q.D → AH → Res Q.D := fnR true P_n__law_pick.length N_n__law_pick.length m_n__law_pick

/-! ### _law_says (level 1) -/
abbrev s_n__law_says : Stmt := top 37
abbrev N_n__law_says : List Str := ["actual", "due"]
abbrev P_n__law_says : List Str := ["actual", "due"]
theorem sc_n__law_says : FnScope N_n__law_says P_n__law_says (defScope s_n__law_says) := ⟨rfl, rfl, rfl, by decide +kernel, rfl, by decide +kernel, by decide +kernel⟩
noncomputable def m_n__law_says : MS :=
  (sCons (sRet (eIf (mB (eVar 1)) (eOp dIs (eVar 0) (eC (.bl true))) (eOp dIs (eVar 0) (eC (.bl false)))))
  sNil)
noncomputable def f_n__law_says : List Q.D → AH → Res Q.D := fnR true P_n__law_says.length N_n__law_says.length m_n__law_says

/-! ### _law_same (level 1) -/
abbrev s_n__law_same : Stmt := top 38
abbrev N_n__law_same : List Str := ["actual", "due", "left", "turn", "one", "other", "at"]
abbrev P_n__law_same : List Str := ["actual", "due"]
theorem sc_n__law_same : FnScope N_n__law_same P_n__law_same (defScope s_n__law_same) := ⟨rfl, rfl, rfl, by decide +kernel, rfl, by decide +kernel, by decide +kernel⟩
noncomputable def b_n__law_same_1 : MS :=
  (sCons (sIf (mB (eOp dEq (eCall gLen (aCons (eVar 2) aNil)) (eC (.int 0)))) (sCons (sRet (eC (.bl true)))
  sNil) sNil)
  (sCons (sAsg (eMeth "list" mPop (eVar 2) aNil) (gTupD 2 (gsCons (gSlot 4) (gsCons (gSlot 5) gsNil))))
  (sCons (sIf (tOrM (mB (eIsi "tuple" (eVar 5))) (mB (eIsi "list" (eVar 5)))) (sCons (sIf (tOrM (mB (eOp dNe (eIsi "tuple" (eVar 5)) (eIsi "tuple" (eVar 4)))) (mB (eOp dNe (eIsi "list" (eVar 5)) (eIsi "list" (eVar 4))))) (sCons (sRet (eC (.bl false)))
  sNil) sNil)
  (sCons (sIf (mB (eOp dNe (eCall gLen (aCons (eVar 4) aNil)) (eCall gLen (aCons (eVar 5) aNil)))) (sCons (sRet (eC (.bl false)))
  sNil) sNil)
  (sCons (sExpr (eMeth "list" mExtend (eVar 2) (aCons (eLc (iRange1 (eCall gLen (aCons (eVar 5) aNil))) (gSlot 6) tYesM (eTup (aCons (eOp dIx (eVar 4) (eVar 6)) (aCons (eOp dIx (eVar 5) (eVar 6)) aNil))) [6]) aNil)))
  sNil))) (sCons (sIf (mB (eIsi "bool" (eVar 5))) (sCons (sIf (tOrM (tNotM (mB (eIsi "bool" (eVar 4)))) (mB (eOp dNe (eVar 4) (eVar 5)))) (sCons (sRet (eC (.bl false)))
  sNil) sNil)
  sNil) (sCons (sIf (mB (eIsi "int" (eVar 5))) (sCons (sIf (tOrM (tNotM (mB (eIsi "int" (eVar 4)))) (tOrM (mB (eIsi "bool" (eVar 4))) (mB (eOp dNe (eVar 4) (eVar 5))))) (sCons (sRet (eC (.bl false)))
  sNil) sNil)
  sNil) (sCons (sIf (mB (eIsi "str" (eVar 5))) (sCons (sIf (tOrM (tNotM (mB (eIsi "str" (eVar 4)))) (mB (eOp dNe (eVar 4) (eVar 5)))) (sCons (sRet (eC (.bl false)))
  sNil) sNil)
  sNil) (sCons (sIf (mB (eOp dNotN (eVar 4) (eC .non))) (sCons (sRet (eC (.bl false)))
  sNil) sNil)
  sNil))
  sNil))
  sNil))
  sNil))
  sNil)))
noncomputable def m_n__law_same : MS :=
  (sCons (sAsg (eNewL (aCons (eTup (aCons (eVar 0) (aCons (eVar 1) aNil))) aNil)) (gSlot 2))
  (sCons (sFor (iRange1 (eC (.int 2000000))) (gSlot 3) b_n__law_same_1)
  (sCons (sRet (eC (.bl false)))
  sNil)))
noncomputable def f_n__law_same : List Q.D → AH → Res Q.D := fnR true P_n__law_same.length N_n__law_same.length m_n__law_same

/-! ### _law_kind (level 3) -/
abbrev s_n__law_kind : Stmt := top 41
abbrev N_n__law_kind : List Str := ["stream", "name", "turn", "texts"]
abbrev P_n__law_kind : List Str := ["stream"]
theorem sc_n__law_kind : FnScope N_n__law_kind P_n__law_kind (defScope s_n__law_kind) := ⟨rfl, rfl, rfl, by decide +kernel, rfl, by decide +kernel, by decide +kernel⟩
noncomputable def b_n__law_kind_1 : MS :=
  (sCons (sAsg (eOp dPlus (eVar 1) (eOp dIx (eC (.str "abcdefghijklmnopqrstuvwxyz0123456789")) (eFn f_n__law_next [] (aCons (eVar 0) (aCons (eC (.int 36)) aNil))))) (gSlot 1))
  sNil)
noncomputable def m_n__law_kind : MS :=
  (sCons (sIf (mB (eOp dEq (eFn f_n__law_next [] (aCons (eVar 0) (aCons (eC (.int 5)) aNil))) (eC (.int 0)))) (sCons (sAsg (eC (.str "all some more many none half only not than equal world sort kinds plain a b z a0 az")) (gSlot 3))
  (sCons (sRet (eFn f_n__law_pick [] (aCons (eVar 0) (aCons (eMeth "str" mSplit (eVar 3) (aCons (eC (.str " ")) aNil)) aNil))))
  sNil)) sNil)
  (sCons (sAsg (eOp dIx (eC (.str "abcdefghijklmnopqrstuvwxyz")) (eFn f_n__law_next [] (aCons (eVar 0) (aCons (eC (.int 26)) aNil)))) (gSlot 1))
  (sCons (sFor (iRange1 (eFn f_n__law_pick [] (aCons (eVar 0) (aCons (eLst (aCons (eC (.int 0)) (aCons (eC (.int 1)) (aCons (eC (.int 2)) (aCons (eC (.int 5)) (aCons (eC (.int 11)) aNil)))))) aNil)))) (gSlot 2) b_n__law_kind_1)
  (sCons (sRet (eVar 1))
  sNil))))
noncomputable def f_n__law_kind : List Q.D → AH → Res Q.D := fnR true P_n__law_kind.length N_n__law_kind.length m_n__law_kind

/-! ### _law_kinds (level 4) -/
abbrev s_n__law_kinds : Stmt := top 42
abbrev N_n__law_kinds : List Str := ["stream", "many", "found", "stem", "at", "first", "close", "k", "name", "number"]
abbrev P_n__law_kinds : List Str := ["stream", "many"]
theorem sc_n__law_kinds : FnScope N_n__law_kinds P_n__law_kinds (defScope s_n__law_kinds) := ⟨rfl, rfl, rfl, by decide +kernel, rfl, by decide +kernel, by decide +kernel⟩
noncomputable def b_n__law_kinds_1 : MS :=
  (sCons (sIf (mB (eOp dEq (eCall gLen (aCons (eVar 2) aNil)) (eVar 1))) (sCons sBreak
  sNil) sNil)
  (sCons (sAsg (eIf (tAndM (mB (eOp dEq (eVar 6) (eC (.int 0)))) (mB (eOp dLt (eVar 7) (eOp dMul (eC (.int 3)) (eVar 1))))) (eFn f_n__law_kind [] (aCons (eVar 0) aNil)) (eC (.str "a"))) (gSlot 8))
  (sCons (sIf (tOrM (mB (eOp dEq (eVar 6) (eC (.int 1)))) (mB (eOp dGe (eVar 7) (eOp dMul (eC (.int 3)) (eVar 1))))) (sCons (sAsg (eOp dMod (eCall gInt (aCons (eOp dPlus (eVar 5) (eOp dMul (eVar 7) (eC (.int 7)))) aNil)) (eC (.int 936))) (gSlot 9))
  (sCons (sAsg (eOp dPlus (eOp dPlus (eOp dPlus (eSl dSl (eVar 3) oNil (oSome (eVar 4))) (eOp dIx (eC (.str "abcdefghijklmnopqrstuvwxyz")) (eOp dDiv (eVar 9) (eC (.int 36))))) (eOp dIx (eC (.str "abcdefghijklmnopqrstuvwxyz0123456789")) (eOp dMod (eCall gInt (aCons (eVar 9) aNil)) (eC (.int 36))))) (eSl dSl (eVar 3) (oSome (eVar 4)) oNil)) (gSlot 8))
  sNil)) sNil)
  (sCons (sIf (mB (eOp (dIn true) (eVar 8) (eVar 2))) (sCons (sExpr (eMeth "list" mAppend (eVar 2) (aCons (eVar 8) aNil)))
  sNil) sNil)
  sNil))))
noncomputable def m_n__law_kinds : MS :=
  (sCons (sAsg (eNewL aNil) (gSlot 2))
  (sCons (sAsg (eSl dSl (eFn f_n__law_kind [] (aCons (eVar 0) aNil)) oNil (oSome (eC (.int 10)))) (gSlot 3))
  (sCons (sAsg (eFn f_n__law_next [] (aCons (eVar 0) (aCons (eOp dPlus (eCall gLen (aCons (eVar 3) aNil)) (eC (.int 1))) aNil))) (gSlot 4))
  (sCons (sAsg (eFn f_n__law_next [] (aCons (eVar 0) (aCons (eC (.int 936)) aNil))) (gSlot 5))
  (sCons (sAsg (eFn f_n__law_next [] (aCons (eVar 0) (aCons (eC (.int 2)) aNil))) (gSlot 6))
  (sCons (sFor (iRange1 (eC (.int 2000))) (gSlot 7) b_n__law_kinds_1)
  (sCons (sRet (eCall gTuple (aCons (eCall gSortF (aCons (eVar 2) aNil)) aNil)))
  sNil)))))))
noncomputable def f_n__law_kinds : List Q.D → AH → Res Q.D := fnR true P_n__law_kinds.length N_n__law_kinds.length m_n__law_kinds

/-! ### _law_bit (level 2) -/
abbrev s_n__law_bit : Stmt := top 43
abbrev N_n__law_bit : List Str := ["stream"]
abbrev P_n__law_bit : List Str := ["stream"]
theorem sc_n__law_bit : FnScope N_n__law_bit P_n__law_bit (defScope s_n__law_bit) := ⟨rfl, rfl, rfl, by decide +kernel, rfl, by decide +kernel, by decide +kernel⟩
noncomputable def m_n__law_bit : MS :=
  (sCons (sRet (eOp dEq (eFn f_n__law_next [] (aCons (eVar 0) (aCons (eC (.int 2)) aNil))) (eC (.int 1))))
  sNil)
noncomputable def f_n__law_bit : List Q.D → AH → Res Q.D := fnR true P_n__law_bit.length N_n__law_bit.length m_n__law_bit

/-! ### _law_sentence (level 3) -/
abbrev s_n__law_sentence : Stmt := top 44
abbrev N_n__law_sentence : List Str := ["stream", "kinds", "word", "a", "b"]
abbrev P_n__law_sentence : List Str := ["stream", "kinds"]
theorem sc_n__law_sentence : FnScope N_n__law_sentence P_n__law_sentence (defScope s_n__law_sentence) := ⟨rfl, rfl, rfl, by decide +kernel, rfl, by decide +kernel, by decide +kernel⟩
noncomputable def m_n__law_sentence : MS :=
  (sCons (sAsg (eFn f_n__law_pick [] (aCons (eVar 0) (aCons (eLst (aCons (eC (.str "all")) (aCons (eC (.str "some")) (aCons (eC (.str "more")) (aCons (eC (.str "many")) aNil))))) aNil))) (gSlot 2))
  (sCons (sAsg (eTup (aCons (eFn f_n__law_pick [] (aCons (eVar 0) (aCons (eVar 1) aNil))) (aCons (eFn f_n__law_bit [] (aCons (eVar 0) aNil)) aNil))) (gSlot 3))
  (sCons (sAsg (eTup (aCons (eFn f_n__law_pick [] (aCons (eVar 0) (aCons (eVar 1) aNil))) (aCons (eFn f_n__law_bit [] (aCons (eVar 0) aNil)) aNil))) (gSlot 4))
  (sCons (sIf (mB (eOp dEq (eFn f_n__law_next [] (aCons (eVar 0) (aCons (eC (.int 5)) aNil))) (eC (.int 0)))) (sCons (sAsg (eTup (aCons (eOp dIx (eVar 3) (eC (.int 0))) (aCons (eFn f_n__law_bit [] (aCons (eVar 0) aNil)) aNil))) (gSlot 4))
  sNil) sNil)
  (sCons (sRet (eTup (aCons (eVar 2) (aCons (eVar 3) (aCons (eVar 4) aNil)))))
  sNil)))))
noncomputable def f_n__law_sentence : List Q.D → AH → Res Q.D := fnR true P_n__law_sentence.length N_n__law_sentence.length m_n__law_sentence

/-! ### _law_numbered (level 1) -/
abbrev s_n__law_numbered : Stmt := top 45
abbrev N_n__law_numbered : List Str := ["kinds", "number", "terms", "word", "a", "b"]
abbrev P_n__law_numbered : List Str := ["kinds", "number"]
theorem sc_n__law_numbered : FnScope N_n__law_numbered P_n__law_numbered (defScope s_n__law_numbered) := ⟨rfl, rfl, rfl, by decide +kernel, rfl, by decide +kernel, by decide +kernel⟩
noncomputable def m_n__law_numbered : MS :=
  (sCons (sAsg (eOp dMul (eC (.int 2)) (eCall gLen (aCons (eVar 0) aNil))) (gSlot 2))
  (sCons (sAsg (eOp dIx (eLst (aCons (eC (.str "all")) (aCons (eC (.str "some")) (aCons (eC (.str "more")) (aCons (eC (.str "many")) aNil))))) (eOp dMod (eCall gInt (aCons (eVar 1) aNil)) (eC (.int 4)))) (gSlot 3))
  (sCons (sAsg (eOp dMod (eCall gInt (aCons (eOp dDiv (eVar 1) (eC (.int 4))) aNil)) (eVar 2)) (gSlot 4))
  (sCons (sAsg (eOp dMod (eCall gInt (aCons (eOp dDiv (eVar 1) (eOp dMul (eC (.int 4)) (eVar 2))) aNil)) (eVar 2)) (gSlot 5))
  (sCons (sRet (eTup (aCons (eVar 3) (aCons (eTup (aCons (eOp dIx (eVar 0) (eOp dDiv (eVar 4) (eC (.int 2)))) (aCons (eOp dEq (eOp dMod (eCall gInt (aCons (eVar 4) aNil)) (eC (.int 2))) (eC (.int 1))) aNil))) (aCons (eTup (aCons (eOp dIx (eVar 0) (eOp dDiv (eVar 5) (eC (.int 2)))) (aCons (eOp dEq (eOp dMod (eCall gInt (aCons (eVar 5) aNil)) (eC (.int 2))) (eC (.int 1))) aNil))) aNil)))))
  sNil)))))
noncomputable def f_n__law_numbered : List Q.D → AH → Res Q.D := fnR true P_n__law_numbered.length N_n__law_numbered.length m_n__law_numbered

/-! ### _law_entries (level 4) -/
abbrev s_n__law_entries : Stmt := top 46
abbrev N_n__law_entries : List Str := ["stream", "kinds", "most", "found", "known", "turn", "total", "number", "k", "start", "entry", "here"]
abbrev P_n__law_entries : List Str := ["stream", "kinds", "most"]
theorem sc_n__law_entries : FnScope N_n__law_entries P_n__law_entries (defScope s_n__law_entries) := ⟨rfl, rfl, rfl, by decide +kernel, rfl, by decide +kernel, by decide +kernel⟩
noncomputable def b_n__law_entries_1 : MS :=
  (sCons (sAsg (eTup (aCons (eFn f_n__law_next [] (aCons (eVar 0) (aCons (eC (.int 6)) aNil))) (aCons (eFn f_n__law_sentence [] (aCons (eVar 0) (aCons (eVar 1) aNil))) aNil))) (gSlot 10))
  (sCons (sIf (tAndM (mB (eOp (dIn true) (eVar 10) (eVar 4))) (mB (eOp dLt (eCall gLen (aCons (eVar 3) aNil)) (eVar 2)))) (sCons (sAsg (eC (.bl true)) (gSubD dSet (eVar 4) (eVar 10)))
  (sCons (sExpr (eMeth "list" mAppend (eVar 3) (aCons (eVar 10) aNil)))
  sNil)) sNil)
  sNil))
noncomputable def b_n__law_entries_2 : MS :=
  (sCons (sIf (tOrM (mB (eOp dGe (eCall gLen (aCons (eVar 3) aNil)) (eVar 2))) (mB (eOp dGt (eVar 8) (eC (.int 2000))))) (sCons sBreak
  sNil) sNil)
  (sCons (sAsg (eOp dMod (eCall gInt (aCons (eOp dPlus (eVar 7) (eVar 8)) aNil)) (eVar 6)) (gSlot 11))
  (sCons (sAsg (eTup (aCons (eOp dMod (eCall gInt (aCons (eVar 11) aNil)) (eC (.int 6))) (aCons (eFn f_n__law_numbered [] (aCons (eVar 1) (aCons (eOp dDiv (eVar 11) (eC (.int 6))) aNil))) aNil))) (gSlot 10))
  (sCons (sIf (mB (eOp (dIn true) (eVar 10) (eVar 4))) (sCons (sAsg (eC (.bl true)) (gSubD dSet (eVar 4) (eVar 10)))
  (sCons (sExpr (eMeth "list" mAppend (eVar 3) (aCons (eVar 10) aNil)))
  sNil)) sNil)
  sNil))))
noncomputable def m_n__law_entries : MS :=
  (sCons (sAsg (eNewL aNil) (gSlot 3))
  (sCons (sAsg eNewT (gSlot 4))
  (sCons (sFor (iRange1 (eFn f_n__law_pick [] (aCons (eVar 0) (aCons (eLst (aCons (eC (.int 0)) (aCons (eC (.int 2)) (aCons (eC (.int 6)) (aCons (eC (.int 20)) aNil))))) aNil)))) (gSlot 5) b_n__law_entries_1)
  (sCons (sAsg (eOp dMul (eOp dMul (eC (.int 96)) (eCall gLen (aCons (eVar 1) aNil))) (eCall gLen (aCons (eVar 1) aNil))) (gSlot 6))
  (sCons (sAsg (eFn f_n__law_next [] (aCons (eVar 0) (aCons (eVar 6) aNil))) (gSlot 7))
  (sCons (sFor (iRange1 (eVar 6)) (gSlot 8) b_n__law_entries_2)
  (sCons (sAsg (eFn f_n__law_next [] (aCons (eVar 0) (aCons (eOp dPlus (eCall gLen (aCons (eVar 3) aNil)) (eC (.int 1))) aNil))) (gSlot 9))
  (sCons (sRet (eOp dPlus (eSl dSl (eVar 3) (oSome (eVar 9)) oNil) (eSl dSl (eVar 3) oNil (oSome (eVar 9)))))
  sNil))))))))
noncomputable def f_n__law_entries : List Q.D → AH → Res Q.D := fnR true P_n__law_entries.length N_n__law_entries.length m_n__law_entries

/-! ### _law_different (level 1) -/
abbrev s_n__law_different : Stmt := top 47
abbrev N_n__law_different : List Str := ["rows", "found", "known", "row"]
abbrev P_n__law_different : List Str := ["rows"]
theorem sc_n__law_different : FnScope N_n__law_different P_n__law_different (defScope s_n__law_different) := ⟨rfl, rfl, rfl, by decide +kernel, rfl, by decide +kernel, by decide +kernel⟩
noncomputable def b_n__law_different_1 : MS :=
  (sCons (sIf (mB (eOp (dIn true) (eVar 3) (eVar 2))) (sCons (sAsg (eC (.bl true)) (gSubD dSet (eVar 2) (eVar 3)))
  (sCons (sExpr (eMeth "list" mAppend (eVar 1) (aCons (eVar 3) aNil)))
  sNil)) sNil)
  sNil)
noncomputable def m_n__law_different : MS :=
  (sCons (sAsg (eNewL aNil) (gSlot 1))
  (sCons (sAsg eNewT (gSlot 2))
  (sCons (sFor (iSeq (eVar 0)) (gSlot 3) b_n__law_different_1)
  (sCons (sRet (eVar 1))
  sNil))))
noncomputable def f_n__law_different : List Q.D → AH → Res Q.D := fnR true P_n__law_different.length N_n__law_different.length m_n__law_different

/-! ### _law_is_term (level 1) -/
abbrev s_n__law_is_term : Stmt := top 48
abbrev N_n__law_is_term : List Str := ["kinds", "value"]
abbrev P_n__law_is_term : List Str := ["kinds", "value"]
theorem sc_n__law_is_term : FnScope N_n__law_is_term P_n__law_is_term (defScope s_n__law_is_term) := ⟨rfl, rfl, rfl, by decide +kernel, rfl, by decide +kernel, by decide +kernel⟩
noncomputable def m_n__law_is_term : MS :=
  (sCons (sIf (tOrM (tNotM (mB (eIsi "tuple" (eVar 1)))) (tOrM (mB (eOp dNe (eCall gLen (aCons (eVar 1) aNil)) (eC (.int 2)))) (tNotM (mB (eIsi "str" (eOp dIx (eVar 1) (eC (.int 0)))))))) (sCons (sRet (eC (.bl false)))
  sNil) sNil)
  (sCons (sRet (eAnd (eOp (dIn false) (eOp dIx (eVar 1) (eC (.int 0))) (eVar 0)) (eIsi "bool" (eOp dIx (eVar 1) (eC (.int 1))))))
  sNil))
noncomputable def f_n__law_is_term : List Q.D → AH → Res Q.D := fnR true P_n__law_is_term.length N_n__law_is_term.length m_n__law_is_term

/-! ### _law_told (level 8) -/
abbrev s_n__law_told : Stmt := top 49
abbrev N_n__law_told : List Str := ["value", "due", "error", "sizes", "told"]
abbrev P_n__law_told : List Str := ["value", "due"]
theorem sc_n__law_told : FnScope N_n__law_told P_n__law_told (defScope s_n__law_told) := ⟨rfl, rfl, rfl, by decide +kernel, rfl, by decide +kernel, by decide +kernel⟩
noncomputable def b_n__law_told_1 : MS :=
  (sCons (sAsg (eFn f_sizes_of [] (aCons (eVar 0) aNil)) (gSlot 3))
  sNil)
noncomputable def u_n__law_told_2 (xa xd : Addr) (xc : Str) : MS :=
  (sCons (sAsg (eC .non) (gSlot 3))
  (sCons (sIf (tOrM (mB (eOp dNotN (eVar 1) (eC .non))) (tNotM (mB (eFnH (fh_n__law_bad xa xd xc) (aCons (eVar 2) (aCons (eC (.str "book")) aNil)))))) (sCons (sRet (eC (.bl false)))
  sNil) sNil)
  sNil))
noncomputable def b_n__law_told_3 : MS :=
  (sCons (sAsg (eFn f_told_sentences [] (aCons (eVar 0) aNil)) (gSlot 4))
  sNil)
noncomputable def u_n__law_told_4 (xa xd : Addr) (xc : Str) : MS :=
  (sCons (sRet (eAnd (eOp dIsN (eVar 1) (eC .non)) (eAnd (eOp dIsN (eVar 3) (eC .non)) (eFnH (fh_n__law_bad xa xd xc) (aCons (eVar 2) (aCons (eC (.str "book")) aNil))))))
  sNil)
noncomputable def m_n__law_told : MS :=
  (sCons (sTryAs (CK "MoreError") 2 b_n__law_told_1 u_n__law_told_2)
  (sCons (sTryAs (CK "MoreError") 2 b_n__law_told_3 u_n__law_told_4)
  (sCons (sRet (eAnd (eOp dNotN (eVar 1) (eC .non)) (eFn f_n__law_same [] (aCons (eTup (aCons (eVar 3) (aCons (eVar 4) aNil))) (aCons (eVar 1) aNil)))))
  sNil)))
noncomputable def f_n__law_told : List Q.D → AH → Res Q.D := fnR true P_n__law_told.length N_n__law_told.length m_n__law_told

/-! ### _law_kept (level 9) -/
abbrev s_n__law_kept : Stmt := top 50
abbrev N_n__law_kept : List Str := ["kinds", "entries", "good", "value", "told", "due", "entry"]
abbrev P_n__law_kept : List Str := ["kinds", "entries"]
theorem sc_n__law_kept : FnScope N_n__law_kept P_n__law_kept (defScope s_n__law_kept) := ⟨rfl, rfl, rfl, by decide +kernel, rfl, by decide +kernel, by decide +kernel⟩
noncomputable def m_n__law_kept : MS :=
  (sCons (sAsg (eAnd (eOp dLe (eCall gLen (aCons (eVar 1) aNil)) (eC (.int 150))) (eChain dLe dLe (eC (.int 1)) (eCall gLen (aCons (eVar 0) aNil)) (eC (.int 30)))) (gSlot 2))
  (sCons (sAsg (eAnd (eVar 2) (eCall gAll (aCons (eLc (iSeq (eVar 1)) (gSlot 6) tYesM (eAnd (eFn f_n__law_is_term [] (aCons (eVar 0) (aCons (eOp dIx (eOp dIx (eVar 6) (eC (.int 1))) (eC (.int 1))) aNil))) (eFn f_n__law_is_term [] (aCons (eVar 0) (aCons (eOp dIx (eOp dIx (eVar 6) (eC (.int 1))) (eC (.int 2))) aNil)))) [6]) aNil))) (gSlot 2))
  (sCons (sAsg (eTup (aCons (eCall gTuple (aCons (eVar 0) aNil)) (aCons (eCall gTuple (aCons (eVar 1) aNil)) aNil))) (gSlot 3))
  (sCons (sAsg (eFn f_n__law_different [] (aCons (eLc (iSeq (eVar 1)) (gSlot 6) tYesM (eOp dIx (eVar 6) (eC (.int 1))) [6]) aNil)) (gSlot 4))
  (sCons (sAsg (eIf (mB (eVar 2)) (eTup (aCons (eTup (aCons (eCall gLen (aCons (eVar 0) aNil)) (aCons (eCall gLen (aCons (eVar 1) aNil)) (aCons (eCall gLen (aCons (eVar 4) aNil)) aNil)))) (aCons (eCall gTuple (aCons (eVar 4) aNil)) aNil))) (eC .non)) (gSlot 5))
  (sCons (sRet (eAnd (eFn f_n__law_says [] (aCons (eFn f_is_book [] (aCons (eVar 3) aNil)) (aCons (eVar 2) aNil))) (eFn f_n__law_told [] (aCons (eVar 3) (aCons (eVar 5) aNil)))))
  sNil))))))
noncomputable def f_n__law_kept : List Q.D → AH → Res Q.D := fnR true P_n__law_kept.length N_n__law_kept.length m_n__law_kept

/-! ### _law_spoilt (level 5) -/
abbrev s_n__law_spoilt : Stmt := top 51
abbrev N_n__law_spoilt : List Str := ["stream", "kinds", "entries", "told", "way", "one", "at", "wrong", "beside", "value", "source", "sentence", "place"]
abbrev P_n__law_spoilt : List Str := ["stream", "kinds", "entries"]
theorem sc_n__law_spoilt : FnScope N_n__law_spoilt P_n__law_spoilt (defScope s_n__law_spoilt) := ⟨rfl, rfl, rfl, by decide +kernel, rfl, by decide +kernel, by decide +kernel⟩
noncomputable def m_n__law_spoilt : MS :=
  (sCons (sAsg (eCall gTuple (aCons (eVar 2) aNil)) (gSlot 3))
  (sCons (sAsg (eFn f_n__law_next [] (aCons (eVar 0) (aCons (eC (.int 6)) aNil))) (gSlot 4))
  (sCons (sIf (mB (eOp dEq (eVar 4) (eC (.int 0)))) (sCons (sAsg (eFn f_n__law_pick [] (aCons (eVar 0) (aCons (eLst (aCons (eTup aNil) (aCons (eCall gListF (aCons (eVar 1) aNil)) (aCons (eOp dPlus (eVar 1) (eSl dSl (eVar 1) oNil (oSome (eC (.int 1))))) (aCons (eTup (aCons (eC (.str "b")) (aCons (eC (.str "a")) aNil))) (aCons (eOp dIx (eVar 1) (eC (.int 0))) (aCons (eC .non) (aCons (eOp dPlus (eTup (aCons (eC (.str "A")) aNil)) (eVar 1)) (aCons (eFn f_n__law_kinds [] (aCons (eVar 0) (aCons (eC (.int 31)) aNil))) aNil))))))))) aNil))) (gSlot 8))
  (sCons (sRet (eTup (aCons (eVar 8) (aCons (eVar 3) aNil))))
  sNil)) sNil)
  (sCons (sIf (mB (eOp dEq (eVar 4) (eC (.int 1)))) (sCons (sAsg (eLst (aCons (eTup (aCons (eVar 1) aNil)) (aCons (eTup (aCons (eVar 1) (aCons (eCall gListF (aCons (eVar 2) aNil)) aNil))) (aCons (eLst (aCons (eVar 1) (aCons (eVar 3) aNil))) (aCons (eTup (aCons (eVar 1) (aCons (eVar 3) (aCons (eTup aNil) aNil)))) (aCons (eIf (mB (eOp dGt (eCall gLen (aCons (eVar 3) aNil)) (eC (.int 0)))) (eTup (aCons (eVar 3) (aCons (eVar 1) aNil))) (eTup aNil)) (aCons (eVar 1) (aCons (eC .non) (aCons (eTup (aCons (eC (.str "all")) (aCons (eVar 1) (aCons (eVar 3) aNil)))) aNil))))))))) (gSlot 9))
  (sCons (sRet (eFn f_n__law_pick [] (aCons (eVar 0) (aCons (eVar 9) aNil))))
  sNil)) sNil)
  (sCons (sAsg (eTup (aCons (eOp dIx (eVar 1) (eC (.int 0))) (aCons (eC (.bl true)) aNil))) (gSlot 5))
  (sCons (sIf (mB (eOp dEq (eCall gLen (aCons (eVar 2) aNil)) (eC (.int 0)))) (sCons (sRet (eTup (aCons (eVar 1) (aCons (eTup (aCons (eTup (aCons (eC (.int 6)) (aCons (eTup (aCons (eC (.str "all")) (aCons (eVar 5) (aCons (eVar 5) aNil)))) aNil))) (aCons (eTup (aCons (eC (.int 0)) (aCons (eTup (aCons (eC (.str "more")) (aCons (eVar 5) (aCons (eVar 5) aNil)))) aNil))) aNil))) aNil))))
  sNil) sNil)
  (sCons (sAsg (eFn f_n__law_next [] (aCons (eVar 0) (aCons (eCall gLen (aCons (eVar 2) aNil)) aNil))) (gSlot 6))
  (sCons (sAsg (eOp dIx (eVar 2) (eVar 6)) (gTupD 2 (gsCons (gSlot 10) (gsCons (gSlot 11) gsNil))))
  (sCons (sIf (mB (eOp dEq (eVar 4) (eC (.int 2)))) (sCons (sAsg (eFn f_n__law_next [] (aCons (eVar 0) (aCons (eOp dPlus (eCall gLen (aCons (eVar 2) aNil)) (eC (.int 1))) aNil))) (gSlot 12))
  (sCons (sRet (eTup (aCons (eVar 1) (aCons (eCall gTuple (aCons (eOp dPlus (eOp dPlus (eSl dSl (eVar 2) oNil (oSome (eVar 12))) (eLst (aCons (eOp dIx (eVar 2) (eVar 6)) aNil))) (eSl dSl (eVar 2) (oSome (eVar 12)) oNil)) aNil)) aNil))))
  sNil)) sNil)
  (sCons (sAsg (eLst (aCons (eTup (aCons (eC (.int 6)) (aCons (eVar 11) aNil))) (aCons (eTup (aCons (eNeg (eC (.int 1))) (aCons (eVar 11) aNil))) (aCons (eTup (aCons (eC (.bl true)) (aCons (eVar 11) aNil))) (aCons (eTup (aCons (eC .non) (aCons (eVar 11) aNil))) (aCons (eTup (aCons (eVar 10) (aCons (eVar 11) (aCons (eC (.int 0)) aNil)))) (aCons (eLst (aCons (eVar 10) (aCons (eVar 11) aNil))) (aCons (eTup (aCons (eVar 11) (aCons (eVar 10) aNil))) (aCons (eTup (aCons (eVar 10) (aCons (eCall gListF (aCons (eVar 11) aNil)) aNil))) (aCons (eTup (aCons (eVar 10) aNil)) (aCons (eVar 11) (aCons (eC .non) aNil)))))))))))) (gSlot 7))
  (sCons (sAsg (eOp dPlus (eVar 7) (eLst (aCons (eTup (aCons (eVar 10) (aCons (eSl dSl (eVar 11) oNil (oSome (eC (.int 2)))) aNil))) (aCons (eTup (aCons (eVar 10) (aCons (eTup (aCons (eC (.str "none")) (aCons (eVar 5) (aCons (eVar 5) aNil)))) aNil))) (aCons (eTup (aCons (eVar 10) (aCons (eTup aNil) aNil))) (aCons (eTup (aCons (eVar 10) (aCons (eTup (aCons (eVar 11) aNil)) aNil))) (aCons (eTup (aCons (eC (.str "0")) (aCons (eVar 11) aNil))) (aCons (eTup (aCons (eVar 10) (aCons (eTup (aCons (eC (.str "empty")) (aCons (eVar 5) aNil))) aNil))) (aCons (eTup (aCons (eVar 10) (aCons (eOp dPlus (eVar 11) (eTup (aCons (eVar 5) aNil))) aNil))) aNil))))))))) (gSlot 7))
  (sCons (sAsg (eOp dPlus (eVar 7) (eLst (aCons (eTup (aCons (eVar 10) (aCons (eTup (aCons (eOp dIx (eVar 11) (eC (.int 0))) (aCons (eOp dIx (eVar 11) (eC (.int 1))) (aCons (eTup (aCons (eOp dIx (eOp dIx (eVar 11) (eC (.int 2))) (eC (.int 0))) (aCons (eC (.int 1)) aNil))) aNil)))) aNil))) (aCons (eTup (aCons (eVar 10) (aCons (eTup (aCons (eOp dIx (eVar 11) (eC (.int 0))) (aCons (eTup (aCons (eC (.str "zzzzzzzzzzzzz")) (aCons (eC (.bl true)) aNil))) (aCons (eOp dIx (eVar 11) (eC (.int 2))) aNil)))) aNil))) (aCons (eTup (aCons (eVar 10) (aCons (eTup (aCons (eOp dIx (eVar 11) (eC (.int 0))) (aCons (eOp dIx (eOp dIx (eVar 11) (eC (.int 2))) (eC (.int 0))) (aCons (eOp dIx (eVar 11) (eC (.int 1))) aNil)))) aNil))) aNil))))) (gSlot 7))
  (sCons (sRet (eTup (aCons (eVar 1) (aCons (eCall gTuple (aCons (eOp dPlus (eOp dPlus (eSl dSl (eVar 2) oNil (oSome (eVar 6))) (eLst (aCons (eFn f_n__law_pick [] (aCons (eVar 0) (aCons (eVar 7) aNil))) aNil))) (eSl dSl (eVar 2) (oSome (eOp dPlus (eVar 6) (eC (.int 1)))) oNil)) aNil)) aNil))))
  sNil)))))))))))))
noncomputable def f_n__law_spoilt : List Q.D → AH → Res Q.D := fnR true P_n__law_spoilt.length N_n__law_spoilt.length m_n__law_spoilt

/-! ### law (level 10) -/
abbrev s_law : Stmt := top 52
abbrev N_law : List Str := ["script", "stream", "kinds", "entries", "left", "fewer", "few", "turn", "one", "doubled", "value", "entry", "kind", "k"]
abbrev P_law : List Str := ["script"]
theorem sc_law : FnScope N_law P_law (defScope s_law) := ⟨rfl, rfl, rfl, by decide +kernel, rfl, by decide +kernel, by decide +kernel⟩
noncomputable def b_law_1 : MS :=
  (sCons (sAsg (eFn f_n__law_spoilt [] (aCons (eVar 1) (aCons (eSl dSl (eVar 2) oNil (oSome (eC (.int 30)))) (aCons (eSl dSl (eVar 6) oNil (oSome (eFn f_n__law_pick [] (aCons (eVar 1) (aCons (eLst (aCons (eC (.int 1)) (aCons (eC (.int 20)) (aCons (eC (.int 150)) aNil)))) aNil))))) aNil)))) (gSlot 10))
  (sCons (sIf (tOrM (mB (eOp dIsNot (eFn f_is_book [] (aCons (eVar 10) aNil)) (eC (.bl false)))) (tNotM (mB (eFn f_n__law_told [] (aCons (eVar 10) (aCons (eC .non) aNil)))))) (sCons (sRet (eC (.bl false)))
  sNil) sNil)
  sNil))
noncomputable def m_law : MS :=
  (sCons (sAsg (eFn f_n__law_stream [] (aCons (eVar 0) aNil)) (gSlot 1))
  (sCons (sAsg (eFn f_n__law_kinds [] (aCons (eVar 1) (aCons (eFn f_n__law_pick [] (aCons (eVar 1) (aCons (eLst (aCons (eC (.int 1)) (aCons (eC (.int 2)) (aCons (eC (.int 5)) (aCons (eC (.int 29)) (aCons (eC (.int 30)) (aCons (eC (.int 30)) (aCons (eC (.int 31)) (aCons (eOp dPlus (eC (.int 1)) (eFn f_n__law_next [] (aCons (eVar 1) (aCons (eC (.int 30)) aNil)))) aNil))))))))) aNil))) aNil))) (gSlot 2))
  (sCons (sAsg (eFn f_n__law_entries [] (aCons (eVar 1) (aCons (eVar 2) (aCons (eFn f_n__law_pick [] (aCons (eVar 1) (aCons (eLst (aCons (eC (.int 0)) (aCons (eC (.int 30)) (aCons (eFn f_n__law_next [] (aCons (eVar 1) (aCons (eC (.int 150)) aNil))) (aCons (eC (.int 149)) (aCons (eC (.int 150)) (aCons (eC (.int 150)) (aCons (eC (.int 151)) aNil)))))))) aNil))) aNil)))) (gSlot 3))
  (sCons (sIf (tOrM (tNotM (mB (eFn f_n__law_kept [] (aCons (eVar 2) (aCons (eVar 3) aNil))))) (tNotM (mB (eFn f_n__law_kept [] (aCons (eVar 2) (aCons (eSl dSl (eVar 3) oNil (oSome (eC (.int 150)))) aNil)))))) (sCons (sRet (eC (.bl false)))
  sNil) sNil)
  (sCons (sAsg (eFn f_n__law_pick [] (aCons (eVar 1) (aCons (eVar 2) aNil))) (gSlot 4))
  (sCons (sAsg (eCall gTuple (aCons (eLc (iSeq (eVar 2)) (gSlot 12) (mB (eOp dNe (eVar 12) (eVar 4))) (eVar 12) [12]) aNil)) (gSlot 5))
  (sCons (sIf (tNotM (mB (eFn f_n__law_kept [] (aCons (eVar 5) (aCons (eSl dSl (eVar 3) oNil (oSome (eFn f_n__law_pick [] (aCons (eVar 1) (aCons (eLst (aCons (eC (.int 3)) (aCons (eC (.int 40)) (aCons (eC (.int 150)) aNil)))) aNil))))) aNil))))) (sCons (sRet (eC (.bl false)))
  sNil) sNil)
  (sCons (sAsg (eLc (iSeq (eVar 3)) (gSlot 11) (tAndM (mB (eFn f_n__law_is_term [] (aCons (eSl dSl (eVar 2) oNil (oSome (eC (.int 30)))) (aCons (eOp dIx (eOp dIx (eVar 11) (eC (.int 1))) (eC (.int 1))) aNil)))) (mB (eFn f_n__law_is_term [] (aCons (eSl dSl (eVar 2) oNil (oSome (eC (.int 30)))) (aCons (eOp dIx (eOp dIx (eVar 11) (eC (.int 1))) (eC (.int 2))) aNil))))) (eVar 11) [11]) (gSlot 6))
  (sCons (sFor (iRange1 (eC (.int 4))) (gSlot 7) b_law_1)
  (sCons (sAsg (eTup (aCons (eOp dIx (eVar 2) (eC (.int 0))) (aCons (eC (.bl true)) aNil))) (gSlot 8))
  (sCons (sAsg (eOp dPlus (eLc (iRange1 (eC (.int 6))) (gSlot 13) tYesM (eTup (aCons (eVar 13) (aCons (eTup (aCons (eC (.str "some")) (aCons (eVar 8) (aCons (eTup (aCons (eOp dIx (eVar 2) (eC (.int 0))) (aCons (eC (.bl false)) aNil))) aNil)))) aNil))) [13]) (eLst (aCons (eTup (aCons (eC (.int 0)) (aCons (eTup (aCons (eC (.str "all")) (aCons (eVar 8) (aCons (eVar 8) aNil)))) aNil))) (aCons (eTup (aCons (eC (.int 0)) (aCons (eTup (aCons (eC (.str "more")) (aCons (eVar 8) (aCons (eVar 8) aNil)))) aNil))) aNil)))) (gSlot 9))
  (sCons (sIf (tOrM (tNotM (mB (eFn f_n__law_kept [] (aCons (eSl dSl (eVar 2) oNil (oSome (eC (.int 30)))) (aCons (eVar 9) aNil))))) (tNotM (mB (eFn f_n__law_kept [] (aCons (eSl dSl (eVar 2) oNil (oSome (eC (.int 30)))) (aCons (eLst aNil) aNil)))))) (sCons (sRet (eC (.bl false)))
  sNil) sNil)
  (sCons (sRet (eFn f_n__law_says [] (aCons (eFn f_is_book [] (aCons (eFn f_n__law_pick [] (aCons (eVar 1) (aCons (eLst (aCons (eC .non) (aCons (eC (.int 0)) (aCons (eC (.str "a")) (aCons (eTup aNil) (aCons (eLst aNil) (aCons (eTup (aCons (eTup aNil) (aCons (eTup aNil) aNil))) (aCons (eTup (aCons (eTup (aCons (eC (.str "a")) aNil)) aNil)) (aCons (eTup (aCons (eC (.str "a")) (aCons (eTup aNil) aNil))) aNil))))))))) aNil))) aNil)) (aCons (eC (.bl false)) aNil))))
  sNil)))))))))))))
noncomputable def f_law : List Q.D → AH → Res Q.D := fnR true P_law.length N_law.length m_law
theorem eh_n__law_one_class (xa xd : Addr) (xc : Str) (a0 a1 : Q.D) (h : AH) : fh_n__law_one_class xa xd xc [a0, a1] h = trimR h true (retOf (mh_n__law_one_class xa xd xc [some a0, some a1, none, none] h)) := fnR_pos (b := true) (n := P_n__law_one_class.length) (N := N_n__law_one_class.length) (body := mh_n__law_one_class xa xd xc) (σ := [some a0, some a1, none, none]) rfl rfl
theorem eh_n__law_bad (xa xd : Addr) (xc : Str) (a0 a1 : Q.D) (h : AH) : fh_n__law_bad xa xd xc [a0, a1] h = trimR h true (retOf (mh_n__law_bad xa xd xc [some a0, some a1] h)) := fnR_pos (b := true) (n := P_n__law_bad.length) (N := N_n__law_bad.length) (body := mh_n__law_bad xa xd xc) (σ := [some a0, some a1]) rfl rfl
theorem e_is_integer (a0 : Q.D) (h : AH) : f_is_integer [a0] h = trimR h true (retOf (m_is_integer [some a0] h)) := fnR_pos (b := true) (n := P_is_integer.length) (N := N_is_integer.length) (body := m_is_integer) (σ := [some a0]) rfl rfl
theorem e_is_bit (a0 : Q.D) (h : AH) : f_is_bit [a0] h = trimR h true (retOf (m_is_bit [some a0] h)) := fnR_pos (b := true) (n := P_is_bit.length) (N := N_is_bit.length) (body := m_is_bit) (σ := [some a0]) rfl rfl
theorem e_is_from_to (a0 a1 a2 : Q.D) (h : AH) : f_is_from_to [a0, a1, a2] h = trimR h true (retOf (m_is_from_to [some a0, some a1, some a2] h)) := fnR_pos (b := true) (n := P_is_from_to.length) (N := N_is_from_to.length) (body := m_is_from_to) (σ := [some a0, some a1, some a2]) rfl rfl
theorem e_is_tuple_of (a0 a1 a2 : Q.D) (h : AH) : f_is_tuple_of [a0, a1, a2] h = trimR h true (retOf (m_is_tuple_of [some a0, some a1, some a2] h)) := fnR_pos (b := true) (n := P_is_tuple_of.length) (N := N_is_tuple_of.length) (body := m_is_tuple_of) (σ := [some a0, some a1, some a2]) rfl rfl
theorem e_is_ascending (a0 : Q.D) (h : AH) : f_is_ascending [a0] h = trimR h true (retOf (m_is_ascending [some a0, none] h)) := fnR_pos (b := true) (n := P_is_ascending.length) (N := N_is_ascending.length) (body := m_is_ascending) (σ := [some a0, none]) rfl rfl
theorem e_without_doubles (a0 : Q.D) (h : AH) : f_without_doubles [a0] h = trimR h true (retOf (m_without_doubles [some a0, none, none] h)) := fnR_pos (b := true) (n := P_without_doubles.length) (N := N_without_doubles.length) (body := m_without_doubles) (σ := [some a0, none, none]) rfl rfl
theorem e_is_kind (a0 : Q.D) (h : AH) : f_is_kind [a0] h = trimR h true (retOf (m_is_kind [some a0, none] h)) := fnR_pos (b := true) (n := P_is_kind.length) (N := N_is_kind.length) (body := m_is_kind) (σ := [some a0, none]) rfl rfl
theorem e_is_source (a0 : Q.D) (h : AH) : f_is_source [a0] h = trimR h true (retOf (m_is_source [some a0] h)) := fnR_pos (b := true) (n := P_is_source.length) (N := N_is_source.length) (body := m_is_source) (σ := [some a0]) rfl rfl
theorem e_is_kind_row (a0 a1 : Q.D) (h : AH) : f_is_kind_row [a0, a1] h = trimR h true (retOf (m_is_kind_row [some a0, some a1, none] h)) := fnR_pos (b := true) (n := P_is_kind_row.length) (N := N_is_kind_row.length) (body := m_is_kind_row) (σ := [some a0, some a1, none]) rfl rfl
theorem e_is_kinds (a0 : Q.D) (h : AH) : f_is_kinds [a0] h = trimR h true (retOf (m_is_kinds [some a0] h)) := fnR_pos (b := true) (n := P_is_kinds.length) (N := N_is_kinds.length) (body := m_is_kinds) (σ := [some a0]) rfl rfl
theorem e_is_term_over (a0 a1 : Q.D) (h : AH) : f_is_term_over [a0, a1] h = trimR h true (retOf (m_is_term_over [some a0, some a1] h)) := fnR_pos (b := true) (n := P_is_term_over.length) (N := N_is_term_over.length) (body := m_is_term_over) (σ := [some a0, some a1]) rfl rfl
theorem e_is_word_and (a0 a1 : Q.D) (h : AH) : f_is_word_and [a0, a1] h = trimR h true (retOf (m_is_word_and [some a0, some a1] h)) := fnR_pos (b := true) (n := P_is_word_and.length) (N := N_is_word_and.length) (body := m_is_word_and) (σ := [some a0, some a1]) rfl rfl
theorem e_is_sentence_over (a0 a1 : Q.D) (h : AH) : f_is_sentence_over [a0, a1] h = trimR h true (retOf (m_is_sentence_over [some a0, some a1] h)) := fnR_pos (b := true) (n := P_is_sentence_over.length) (N := N_is_sentence_over.length) (body := m_is_sentence_over) (σ := [some a0, some a1]) rfl rfl
theorem e_is_entry (a0 a1 : Q.D) (h : AH) : f_is_entry [a0, a1] h = trimR h true (retOf (m_is_entry [some a0, some a1] h)) := fnR_pos (b := true) (n := P_is_entry.length) (N := N_is_entry.length) (body := m_is_entry) (σ := [some a0, some a1]) rfl rfl
theorem e_is_book (a0 : Q.D) (h : AH) : f_is_book [a0] h = trimR h true (retOf (m_is_book [some a0, none, none, none] h)) := fnR_pos (b := true) (n := P_is_book.length) (N := N_is_book.length) (body := m_is_book) (σ := [some a0, none, none, none]) rfl rfl
theorem e_check_book (a0 a1 : Q.D) (h : AH) : f_check_book [a0, a1] h = trimR h true (retOf (m_check_book [some a0, some a1] h)) := fnR_pos (b := true) (n := P_check_book.length) (N := N_check_book.length) (body := m_check_book) (σ := [some a0, some a1]) rfl rfl
theorem e_sentences_among (a0 : Q.D) (h : AH) : f_sentences_among [a0] h = trimR h true (retOf (m_sentences_among [some a0, none, none] h)) := fnR_pos (b := true) (n := P_sentences_among.length) (N := N_sentences_among.length) (body := m_sentences_among) (σ := [some a0, none, none]) rfl rfl
theorem e_told_sentences (a0 : Q.D) (h : AH) : f_told_sentences [a0] h = trimR h true (retOf (m_told_sentences [some a0] h)) := fnR_pos (b := true) (n := P_told_sentences.length) (N := N_told_sentences.length) (body := m_told_sentences) (σ := [some a0]) rfl rfl
theorem e_sizes_of (a0 : Q.D) (h : AH) : f_sizes_of [a0] h = trimR h true (retOf (m_sizes_of [some a0] h)) := fnR_pos (b := true) (n := P_sizes_of.length) (N := N_sizes_of.length) (body := m_sizes_of) (σ := [some a0]) rfl rfl
theorem e_n__law_stream (a0 : Q.D) (h : AH) : f_n__law_stream [a0] h = trimR h false (retOf (m_n__law_stream [some a0] h)) := fnR_pos (b := false) (n := P_n__law_stream.length) (N := N_n__law_stream.length) (body := m_n__law_stream) (σ := [some a0]) rfl rfl
theorem e_n__law_next (a0 a1 : Q.D) (h : AH) : f_n__law_next [a0, a1] h = trimR h true (retOf (m_n__law_next [some a0, some a1, none, none, none] h)) := fnR_pos (b := true) (n := P_n__law_next.length) (N := N_n__law_next.length) (body := m_n__law_next) (σ := [some a0, some a1, none, none, none]) rfl rfl
theorem e_n__law_pick (a0 a1 : Q.D) (h : AH) : f_n__law_pick [a0, a1] h = trimR h true (retOf (m_n__law_pick [some a0, some a1] h)) := fnR_pos (b := true) (n := P_n__law_pick.length) (N := N_n__law_pick.length) (body := m_n__law_pick) (σ := [some a0, some a1]) rfl rfl
theorem e_n__law_says (a0 a1 : Q.D) (h : AH) : f_n__law_says [a0, a1] h = trimR h true (retOf (m_n__law_says [some a0, some a1] h)) := fnR_pos (b := true) (n := P_n__law_says.length) (N := N_n__law_says.length) (body := m_n__law_says) (σ := [some a0, some a1]) rfl rfl
theorem e_n__law_same (a0 a1 : Q.D) (h : AH) : f_n__law_same [a0, a1] h = trimR h true (retOf (m_n__law_same [some a0, some a1, none, none, none, none, none] h)) := fnR_pos (b := true) (n := P_n__law_same.length) (N := N_n__law_same.length) (body := m_n__law_same) (σ := [some a0, some a1, none, none, none, none, none]) rfl rfl
theorem e_n__law_kind (a0 : Q.D) (h : AH) : f_n__law_kind [a0] h = trimR h true (retOf (m_n__law_kind [some a0, none, none, none] h)) := fnR_pos (b := true) (n := P_n__law_kind.length) (N := N_n__law_kind.length) (body := m_n__law_kind) (σ := [some a0, none, none, none]) rfl rfl
theorem e_n__law_kinds (a0 a1 : Q.D) (h : AH) : f_n__law_kinds [a0, a1] h = trimR h true (retOf (m_n__law_kinds [some a0, some a1, none, none, none, none, none, none, none, none] h)) := fnR_pos (b := true) (n := P_n__law_kinds.length) (N := N_n__law_kinds.length) (body := m_n__law_kinds) (σ := [some a0, some a1, none, none, none, none, none, none, none, none]) rfl rfl
theorem e_n__law_bit (a0 : Q.D) (h : AH) : f_n__law_bit [a0] h = trimR h true (retOf (m_n__law_bit [some a0] h)) := fnR_pos (b := true) (n := P_n__law_bit.length) (N := N_n__law_bit.length) (body := m_n__law_bit) (σ := [some a0]) rfl rfl
theorem e_n__law_sentence (a0 a1 : Q.D) (h : AH) : f_n__law_sentence [a0, a1] h = trimR h true (retOf (m_n__law_sentence [some a0, some a1, none, none, none] h)) := fnR_pos (b := true) (n := P_n__law_sentence.length) (N := N_n__law_sentence.length) (body := m_n__law_sentence) (σ := [some a0, some a1, none, none, none]) rfl rfl
theorem e_n__law_numbered (a0 a1 : Q.D) (h : AH) : f_n__law_numbered [a0, a1] h = trimR h true (retOf (m_n__law_numbered [some a0, some a1, none, none, none, none] h)) := fnR_pos (b := true) (n := P_n__law_numbered.length) (N := N_n__law_numbered.length) (body := m_n__law_numbered) (σ := [some a0, some a1, none, none, none, none]) rfl rfl
theorem e_n__law_entries (a0 a1 a2 : Q.D) (h : AH) : f_n__law_entries [a0, a1, a2] h = trimR h true (retOf (m_n__law_entries [some a0, some a1, some a2, none, none, none, none, none, none, none, none, none] h)) := fnR_pos (b := true) (n := P_n__law_entries.length) (N := N_n__law_entries.length) (body := m_n__law_entries) (σ := [some a0, some a1, some a2, none, none, none, none, none, none, none, none, none]) rfl rfl
theorem e_n__law_different (a0 : Q.D) (h : AH) : f_n__law_different [a0] h = trimR h true (retOf (m_n__law_different [some a0, none, none, none] h)) := fnR_pos (b := true) (n := P_n__law_different.length) (N := N_n__law_different.length) (body := m_n__law_different) (σ := [some a0, none, none, none]) rfl rfl
theorem e_n__law_is_term (a0 a1 : Q.D) (h : AH) : f_n__law_is_term [a0, a1] h = trimR h true (retOf (m_n__law_is_term [some a0, some a1] h)) := fnR_pos (b := true) (n := P_n__law_is_term.length) (N := N_n__law_is_term.length) (body := m_n__law_is_term) (σ := [some a0, some a1]) rfl rfl
theorem e_n__law_told (a0 a1 : Q.D) (h : AH) : f_n__law_told [a0, a1] h = trimR h true (retOf (m_n__law_told [some a0, some a1, none, none, none] h)) := fnR_pos (b := true) (n := P_n__law_told.length) (N := N_n__law_told.length) (body := m_n__law_told) (σ := [some a0, some a1, none, none, none]) rfl rfl
theorem e_n__law_kept (a0 a1 : Q.D) (h : AH) : f_n__law_kept [a0, a1] h = trimR h true (retOf (m_n__law_kept [some a0, some a1, none, none, none, none, none] h)) := fnR_pos (b := true) (n := P_n__law_kept.length) (N := N_n__law_kept.length) (body := m_n__law_kept) (σ := [some a0, some a1, none, none, none, none, none]) rfl rfl
theorem e_n__law_spoilt (a0 a1 a2 : Q.D) (h : AH) : f_n__law_spoilt [a0, a1, a2] h = trimR h true (retOf (m_n__law_spoilt [some a0, some a1, some a2, none, none, none, none, none, none, none, none, none, none] h)) := fnR_pos (b := true) (n := P_n__law_spoilt.length) (N := N_n__law_spoilt.length) (body := m_n__law_spoilt) (σ := [some a0, some a1, some a2, none, none, none, none, none, none, none, none, none, none]) rfl rfl
theorem e_law (a0 : Q.D) (h : AH) : f_law [a0] h = trimR h true (retOf (m_law [some a0, none, none, none, none, none, none, none, none, none, none, none, none, none] h)) := fnR_pos (b := true) (n := P_law.length) (N := N_law.length) (body := m_law) (σ := [some a0, none, none, none, none, none, none, none, none, none, none, none, none, none]) rfl rfl

section
variable {P : Program} {w : World} {K : PySem.W.Frag} {mg : Str → Option Value} {base : Heap} {fa : Addr} {fd : FuncData}
abbrev si_BadValue : Stmt := mth 2 0
theorem sci_BadValue : FnScope ["self", "name"] ["self", "name"] (defScope si_BadValue) := ⟨rfl, rfl, rfl, by decide +kernel, rfl, by decide +kernel, by decide +kernel⟩
theorem ok_ini_BadValue (F : FunD K "__init__" "BadValue.__init__" (defArgs si_BadValue) (defBody si_BadValue) (defScope si_BadValue) [] [] fa fd) : FnOk P w K mg base CX0 1 fa fd ["self", "name"] (spIni K ["name"]) :=
  ini_one F sci_BadValue fun cdv A outer s H E => pss_one (ps_ost (pv 0) (pv 1))
abbrev si_NotPossible : Stmt := mth 3 0
theorem sci_NotPossible : FnScope ["self", "why"] ["self", "why"] (defScope si_NotPossible) := ⟨rfl, rfl, rfl, by decide +kernel, rfl, by decide +kernel, by decide +kernel⟩
theorem ok_ini_NotPossible (F : FunD K "__init__" "NotPossible.__init__" (defArgs si_NotPossible) (defBody si_NotPossible) (defScope si_NotPossible) [] [] fa fd) : FnOk P w K mg base CX0 1 fa fd ["self", "why"] (spIni K ["why"]) :=
  ini_one F sci_NotPossible fun cdv A outer s H E => pss_one (ps_ost (pv 0) (pv 1))
abbrev si_TooLarge : Stmt := mth 4 0
theorem sci_TooLarge : FnScope ["self", "what"] ["self", "what"] (defScope si_TooLarge) := ⟨rfl, rfl, rfl, by decide +kernel, rfl, by decide +kernel, by decide +kernel⟩
theorem ok_ini_TooLarge (F : FunD K "__init__" "TooLarge.__init__" (defArgs si_TooLarge) (defBody si_TooLarge) (defScope si_TooLarge) [] [] fa fd) : FnOk P w K mg base CX0 1 fa fd ["self", "what"] (spIni K ["what"]) :=
  ini_one F sci_TooLarge fun cdv A outer s H E => pss_one (ps_ost (pv 0) (pv 1))
abbrev si_TextError : Stmt := mth 5 0
theorem sci_TextError : FnScope ["self", "column", "problem"] ["self", "column", "problem"] (defScope si_TextError) := ⟨rfl, rfl, rfl, by decide +kernel, rfl, by decide +kernel, by decide +kernel⟩
theorem ok_ini_TextError (F : FunD K "__init__" "TextError.__init__" (defArgs si_TextError) (defBody si_TextError) (defScope si_TextError) [] [] fa fd) : FnOk P w K mg base CX0 1 fa fd ["self", "column", "problem"] (spIni K ["column", "problem"]) :=
  ini_two F sci_TextError fun cdv A outer s H E => pss_cons (ps_ost (pv 0) (pv 1)) (pss_one (ps_ost (pv 0) (pv 2)))
theorem okh_n__law_one_class (fr : Fr mg K) (xs : Xs P w K mg base)  (F : FunD K "_law_one_class" "_law_one_class" (defArgs s_n__law_one_class) (defBody s_n__law_one_class) (defScope s_n__law_one_class) [] [] fa fd) :
    FnE P w K mg base 1 fa fd P_n__law_one_class (spH P w K mg fh_n__law_one_class) :=
  fn_okE (k := 0) (body := mh_n__law_one_class) F sc_n__law_one_class fun cdv A outer s H E xa xd xc oe hr hot => by
    have hu := hu64H hr
    exact (qss_cons (qsn (i := 2) sc_n__law_one_class.nd (q_lst (qa_cons (q_isX (cxH_held hot).held xs.tab (IsM.isC xs.is_BadValue) rfl fr.isinstance (qv 0) rfl) (qa_cons (q_isX (cxH_held hot).held xs.tab (IsM.isC xs.is_NotPossible) rfl fr.isinstance (qv 0) rfl) (qa_cons (q_isX (cxH_held hot).held xs.tab (IsM.isC xs.is_TooLarge) rfl fr.isinstance (qv 0) rfl) (qa_cons (q_isX (cxH_held hot).held xs.tab (IsM.isC xs.is_TextError) rfl fr.isinstance (qv 0) rfl) qa_nil))))))
  (qss_cons (qs_ret (q_and (q_cmp (opd_eq hu) (qv 2) (q_lcH (own := [("k", 3)]) (cxH_held hot).hotC sc_n__law_one_class.nd (qi_rangeH rfl fr.range q_int) (blkOk_by (own := [("k", 3)]) (N := N_n__law_one_class) (sc := defScope s_n__law_one_class) (by decide +kernel)) (fun _ _ _ _ _ _ => (qgn (i := 3) sc_n__law_one_class.nd)) (fun _ _ _ _ _ _ => qts_nil) (fun _ _ _ _ _ _ => (q_cmp (opd_eq hu) (qv 1) (qv 3) (by rfl)))) (by rfl)) (q_and (q_isX (cxH_held hot).held xs.tab (IsM.isC xs.is_MoreError) rfl fr.isinstance (qv 0) rfl) (q_one (q_isX (cxH_held hot).held xs.tab (IsM.isC xs.is_ValueError) rfl fr.isinstance (qv 0) rfl)))))
  qss_nil))
theorem okh_n__law_bad (fr : Fr mg K) (xs : Xs P w K mg base) (dh_n__law_one_class : DefH P w K mg base 1 "_law_one_class" fh_n__law_one_class) (F : FunD K "_law_bad" "_law_bad" (defArgs s_n__law_bad) (defBody s_n__law_bad) (defScope s_n__law_bad) [] [] fa fd) :
    FnE P w K mg base 2 fa fd P_n__law_bad (spH P w K mg fh_n__law_bad) :=
  fn_okE (k := 1) (body := mh_n__law_bad) F sc_n__law_bad fun cdv A outer s H E xa xd xc oe hr hot => by
    have hu := hu64H hr
    exact (qss_cons (qs_ret (q_and (q_fnH (cxH_held hot) dh_n__law_one_class (hr.mono (by decide)) rfl (qa_cons (qv 0) (qa_cons q_int qa_nil))) (q_and (q_isi (T := "str") rfl fr.isinstance (q_fld (cxH_held hot).held xs.tab (qv 0)) rfl fr.str (by decide +kernel)) (q_one (q_cmp (opd_eq hu) (q_fld (cxH_held hot).held xs.tab (qv 0)) (qv 1) (by rfl))))))
  qss_nil)
theorem ok_is_integer (fr : Fr mg K) (xs : Xs P w K mg base)   (F : FunD K "is_integer" "is_integer" (defArgs s_is_integer) (defBody s_is_integer) (defScope s_is_integer) [] [] fa fd) :
    FnOk P w K mg base (L2N.CX P w) 1 fa fd P_is_integer (spOf P w K mg f_is_integer) :=
  fn_ok (k := 0) (body := m_is_integer) F sc_is_integer fun cdv A outer s H E hr => by
    have hu := hu64 hr
    exact (qss_cons (qs_ret (q_and (q_isi (T := "int") rfl fr.isinstance (qv 0) rfl fr.int (by decide +kernel)) (q_one (q_not (q_isi (T := "bool") rfl fr.isinstance (qv 0) rfl fr.bool (by decide +kernel))))))
  qss_nil)
theorem ok_is_bit (fr : Fr mg K) (xs : Xs P w K mg base)   (F : FunD K "is_bit" "is_bit" (defArgs s_is_bit) (defBody s_is_bit) (defScope s_is_bit) [] [] fa fd) :
    FnOk P w K mg base (L2N.CX P w) 1 fa fd P_is_bit (spOf P w K mg f_is_bit) :=
  fn_ok (k := 0) (body := m_is_bit) F sc_is_bit fun cdv A outer s H E hr => by
    have hu := hu64 hr
    exact (qss_cons (qs_ret (q_isi (T := "bool") rfl fr.isinstance (qv 0) rfl fr.bool (by decide +kernel)))
  qss_nil)
theorem ok_is_from_to (fr : Fr mg K) (xs : Xs P w K mg base) (d_is_integer_1 : Def P w K mg base (L2N.CX P w) 1 "is_integer" [] f_is_integer)  (F : FunD K "is_from_to" "is_from_to" (defArgs s_is_from_to) (defBody s_is_from_to) (defScope s_is_from_to) [] [] fa fd) :
    FnOk P w K mg base (L2N.CX P w) 2 fa fd P_is_from_to (spOf P w K mg f_is_from_to) :=
  fn_ok (k := 1) (body := m_is_from_to) F sc_is_from_to fun cdv A outer s H E hr => by
    have hu := hu64 hr
    have c_is_integer_1 : ∀ {X : Cx} {W : WX}, X.prog = P → X.w = w → X.K = K → X.mg = mg → X.base = base → X.A = _ → L2N.Takes X W → Cal X W "is_integer" [] f_is_integer := fun e1 e2 e3 e4 e5 e6 tk => Def.calX d_is_integer_1 (hr.mono (by decide)) tk e1 e2 e3 e4 e5 e6
    exact (qss_cons (qs_ret (q_and (q_fn (c_is_integer_1 rfl rfl rfl rfl rfl rfl takesM) rfl (qa_cons (qv 0) qa_nil)) (q_one (q_chain (opd_le hu) (opd_le hu) (qv 1) (qv 0) (qv 2)))))
  qss_nil)
theorem ok_is_tuple_of (fr : Fr mg K) (xs : Xs P w K mg base)   (F : FunD K "is_tuple_of" "is_tuple_of" (defArgs s_is_tuple_of) (defBody s_is_tuple_of) (defScope s_is_tuple_of) [] [] fa fd) :
    FnOk P w K mg base (L2N.CX P w) 1 fa fd P_is_tuple_of (spOf P w K mg f_is_tuple_of) :=
  fn_ok (k := 0) (body := m_is_tuple_of) F sc_is_tuple_of fun cdv A outer s H E hr => by
    have hu := hu64 hr
    exact (qss_cons (qs_ret (q_and (q_isi (T := "tuple") rfl fr.isinstance (qv 0) rfl fr.tuple (by decide +kernel)) (q_one (q_chain (opd_le hu) (opd_le hu) (qv 1) (q_bltn cd_len rfl fr.len (by decide +kernel) (qa_cons (qv 0) qa_nil)) (qv 2)))))
  qss_nil)
theorem ok_is_ascending (fr : Fr mg K) (xs : Xs P w K mg base)   (F : FunD K "is_ascending" "is_ascending" (defArgs s_is_ascending) (defBody s_is_ascending) (defScope s_is_ascending) [] [] fa fd) :
    FnOk P w K mg base (L2N.CX P w) 1 fa fd P_is_ascending (spOf P w K mg f_is_ascending) :=
  fn_ok (k := 0) (body := m_is_ascending) F sc_is_ascending fun cdv A outer s H E hr => by
    have hu := hu64 hr
    exact (qss_cons (qs_ret (q_bltn (cd_all rfl) rfl fr.all (by decide +kernel) (qa_cons (q_lc (own := [("at", 1)]) rfl sc_is_ascending.nd (qi_range1 rfl fr.range (q_op opd_sub (q_bltn cd_len rfl fr.len (by decide +kernel) (qa_cons (qv 0) qa_nil)) q_int)) (blkOk_by (own := [("at", 1)]) (N := N_is_ascending) (sc := defScope s_is_ascending) (by decide +kernel)) (fun _ _ _ _ _ => (qgn (i := 1) sc_is_ascending.nd)) (fun _ _ _ _ _ => qts_nil) (fun _ _ _ _ _ => (q_cmp (opd_lt hu) (q_ix (ixd hu) (qv 0) (qv 1)) (q_ix (ixd hu) (qv 0) (q_op opd_plus (qv 1) q_int)) (by rfl)))) qa_nil)))
  qss_nil)
theorem ok_without_doubles (fr : Fr mg K) (xs : Xs P w K mg base)   (F : FunD K "without_doubles" "without_doubles" (defArgs s_without_doubles) (defBody s_without_doubles) (defScope s_without_doubles) [] [] fa fd) :
    FnOk P w K mg base (L2N.CX P w) 1 fa fd P_without_doubles (spOf P w K mg f_without_doubles) :=
  fn_ok (k := 0) (body := m_without_doubles) F sc_without_doubles fun cdv A outer s H E hr => by
    have hu := hu64 hr
    exact (qss_cons (qsn (i := 1) sc_without_doubles.nd q_newT)
  (qss_cons (qs_for (passes_of rfl) rfl (qi_seq (qv 0)) (qgn (i := 2) sc_without_doubles.nd) (qss_cons (qs_asg q_bl (qg_sub (W := WNever) (setd hu) (qv 1) (qv 2)))
  qss_nil))
  (qss_cons (qs_ret (q_btyp (cd_listF rfl) rfl fr.list (by decide +kernel) (qa_cons (qv 1) qa_nil)))
  qss_nil)))
theorem ok_is_kind (fr : Fr mg K) (xs : Xs P w K mg base)   (F : FunD K "is_kind" "is_kind" (defArgs s_is_kind) (defBody s_is_kind) (defScope s_is_kind) [] [] fa fd) :
    FnOk P w K mg base (L2N.CX P w) 1 fa fd P_is_kind (spOf P w K mg f_is_kind) :=
  fn_ok (k := 0) (body := m_is_kind) F sc_is_kind fun cdv A outer s H E hr => by
    have hu := hu64 hr
    exact (qss_cons (qs_if (QW.qt (qw_or (qt_not (qt_val (q_isi (T := "str") rfl fr.isinstance (qv 0) rfl fr.str (by decide +kernel)))) (qw_or1 (qt_not (qt_chain (opd_le hu) (opd_le hu) q_int (q_bltn cd_len rfl fr.len (by decide +kernel) (qa_cons (qv 0) qa_nil)) (q_glob fr.MOST_SIGNS rfl)))))) (qss_cons (qs_ret q_bl)
  qss_nil) qss_nil)
  (qss_cons (qs_ret (q_and (q_chain (opd_le hu) (opd_le hu) q_str (q_ix (ixd hu) (qv 0) q_int) q_str) (q_one (q_bltn (cd_all rfl) rfl fr.all (by decide +kernel) (qa_cons (q_lc (own := [("sign", 1)]) rfl sc_is_kind.nd (qi_seq (qv 0)) (blkOk_by (own := [("sign", 1)]) (N := N_is_kind) (sc := defScope s_is_kind) (by decide +kernel)) (fun _ _ _ _ _ => (qgn (i := 1) sc_is_kind.nd)) (fun _ _ _ _ _ => qts_nil) (fun _ _ _ _ _ => (q_or (q_chain (opd_le hu) (opd_le hu) q_str (qv 1) q_str) (q_one (q_chain (opd_le hu) (opd_le hu) q_str (qv 1) q_str))))) qa_nil)))))
  qss_nil))
theorem ok_is_source (fr : Fr mg K) (xs : Xs P w K mg base) (d_is_from_to_3 : Def P w K mg base (L2N.CX P w) 2 "is_from_to" [] f_is_from_to)  (F : FunD K "is_source" "is_source" (defArgs s_is_source) (defBody s_is_source) (defScope s_is_source) [] [] fa fd) :
    FnOk P w K mg base (L2N.CX P w) 3 fa fd P_is_source (spOf P w K mg f_is_source) :=
  fn_ok (k := 2) (body := m_is_source) F sc_is_source fun cdv A outer s H E hr => by
    have hu := hu64 hr
    have c_is_from_to_3 : ∀ {X : Cx} {W : WX}, X.prog = P → X.w = w → X.K = K → X.mg = mg → X.base = base → X.A = _ → L2N.Takes X W → Cal X W "is_from_to" [] f_is_from_to := fun e1 e2 e3 e4 e5 e6 tk => Def.calX d_is_from_to_3 (hr.mono (by decide)) tk e1 e2 e3 e4 e5 e6
    exact (qss_cons (qs_ret (q_fn (c_is_from_to_3 rfl rfl rfl rfl rfl rfl takesM) rfl (qa_cons (qv 0) (qa_cons q_int (qa_cons (q_glob fr.MOST_SOURCE rfl) qa_nil)))))
  qss_nil)
theorem ok_is_kind_row (fr : Fr mg K) (xs : Xs P w K mg base) (d_is_ascending_1 : Def P w K mg base (L2N.CX P w) 1 "is_ascending" [] f_is_ascending) (d_is_kind_1 : Def P w K mg base (L2N.CX P w) 1 "is_kind" [] f_is_kind) (d_is_tuple_of_3 : Def P w K mg base (L2N.CX P w) 1 "is_tuple_of" [] f_is_tuple_of)  (F : FunD K "is_kind_row" "is_kind_row" (defArgs s_is_kind_row) (defBody s_is_kind_row) (defScope s_is_kind_row) [] [] fa fd) :
    FnOk P w K mg base (L2N.CX P w) 2 fa fd P_is_kind_row (spOf P w K mg f_is_kind_row) :=
  fn_ok (k := 1) (body := m_is_kind_row) F sc_is_kind_row fun cdv A outer s H E hr => by
    have hu := hu64 hr
    have c_is_ascending_1 : ∀ {X : Cx} {W : WX}, X.prog = P → X.w = w → X.K = K → X.mg = mg → X.base = base → X.A = _ → L2N.Takes X W → Cal X W "is_ascending" [] f_is_ascending := fun e1 e2 e3 e4 e5 e6 tk => Def.calX d_is_ascending_1 (hr.mono (by decide)) tk e1 e2 e3 e4 e5 e6
    have c_is_kind_1 : ∀ {X : Cx} {W : WX}, X.prog = P → X.w = w → X.K = K → X.mg = mg → X.base = base → X.A = _ → L2N.Takes X W → Cal X W "is_kind" [] f_is_kind := fun e1 e2 e3 e4 e5 e6 tk => Def.calX d_is_kind_1 (hr.mono (by decide)) tk e1 e2 e3 e4 e5 e6
    have c_is_tuple_of_3 : ∀ {X : Cx} {W : WX}, X.prog = P → X.w = w → X.K = K → X.mg = mg → X.base = base → X.A = _ → L2N.Takes X W → Cal X W "is_tuple_of" [] f_is_tuple_of := fun e1 e2 e3 e4 e5 e6 tk => Def.calX d_is_tuple_of_3 (hr.mono (by decide)) tk e1 e2 e3 e4 e5 e6
    exact (qss_cons (qs_ret (q_and (q_fn (c_is_tuple_of_3 rfl rfl rfl rfl rfl rfl takesM) rfl (qa_cons (qv 0) (qa_cons (qv 1) (qa_cons (q_glob fr.MOST_KINDS rfl) qa_nil)))) (q_and (q_bltn (cd_all rfl) rfl fr.all (by decide +kernel) (qa_cons (q_lc (own := [("one", 2)]) rfl sc_is_kind_row.nd (qi_seq (qv 0)) (blkOk_by (own := [("one", 2)]) (N := N_is_kind_row) (sc := defScope s_is_kind_row) (by decide +kernel)) (fun _ _ _ _ _ => (qgn (i := 2) sc_is_kind_row.nd)) (fun _ _ _ _ _ => qts_nil) (fun _ _ _ _ _ => (q_fn (c_is_kind_1 rfl rfl rfl rfl rfl rfl takesN) rfl (qa_cons (qv 2) qa_nil)))) qa_nil)) (q_one (q_fn (c_is_ascending_1 rfl rfl rfl rfl rfl rfl takesM) rfl (qa_cons (qv 0) qa_nil))))))
  qss_nil)
theorem ok_is_kinds (fr : Fr mg K) (xs : Xs P w K mg base) (d_is_kind_row_2 : Def P w K mg base (L2N.CX P w) 2 "is_kind_row" [] f_is_kind_row)  (F : FunD K "is_kinds" "is_kinds" (defArgs s_is_kinds) (defBody s_is_kinds) (defScope s_is_kinds) [] [] fa fd) :
    FnOk P w K mg base (L2N.CX P w) 3 fa fd P_is_kinds (spOf P w K mg f_is_kinds) :=
  fn_ok (k := 2) (body := m_is_kinds) F sc_is_kinds fun cdv A outer s H E hr => by
    have hu := hu64 hr
    have c_is_kind_row_2 : ∀ {X : Cx} {W : WX}, X.prog = P → X.w = w → X.K = K → X.mg = mg → X.base = base → X.A = _ → L2N.Takes X W → Cal X W "is_kind_row" [] f_is_kind_row := fun e1 e2 e3 e4 e5 e6 tk => Def.calX d_is_kind_row_2 (hr.mono (by decide)) tk e1 e2 e3 e4 e5 e6
    exact (qss_cons (qs_ret (q_fn (c_is_kind_row_2 rfl rfl rfl rfl rfl rfl takesM) rfl (qa_cons (qv 0) (qa_cons q_int qa_nil))))
  qss_nil)
theorem ok_is_term_over (fr : Fr mg K) (xs : Xs P w K mg base) (d_is_bit_1 : Def P w K mg base (L2N.CX P w) 1 "is_bit" [] f_is_bit) (d_is_tuple_of_3 : Def P w K mg base (L2N.CX P w) 1 "is_tuple_of" [] f_is_tuple_of)  (F : FunD K "is_term_over" "is_term_over" (defArgs s_is_term_over) (defBody s_is_term_over) (defScope s_is_term_over) [] [] fa fd) :
    FnOk P w K mg base (L2N.CX P w) 2 fa fd P_is_term_over (spOf P w K mg f_is_term_over) :=
  fn_ok (k := 1) (body := m_is_term_over) F sc_is_term_over fun cdv A outer s H E hr => by
    have hu := hu64 hr
    have c_is_bit_1 : ∀ {X : Cx} {W : WX}, X.prog = P → X.w = w → X.K = K → X.mg = mg → X.base = base → X.A = _ → L2N.Takes X W → Cal X W "is_bit" [] f_is_bit := fun e1 e2 e3 e4 e5 e6 tk => Def.calX d_is_bit_1 (hr.mono (by decide)) tk e1 e2 e3 e4 e5 e6
    have c_is_tuple_of_3 : ∀ {X : Cx} {W : WX}, X.prog = P → X.w = w → X.K = K → X.mg = mg → X.base = base → X.A = _ → L2N.Takes X W → Cal X W "is_tuple_of" [] f_is_tuple_of := fun e1 e2 e3 e4 e5 e6 tk => Def.calX d_is_tuple_of_3 (hr.mono (by decide)) tk e1 e2 e3 e4 e5 e6
    exact (qss_cons (qs_ret (q_and (q_fn (c_is_tuple_of_3 rfl rfl rfl rfl rfl rfl takesM) rfl (qa_cons (qv 1) (qa_cons q_int (qa_cons q_int qa_nil)))) (q_and (q_isi (T := "str") rfl fr.isinstance (q_ix (ixd hu) (qv 1) q_int) rfl fr.str (by decide +kernel)) (q_and (q_cmp (opd_in hu) (q_ix (ixd hu) (qv 1) q_int) (qv 0) (by rfl)) (q_one (q_fn (c_is_bit_1 rfl rfl rfl rfl rfl rfl takesM) rfl (qa_cons (q_ix (ixd hu) (qv 1) q_int) qa_nil)))))))
  qss_nil)
theorem ok_is_word_and (fr : Fr mg K) (xs : Xs P w K mg base) (d_is_tuple_of_3 : Def P w K mg base (L2N.CX P w) 1 "is_tuple_of" [] f_is_tuple_of)  (F : FunD K "is_word_and" "is_word_and" (defArgs s_is_word_and) (defBody s_is_word_and) (defScope s_is_word_and) [] [] fa fd) :
    FnOk P w K mg base (L2N.CX P w) 2 fa fd P_is_word_and (spOf P w K mg f_is_word_and) :=
  fn_ok (k := 1) (body := m_is_word_and) F sc_is_word_and fun cdv A outer s H E hr => by
    have hu := hu64 hr
    have c_is_tuple_of_3 : ∀ {X : Cx} {W : WX}, X.prog = P → X.w = w → X.K = K → X.mg = mg → X.base = base → X.A = _ → L2N.Takes X W → Cal X W "is_tuple_of" [] f_is_tuple_of := fun e1 e2 e3 e4 e5 e6 tk => Def.calX d_is_tuple_of_3 (hr.mono (by decide)) tk e1 e2 e3 e4 e5 e6
    exact (qss_cons (qs_ret (q_and (q_fn (c_is_tuple_of_3 rfl rfl rfl rfl rfl rfl takesM) rfl (qa_cons (qv 0) (qa_cons (qv 1) (qa_cons (qv 1) qa_nil)))) (q_and (q_isi (T := "str") rfl fr.isinstance (q_ix (ixd hu) (qv 0) q_int) rfl fr.str (by decide +kernel)) (q_one (q_cmp (opd_in hu) (q_ix (ixd hu) (qv 0) q_int) (q_glob fr.WORDS rfl) (by rfl))))))
  qss_nil)
theorem ok_is_sentence_over (fr : Fr mg K) (xs : Xs P w K mg base) (d_is_term_over_2 : Def P w K mg base (L2N.CX P w) 2 "is_term_over" [] f_is_term_over) (d_is_word_and_2 : Def P w K mg base (L2N.CX P w) 2 "is_word_and" [] f_is_word_and)  (F : FunD K "is_sentence_over" "is_sentence_over" (defArgs s_is_sentence_over) (defBody s_is_sentence_over) (defScope s_is_sentence_over) [] [] fa fd) :
    FnOk P w K mg base (L2N.CX P w) 3 fa fd P_is_sentence_over (spOf P w K mg f_is_sentence_over) :=
  fn_ok (k := 2) (body := m_is_sentence_over) F sc_is_sentence_over fun cdv A outer s H E hr => by
    have hu := hu64 hr
    have c_is_term_over_2 : ∀ {X : Cx} {W : WX}, X.prog = P → X.w = w → X.K = K → X.mg = mg → X.base = base → X.A = _ → L2N.Takes X W → Cal X W "is_term_over" [] f_is_term_over := fun e1 e2 e3 e4 e5 e6 tk => Def.calX d_is_term_over_2 (hr.mono (by decide)) tk e1 e2 e3 e4 e5 e6
    have c_is_word_and_2 : ∀ {X : Cx} {W : WX}, X.prog = P → X.w = w → X.K = K → X.mg = mg → X.base = base → X.A = _ → L2N.Takes X W → Cal X W "is_word_and" [] f_is_word_and := fun e1 e2 e3 e4 e5 e6 tk => Def.calX d_is_word_and_2 (hr.mono (by decide)) tk e1 e2 e3 e4 e5 e6
    exact (qss_cons (qs_ret (q_and (q_fn (c_is_word_and_2 rfl rfl rfl rfl rfl rfl takesM) rfl (qa_cons (qv 1) (qa_cons q_int qa_nil))) (q_and (q_fn (c_is_term_over_2 rfl rfl rfl rfl rfl rfl takesM) rfl (qa_cons (qv 0) (qa_cons (q_ix (ixd hu) (qv 1) q_int) qa_nil))) (q_one (q_fn (c_is_term_over_2 rfl rfl rfl rfl rfl rfl takesM) rfl (qa_cons (qv 0) (qa_cons (q_ix (ixd hu) (qv 1) q_int) qa_nil)))))))
  qss_nil)
theorem ok_is_entry (fr : Fr mg K) (xs : Xs P w K mg base) (d_is_sentence_over_2 : Def P w K mg base (L2N.CX P w) 3 "is_sentence_over" [] f_is_sentence_over) (d_is_source_1 : Def P w K mg base (L2N.CX P w) 3 "is_source" [] f_is_source) (d_is_tuple_of_3 : Def P w K mg base (L2N.CX P w) 1 "is_tuple_of" [] f_is_tuple_of)  (F : FunD K "is_entry" "is_entry" (defArgs s_is_entry) (defBody s_is_entry) (defScope s_is_entry) [] [] fa fd) :
    FnOk P w K mg base (L2N.CX P w) 4 fa fd P_is_entry (spOf P w K mg f_is_entry) :=
  fn_ok (k := 3) (body := m_is_entry) F sc_is_entry fun cdv A outer s H E hr => by
    have hu := hu64 hr
    have c_is_sentence_over_2 : ∀ {X : Cx} {W : WX}, X.prog = P → X.w = w → X.K = K → X.mg = mg → X.base = base → X.A = _ → L2N.Takes X W → Cal X W "is_sentence_over" [] f_is_sentence_over := fun e1 e2 e3 e4 e5 e6 tk => Def.calX d_is_sentence_over_2 (hr.mono (by decide)) tk e1 e2 e3 e4 e5 e6
    have c_is_source_1 : ∀ {X : Cx} {W : WX}, X.prog = P → X.w = w → X.K = K → X.mg = mg → X.base = base → X.A = _ → L2N.Takes X W → Cal X W "is_source" [] f_is_source := fun e1 e2 e3 e4 e5 e6 tk => Def.calX d_is_source_1 (hr.mono (by decide)) tk e1 e2 e3 e4 e5 e6
    have c_is_tuple_of_3 : ∀ {X : Cx} {W : WX}, X.prog = P → X.w = w → X.K = K → X.mg = mg → X.base = base → X.A = _ → L2N.Takes X W → Cal X W "is_tuple_of" [] f_is_tuple_of := fun e1 e2 e3 e4 e5 e6 tk => Def.calX d_is_tuple_of_3 (hr.mono (by decide)) tk e1 e2 e3 e4 e5 e6
    exact (qss_cons (qs_ret (q_and (q_fn (c_is_tuple_of_3 rfl rfl rfl rfl rfl rfl takesM) rfl (qa_cons (qv 1) (qa_cons q_int (qa_cons q_int qa_nil)))) (q_and (q_fn (c_is_source_1 rfl rfl rfl rfl rfl rfl takesM) rfl (qa_cons (q_ix (ixd hu) (qv 1) q_int) qa_nil)) (q_one (q_fn (c_is_sentence_over_2 rfl rfl rfl rfl rfl rfl takesM) rfl (qa_cons (qv 0) (qa_cons (q_ix (ixd hu) (qv 1) q_int) qa_nil)))))))
  qss_nil)
theorem ok_is_book (fr : Fr mg K) (xs : Xs P w K mg base) (d_is_entry_2 : Def P w K mg base (L2N.CX P w) 4 "is_entry" [] f_is_entry) (d_is_kinds_1 : Def P w K mg base (L2N.CX P w) 3 "is_kinds" [] f_is_kinds) (d_is_tuple_of_3 : Def P w K mg base (L2N.CX P w) 1 "is_tuple_of" [] f_is_tuple_of) (d_without_doubles_1 : Def P w K mg base (L2N.CX P w) 1 "without_doubles" [] f_without_doubles)  (F : FunD K "is_book" "is_book" (defArgs s_is_book) (defBody s_is_book) (defScope s_is_book) [] [] fa fd) :
    FnOk P w K mg base (L2N.CX P w) 5 fa fd P_is_book (spOf P w K mg f_is_book) :=
  fn_ok (k := 4) (body := m_is_book) F sc_is_book fun cdv A outer s H E hr => by
    have hu := hu64 hr
    have c_is_entry_2 : ∀ {X : Cx} {W : WX}, X.prog = P → X.w = w → X.K = K → X.mg = mg → X.base = base → X.A = _ → L2N.Takes X W → Cal X W "is_entry" [] f_is_entry := fun e1 e2 e3 e4 e5 e6 tk => Def.calX d_is_entry_2 (hr.mono (by decide)) tk e1 e2 e3 e4 e5 e6
    have c_is_kinds_1 : ∀ {X : Cx} {W : WX}, X.prog = P → X.w = w → X.K = K → X.mg = mg → X.base = base → X.A = _ → L2N.Takes X W → Cal X W "is_kinds" [] f_is_kinds := fun e1 e2 e3 e4 e5 e6 tk => Def.calX d_is_kinds_1 (hr.mono (by decide)) tk e1 e2 e3 e4 e5 e6
    have c_is_tuple_of_3 : ∀ {X : Cx} {W : WX}, X.prog = P → X.w = w → X.K = K → X.mg = mg → X.base = base → X.A = _ → L2N.Takes X W → Cal X W "is_tuple_of" [] f_is_tuple_of := fun e1 e2 e3 e4 e5 e6 tk => Def.calX d_is_tuple_of_3 (hr.mono (by decide)) tk e1 e2 e3 e4 e5 e6
    have c_without_doubles_1 : ∀ {X : Cx} {W : WX}, X.prog = P → X.w = w → X.K = K → X.mg = mg → X.base = base → X.A = _ → L2N.Takes X W → Cal X W "without_doubles" [] f_without_doubles := fun e1 e2 e3 e4 e5 e6 tk => Def.calX d_without_doubles_1 (hr.mono (by decide)) tk e1 e2 e3 e4 e5 e6
    exact (qss_cons (qs_if (QW.qt (qw_or (qt_not (qt_val (q_fn (c_is_tuple_of_3 rfl rfl rfl rfl rfl rfl takesM) rfl (qa_cons (qv 0) (qa_cons q_int (qa_cons q_int qa_nil)))))) (qw_or1 (qt_not (qt_val (q_fn (c_is_kinds_1 rfl rfl rfl rfl rfl rfl takesM) rfl (qa_cons (q_ix (ixd hu) (qv 0) q_int) qa_nil))))))) (qss_cons (qs_ret q_bl)
  qss_nil) qss_nil)
  (qss_cons (qs_asg (qv 0) (qg_tup rfl (qgs_cons (qgn (i := 1) sc_is_book.nd) (qgs_cons (qgn (i := 2) sc_is_book.nd) qgs_nil))))
  (qss_cons (qs_if (QW.qt (qw_or (qt_not (qt_val (q_fn (c_is_tuple_of_3 rfl rfl rfl rfl rfl rfl takesM) rfl (qa_cons (qv 2) (qa_cons q_int (qa_cons (q_glob fr.MOST_ENTRIES rfl) qa_nil)))))) (qw_or1 (qt_not (qt_val (q_bltn (cd_all rfl) rfl fr.all (by decide +kernel) (qa_cons (q_lc (own := [("entry", 3)]) rfl sc_is_book.nd (qi_seq (qv 2)) (blkOk_by (own := [("entry", 3)]) (N := N_is_book) (sc := defScope s_is_book) (by decide +kernel)) (fun _ _ _ _ _ => (qgn (i := 3) sc_is_book.nd)) (fun _ _ _ _ _ => qts_nil) (fun _ _ _ _ _ => (q_fn (c_is_entry_2 rfl rfl rfl rfl rfl rfl takesN) rfl (qa_cons (qv 1) (qa_cons (qv 3) qa_nil))))) qa_nil))))))) (qss_cons (qs_ret q_bl)
  qss_nil) qss_nil)
  (qss_cons (qs_ret (q_cmp (opd_eq hu) (q_bltn cd_len rfl fr.len (by decide +kernel) (qa_cons (q_fn (c_without_doubles_1 rfl rfl rfl rfl rfl rfl takesM) rfl (qa_cons (qv 2) qa_nil)) qa_nil)) (q_bltn cd_len rfl fr.len (by decide +kernel) (qa_cons (qv 2) qa_nil)) (by rfl)))
  qss_nil))))
theorem ok_check_book (fr : Fr mg K) (xs : Xs P w K mg base) (d_is_book_1 : Def P w K mg base (L2N.CX P w) 5 "is_book" [] f_is_book)  (F : FunD K "check_book" "check_book" (defArgs s_check_book) (defBody s_check_book) (defScope s_check_book) [.str "book"] [] fa fd) :
    FnOk P w K mg base (L2N.CX P w) 6 fa fd P_check_book (spOf P w K mg f_check_book) :=
  fn_ok (k := 5) (body := m_check_book) F sc_check_book fun cdv A outer s H E hr => by
    have hu := hu64 hr
    have c_is_book_1 : ∀ {X : Cx} {W : WX}, X.prog = P → X.w = w → X.K = K → X.mg = mg → X.base = base → X.A = _ → L2N.Takes X W → Cal X W "is_book" [] f_is_book := fun e1 e2 e3 e4 e5 e6 tk => Def.calX d_is_book_1 (hr.mono (by decide)) tk e1 e2 e3 e4 e5 e6
    exact (qss_cons (qs_if (qt_not (qt_val (q_fn (c_is_book_1 rfl rfl rfl rfl rfl rfl takesM) rfl (qa_cons (qv 0) qa_nil)))) (qss_cons (qs_raise rfl takesM xs.c_BadValue (hr.mono (by decide)) (qa_cons (qv 1) qa_nil))
  qss_nil) qss_nil)
  qss_nil)
theorem ok_sentences_among (fr : Fr mg K) (xs : Xs P w K mg base) (d_without_doubles_1 : Def P w K mg base (L2N.CX P w) 1 "without_doubles" [] f_without_doubles)  (F : FunD K "sentences_among" "sentences_among" (defArgs s_sentences_among) (defBody s_sentences_among) (defScope s_sentences_among) [] [] fa fd) :
    FnOk P w K mg base (L2N.CX P w) 2 fa fd P_sentences_among (spOf P w K mg f_sentences_among) :=
  fn_ok (k := 1) (body := m_sentences_among) F sc_sentences_among fun cdv A outer s H E hr => by
    have hu := hu64 hr
    have c_without_doubles_1 : ∀ {X : Cx} {W : WX}, X.prog = P → X.w = w → X.K = K → X.mg = mg → X.base = base → X.A = _ → L2N.Takes X W → Cal X W "without_doubles" [] f_without_doubles := fun e1 e2 e3 e4 e5 e6 tk => Def.calX d_without_doubles_1 (hr.mono (by decide)) tk e1 e2 e3 e4 e5 e6
    exact (qss_cons (qs_ret (q_btyp cd_tuple rfl fr.tuple (by decide +kernel) (qa_cons (q_fn (c_without_doubles_1 rfl rfl rfl rfl rfl rfl takesM) rfl (qa_cons (q_lc (own := [("source", 1), ("sentence", 2)]) rfl sc_sentences_among.nd (qi_seq (q_ix (ixd hu) (qv 0) q_int)) (blkOk_by (own := [("source", 1), ("sentence", 2)]) (N := N_sentences_among) (sc := defScope s_sentences_among) (by decide +kernel)) (fun _ _ _ _ _ => (qg_tup rfl (qgs_cons (qgn (i := 1) sc_sentences_among.nd) (qgs_cons (qgn (i := 2) sc_sentences_among.nd) qgs_nil)))) (fun _ _ _ _ _ => qts_nil) (fun _ _ _ _ _ => (qv 2))) qa_nil)) qa_nil)))
  qss_nil)
theorem ok_told_sentences (fr : Fr mg K) (xs : Xs P w K mg base) (d_check_book_1 : Def P w K mg base (L2N.CX P w) 6 "check_book" [.str "book"] f_check_book) (d_sentences_among_1 : Def P w K mg base (L2N.CX P w) 2 "sentences_among" [] f_sentences_among)  (F : FunD K "told_sentences" "told_sentences" (defArgs s_told_sentences) (defBody s_told_sentences) (defScope s_told_sentences) [] [] fa fd) :
    FnOk P w K mg base (L2N.CX P w) 7 fa fd P_told_sentences (spOf P w K mg f_told_sentences) :=
  fn_ok (k := 6) (body := m_told_sentences) F sc_told_sentences fun cdv A outer s H E hr => by
    have hu := hu64 hr
    have c_check_book_1 : ∀ {X : Cx} {W : WX}, X.prog = P → X.w = w → X.K = K → X.mg = mg → X.base = base → X.A = _ → L2N.Takes X W → Cal X W "check_book" [.str "book"] f_check_book := fun e1 e2 e3 e4 e5 e6 tk => Def.calX d_check_book_1 (hr.mono (by decide)) tk e1 e2 e3 e4 e5 e6
    have c_sentences_among_1 : ∀ {X : Cx} {W : WX}, X.prog = P → X.w = w → X.K = K → X.mg = mg → X.base = base → X.A = _ → L2N.Takes X W → Cal X W "sentences_among" [] f_sentences_among := fun e1 e2 e3 e4 e5 e6 tk => Def.calX d_sentences_among_1 (hr.mono (by decide)) tk e1 e2 e3 e4 e5 e6
    exact (qss_cons (qs_expr (q_fn (c_check_book_1 rfl rfl rfl rfl rfl rfl takesM) rfl (qa_cons (qv 0) qa_nil)))
  (qss_cons (qs_ret (q_fn (c_sentences_among_1 rfl rfl rfl rfl rfl rfl takesM) rfl (qa_cons (qv 0) qa_nil)))
  qss_nil))
theorem ok_sizes_of (fr : Fr mg K) (xs : Xs P w K mg base) (d_check_book_1 : Def P w K mg base (L2N.CX P w) 6 "check_book" [.str "book"] f_check_book) (d_sentences_among_1 : Def P w K mg base (L2N.CX P w) 2 "sentences_among" [] f_sentences_among)  (F : FunD K "sizes_of" "sizes_of" (defArgs s_sizes_of) (defBody s_sizes_of) (defScope s_sizes_of) [] [] fa fd) :
    FnOk P w K mg base (L2N.CX P w) 7 fa fd P_sizes_of (spOf P w K mg f_sizes_of) :=
  fn_ok (k := 6) (body := m_sizes_of) F sc_sizes_of fun cdv A outer s H E hr => by
    have hu := hu64 hr
    have c_check_book_1 : ∀ {X : Cx} {W : WX}, X.prog = P → X.w = w → X.K = K → X.mg = mg → X.base = base → X.A = _ → L2N.Takes X W → Cal X W "check_book" [.str "book"] f_check_book := fun e1 e2 e3 e4 e5 e6 tk => Def.calX d_check_book_1 (hr.mono (by decide)) tk e1 e2 e3 e4 e5 e6
    have c_sentences_among_1 : ∀ {X : Cx} {W : WX}, X.prog = P → X.w = w → X.K = K → X.mg = mg → X.base = base → X.A = _ → L2N.Takes X W → Cal X W "sentences_among" [] f_sentences_among := fun e1 e2 e3 e4 e5 e6 tk => Def.calX d_sentences_among_1 (hr.mono (by decide)) tk e1 e2 e3 e4 e5 e6
    exact (qss_cons (qs_expr (q_fn (c_check_book_1 rfl rfl rfl rfl rfl rfl takesM) rfl (qa_cons (qv 0) qa_nil)))
  (qss_cons (qs_ret (q_tup (qa_cons (q_bltn cd_len rfl fr.len (by decide +kernel) (qa_cons (q_ix (ixd hu) (qv 0) q_int) qa_nil)) (qa_cons (q_bltn cd_len rfl fr.len (by decide +kernel) (qa_cons (q_ix (ixd hu) (qv 0) q_int) qa_nil)) (qa_cons (q_bltn cd_len rfl fr.len (by decide +kernel) (qa_cons (q_fn (c_sentences_among_1 rfl rfl rfl rfl rfl rfl takesM) rfl (qa_cons (qv 0) qa_nil)) qa_nil)) qa_nil)))))
  qss_nil))
theorem ok_n__law_stream (fr : Fr mg K) (xs : Xs P w K mg base)   (F : FunD K "_law_stream" "_law_stream" (defArgs s_n__law_stream) (defBody s_n__law_stream) (defScope s_n__law_stream) [] [] fa fd) :
    FnOk P w K mg base (L2N.CX P w) 1 fa fd P_n__law_stream (spOf P w K mg f_n__law_stream) :=
  fn_ok (k := 0) (body := m_n__law_stream) F sc_n__law_stream fun cdv A outer s H E hr => by
    have hu := hu64 hr
    exact (qss_cons (qs_ret (q_newL (qa_cons (q_btyp (cd_listF rfl) rfl fr.list (by decide +kernel) (qa_cons (qv 0) qa_nil)) (qa_cons q_int (qa_cons q_int qa_nil)))))
  qss_nil)
theorem ok_n__law_next (fr : Fr mg K) (xs : Xs P w K mg base)   (F : FunD K "_law_next" "_law_next" (defArgs s_n__law_next) (defBody s_n__law_next) (defScope s_n__law_next) [] [] fa fd) :
    FnOk P w K mg base (L2N.CX P w) 1 fa fd P_n__law_next (spOf P w K mg f_n__law_next) :=
  fn_ok (k := 0) (body := m_n__law_next) F sc_n__law_next fun cdv A outer s H E hr => by
    have hu := hu64 hr
    exact (qss_cons (qs_if (qt_cmp (opd_eq hu) (q_ix (ixd hu) (qv 0) q_int) q_int (by rfl)) (qss_cons (qsn (i := 3) sc_n__law_next.nd (q_ix (ixd hu) (qv 0) q_int))
  (qss_cons (qsn (i := 4) sc_n__law_next.nd (q_op opd_plus q_int (qv 3)))
  (qss_cons (qs_if (qt_cmp (opd_lt hu) (qv 3) (q_bltn cd_len rfl fr.len (by decide +kernel) (qa_cons (q_ix (ixd hu) (qv 0) q_int) qa_nil)) (by rfl)) (qss_cons (qsn (i := 4) sc_n__law_next.nd (q_op opd_mod (q_btyp cd_int rfl fr.int (by decide +kernel) (qa_cons (q_bltn cd_abs rfl fr.abs (by decide +kernel) (qa_cons (q_ix (ixd hu) (q_ix (ixd hu) (qv 0) q_int) (qv 3)) qa_nil)) qa_nil)) (q_op opd_pow q_int q_int)))
  qss_nil) qss_nil)
  (qss_cons (qs_if (qt_cmp (opd_lt hu) (qv 4) (q_op opd_pow q_int q_int) (by rfl)) (qss_cons (qsn (i := 4) sc_n__law_next.nd (q_op opd_mod (q_btyp cd_int rfl fr.int (by decide +kernel) (qa_cons (q_op opd_plus (q_op opd_plus (q_op opd_mul (qv 4) q_int) (q_op opd_mul (qv 3) q_int)) q_int) qa_nil)) q_int))
  (qss_cons (qsn (i := 4) sc_n__law_next.nd (q_op opd_plus (q_op opd_mul (q_op opd_mod (q_btyp cd_int rfl fr.int (by decide +kernel) (qa_cons (q_op opd_plus (q_op opd_mul (qv 4) q_int) q_int) qa_nil)) q_int) q_int) (qv 4)))
  qss_nil)) qss_nil)
  (qss_cons (qs_asg (qv 4) (qg_sub (W := WNever) (setd hu) (qv 0) q_int))
  (qss_cons (qs_asg (q_op opd_plus (qv 3) q_int) (qg_sub (W := WNever) (setd hu) (qv 0) q_int))
  qss_nil)))))) qss_nil)
  (qss_cons (qsn (i := 2) sc_n__law_next.nd (q_op opd_mod (q_btyp cd_int rfl fr.int (by decide +kernel) (qa_cons (q_ix (ixd hu) (qv 0) q_int) qa_nil)) (qv 1)))
  (qss_cons (qs_asg (q_op opd_div (q_ix (ixd hu) (qv 0) q_int) (qv 1)) (qg_sub (W := WNever) (setd hu) (qv 0) q_int))
  (qss_cons (qs_ret (qv 2))
  qss_nil))))
theorem ok_n__law_pick (fr : Fr mg K) (xs : Xs P w K mg base) (d_n__law_next_2 : Def P w K mg base (L2N.CX P w) 1 "_law_next" [] f_n__law_next)  (F : FunD K "_law_pick" "_law_pick" (defArgs s_n__law_pick) (defBody s_n__law_pick) (defScope s_n__law_pick) [] [] fa fd) :
    FnOk P w K mg base (L2N.CX P w) 2 fa fd P_n__law_pick (spOf P w K mg f_n__law_pick) :=
  fn_ok (k := 1) (body := m_n__law_pick) F sc_n__law_pick fun cdv A outer s H E hr => by
    have hu := hu64 hr
    have c_n__law_next_2 : ∀ {X : Cx} {W : WX}, X.prog = P → X.w = w → X.K = K → X.mg = mg → X.base = base → X.A = _ → L2N.Takes X W → Cal X W "_law_next" [] f_n__law_next := fun e1 e2 e3 e4 e5 e6 tk => Def.calX d_n__law_next_2 (hr.mono (by decide)) tk e1 e2 e3 e4 e5 e6
    exact (qss_cons (qs_ret (q_ix (ixd hu) (qv 1) (q_fn (c_n__law_next_2 rfl rfl rfl rfl rfl rfl takesM) rfl (qa_cons (qv 0) (qa_cons (q_bltn cd_len rfl fr.len (by decide +kernel) (qa_cons (qv 1) qa_nil)) qa_nil)))))
  qss_nil)
theorem ok_n__law_says (fr : Fr mg K) (xs : Xs P w K mg base)   (F : FunD K "_law_says" "_law_says" (defArgs s_n__law_says) (defBody s_n__law_says) (defScope s_n__law_says) [] [] fa fd) :
    FnOk P w K mg base (L2N.CX P w) 1 fa fd P_n__law_says (spOf P w K mg f_n__law_says) :=
  fn_ok (k := 0) (body := m_n__law_says) F sc_n__law_says fun cdv A outer s H E hr => by
    have hu := hu64 hr
    exact (qss_cons (qs_ret (q_if (qt_val (qv 1)) (q_cmp opd_is (qv 0) q_bl (by rfl)) (q_cmp opd_is (qv 0) q_bl (by rfl))))
  qss_nil)
theorem ok_n__law_same (fr : Fr mg K) (xs : Xs P w K mg base)   (F : FunD K "_law_same" "_law_same" (defArgs s_n__law_same) (defBody s_n__law_same) (defScope s_n__law_same) [] [] fa fd) :
    FnOk P w K mg base (L2N.CX P w) 1 fa fd P_n__law_same (spOf P w K mg f_n__law_same) :=
  fn_ok (k := 0) (body := m_n__law_same) F sc_n__law_same fun cdv A outer s H E hr => by
    have hu := hu64 hr
    exact (qss_cons (qsn (i := 2) sc_n__law_same.nd (q_newL (qa_cons (q_tup (qa_cons (qv 0) (qa_cons (qv 1) qa_nil))) qa_nil)))
  (qss_cons (qs_for (passes_of rfl) rfl (qi_range1 rfl fr.range q_int) (qgn (i := 3) sc_n__law_same.nd) (qss_cons (qs_if (qt_cmp (opd_eq hu) (q_bltn cd_len rfl fr.len (by decide +kernel) (qa_cons (qv 2) qa_nil)) q_int (by rfl)) (qss_cons (qs_ret q_bl)
  qss_nil) qss_nil)
  (qss_cons (qs_asg (q_meth0 PySem.F.plainAttrs_list PySem.F.slot_list_pop PySem.F.type_list_pop md_pop (qv 2)) (qg_tup rfl (qgs_cons (qgn (i := 4) sc_n__law_same.nd) (qgs_cons (qgn (i := 5) sc_n__law_same.nd) qgs_nil))))
  (qss_cons (qs_if (QW.qt (qw_or (qt_val (q_isi (T := "tuple") rfl fr.isinstance (qv 5) rfl fr.tuple (by decide +kernel))) (qw_or1 (qt_val (q_isi (T := "list") rfl fr.isinstance (qv 5) rfl fr.list (by decide +kernel)))))) (qss_cons (qs_if (QW.qt (qw_or (qt_cmp (opd_ne hu) (q_isi (T := "tuple") rfl fr.isinstance (qv 5) rfl fr.tuple (by decide +kernel)) (q_isi (T := "tuple") rfl fr.isinstance (qv 4) rfl fr.tuple (by decide +kernel)) (by rfl)) (qw_or1 (qt_cmp (opd_ne hu) (q_isi (T := "list") rfl fr.isinstance (qv 5) rfl fr.list (by decide +kernel)) (q_isi (T := "list") rfl fr.isinstance (qv 4) rfl fr.list (by decide +kernel)) (by rfl))))) (qss_cons (qs_ret q_bl)
  qss_nil) qss_nil)
  (qss_cons (qs_if (qt_cmp (opd_ne hu) (q_bltn cd_len rfl fr.len (by decide +kernel) (qa_cons (qv 4) qa_nil)) (q_bltn cd_len rfl fr.len (by decide +kernel) (qa_cons (qv 5) qa_nil)) (by rfl)) (qss_cons (qs_ret q_bl)
  qss_nil) qss_nil)
  (qss_cons (qs_expr (q_meth PySem.F.plainAttrs_list PySem.F.slot_list_extend PySem.F.type_list_extend md_extend (qv 2) (qa_cons (q_lc (own := [("at", 6)]) rfl sc_n__law_same.nd (qi_range1 rfl fr.range (q_bltn cd_len rfl fr.len (by decide +kernel) (qa_cons (qv 5) qa_nil))) (blkOk_by (own := [("at", 6)]) (N := N_n__law_same) (sc := defScope s_n__law_same) (by decide +kernel)) (fun _ _ _ _ _ => (qgn (i := 6) sc_n__law_same.nd)) (fun _ _ _ _ _ => qts_nil) (fun _ _ _ _ _ => (q_tup (qa_cons (q_ix (ixd hu) (qv 4) (qv 6)) (qa_cons (q_ix (ixd hu) (qv 5) (qv 6)) qa_nil))))) qa_nil)))
  qss_nil))) (qss_cons (qs_if (qt_val (q_isi (T := "bool") rfl fr.isinstance (qv 5) rfl fr.bool (by decide +kernel))) (qss_cons (qs_if (QW.qt (qw_or (qt_not (qt_val (q_isi (T := "bool") rfl fr.isinstance (qv 4) rfl fr.bool (by decide +kernel)))) (qw_or1 (qt_cmp (opd_ne hu) (qv 4) (qv 5) (by rfl))))) (qss_cons (qs_ret q_bl)
  qss_nil) qss_nil)
  qss_nil) (qss_cons (qs_if (qt_val (q_isi (T := "int") rfl fr.isinstance (qv 5) rfl fr.int (by decide +kernel))) (qss_cons (qs_if (QW.qt (qw_or (qt_not (qt_val (q_isi (T := "int") rfl fr.isinstance (qv 4) rfl fr.int (by decide +kernel)))) (qw_or (qt_val (q_isi (T := "bool") rfl fr.isinstance (qv 4) rfl fr.bool (by decide +kernel))) (qw_or1 (qt_cmp (opd_ne hu) (qv 4) (qv 5) (by rfl)))))) (qss_cons (qs_ret q_bl)
  qss_nil) qss_nil)
  qss_nil) (qss_cons (qs_if (qt_val (q_isi (T := "str") rfl fr.isinstance (qv 5) rfl fr.str (by decide +kernel))) (qss_cons (qs_if (QW.qt (qw_or (qt_not (qt_val (q_isi (T := "str") rfl fr.isinstance (qv 4) rfl fr.str (by decide +kernel)))) (qw_or1 (qt_cmp (opd_ne hu) (qv 4) (qv 5) (by rfl))))) (qss_cons (qs_ret q_bl)
  qss_nil) qss_nil)
  qss_nil) (qss_cons (qs_if (qt_cmp opd_notN (qv 4) q_non (by rfl)) (qss_cons (qs_ret q_bl)
  qss_nil) qss_nil)
  qss_nil))
  qss_nil))
  qss_nil))
  qss_nil))
  qss_nil))))
  (qss_cons (qs_ret q_bl)
  qss_nil)))
theorem ok_n__law_kind (fr : Fr mg K) (xs : Xs P w K mg base) (d_n__law_next_2 : Def P w K mg base (L2N.CX P w) 1 "_law_next" [] f_n__law_next) (d_n__law_pick_2 : Def P w K mg base (L2N.CX P w) 2 "_law_pick" [] f_n__law_pick)  (F : FunD K "_law_kind" "_law_kind" (defArgs s_n__law_kind) (defBody s_n__law_kind) (defScope s_n__law_kind) [] [] fa fd) :
    FnOk P w K mg base (L2N.CX P w) 3 fa fd P_n__law_kind (spOf P w K mg f_n__law_kind) :=
  fn_ok (k := 2) (body := m_n__law_kind) F sc_n__law_kind fun cdv A outer s H E hr => by
    have hu := hu64 hr
    have c_n__law_next_2 : ∀ {X : Cx} {W : WX}, X.prog = P → X.w = w → X.K = K → X.mg = mg → X.base = base → X.A = _ → L2N.Takes X W → Cal X W "_law_next" [] f_n__law_next := fun e1 e2 e3 e4 e5 e6 tk => Def.calX d_n__law_next_2 (hr.mono (by decide)) tk e1 e2 e3 e4 e5 e6
    have c_n__law_pick_2 : ∀ {X : Cx} {W : WX}, X.prog = P → X.w = w → X.K = K → X.mg = mg → X.base = base → X.A = _ → L2N.Takes X W → Cal X W "_law_pick" [] f_n__law_pick := fun e1 e2 e3 e4 e5 e6 tk => Def.calX d_n__law_pick_2 (hr.mono (by decide)) tk e1 e2 e3 e4 e5 e6
    exact (qss_cons (qs_if (qt_cmp (opd_eq hu) (q_fn (c_n__law_next_2 rfl rfl rfl rfl rfl rfl takesM) rfl (qa_cons (qv 0) (qa_cons q_int qa_nil))) q_int (by rfl)) (qss_cons (qsn (i := 3) sc_n__law_kind.nd q_str)
  (qss_cons (qs_ret (q_fn (c_n__law_pick_2 rfl rfl rfl rfl rfl rfl takesM) rfl (qa_cons (qv 0) (qa_cons (q_meth PySem.F.plainAttrs_str PySem.F.slot_str_split PySem.F.type_str_split md_split (qv 3) (qa_cons q_str qa_nil)) qa_nil))))
  qss_nil)) qss_nil)
  (qss_cons (qsn (i := 1) sc_n__law_kind.nd (q_ix (ixd hu) q_str (q_fn (c_n__law_next_2 rfl rfl rfl rfl rfl rfl takesM) rfl (qa_cons (qv 0) (qa_cons q_int qa_nil)))))
  (qss_cons (qs_for (passes_of rfl) rfl (qi_range1 rfl fr.range (q_fn (c_n__law_pick_2 rfl rfl rfl rfl rfl rfl takesM) rfl (qa_cons (qv 0) (qa_cons (q_lst (qa_cons q_int (qa_cons q_int (qa_cons q_int (qa_cons q_int (qa_cons q_int qa_nil)))))) qa_nil)))) (qgn (i := 2) sc_n__law_kind.nd) (qss_cons (qsn (i := 1) sc_n__law_kind.nd (q_op opd_plus (qv 1) (q_ix (ixd hu) q_str (q_fn (c_n__law_next_2 rfl rfl rfl rfl rfl rfl takesM) rfl (qa_cons (qv 0) (qa_cons q_int qa_nil))))))
  qss_nil))
  (qss_cons (qs_ret (qv 1))
  qss_nil))))
theorem ok_n__law_kinds (fr : Fr mg K) (xs : Xs P w K mg base) (d_n__law_kind_1 : Def P w K mg base (L2N.CX P w) 3 "_law_kind" [] f_n__law_kind) (d_n__law_next_2 : Def P w K mg base (L2N.CX P w) 1 "_law_next" [] f_n__law_next)  (F : FunD K "_law_kinds" "_law_kinds" (defArgs s_n__law_kinds) (defBody s_n__law_kinds) (defScope s_n__law_kinds) [] [] fa fd) :
    FnOk P w K mg base (L2N.CX P w) 4 fa fd P_n__law_kinds (spOf P w K mg f_n__law_kinds) :=
  fn_ok (k := 3) (body := m_n__law_kinds) F sc_n__law_kinds fun cdv A outer s H E hr => by
    have hu := hu64 hr
    have c_n__law_kind_1 : ∀ {X : Cx} {W : WX}, X.prog = P → X.w = w → X.K = K → X.mg = mg → X.base = base → X.A = _ → L2N.Takes X W → Cal X W "_law_kind" [] f_n__law_kind := fun e1 e2 e3 e4 e5 e6 tk => Def.calX d_n__law_kind_1 (hr.mono (by decide)) tk e1 e2 e3 e4 e5 e6
    have c_n__law_next_2 : ∀ {X : Cx} {W : WX}, X.prog = P → X.w = w → X.K = K → X.mg = mg → X.base = base → X.A = _ → L2N.Takes X W → Cal X W "_law_next" [] f_n__law_next := fun e1 e2 e3 e4 e5 e6 tk => Def.calX d_n__law_next_2 (hr.mono (by decide)) tk e1 e2 e3 e4 e5 e6
    exact (qss_cons (qsn (i := 2) sc_n__law_kinds.nd (q_newL qa_nil))
  (qss_cons (qsn (i := 3) sc_n__law_kinds.nd (q_sl sld (q_fn (c_n__law_kind_1 rfl rfl rfl rfl rfl rfl takesM) rfl (qa_cons (qv 0) qa_nil)) qo_nil (qo_some q_int)))
  (qss_cons (qsn (i := 4) sc_n__law_kinds.nd (q_fn (c_n__law_next_2 rfl rfl rfl rfl rfl rfl takesM) rfl (qa_cons (qv 0) (qa_cons (q_op opd_plus (q_bltn cd_len rfl fr.len (by decide +kernel) (qa_cons (qv 3) qa_nil)) q_int) qa_nil))))
  (qss_cons (qsn (i := 5) sc_n__law_kinds.nd (q_fn (c_n__law_next_2 rfl rfl rfl rfl rfl rfl takesM) rfl (qa_cons (qv 0) (qa_cons q_int qa_nil))))
  (qss_cons (qsn (i := 6) sc_n__law_kinds.nd (q_fn (c_n__law_next_2 rfl rfl rfl rfl rfl rfl takesM) rfl (qa_cons (qv 0) (qa_cons q_int qa_nil))))
  (qss_cons (qs_for (passes_of rfl) rfl (qi_range1 rfl fr.range q_int) (qgn (i := 7) sc_n__law_kinds.nd) (qss_cons (qs_if (qt_cmp (opd_eq hu) (q_bltn cd_len rfl fr.len (by decide +kernel) (qa_cons (qv 2) qa_nil)) (qv 1) (by rfl)) (qss_cons qs_break
  qss_nil) qss_nil)
  (qss_cons (qsn (i := 8) sc_n__law_kinds.nd (q_if (QW.qt (qw_and (qt_cmp (opd_eq hu) (qv 6) q_int (by rfl)) (qw_and1 (qt_cmp (opd_lt hu) (qv 7) (q_op opd_mul q_int (qv 1)) (by rfl))))) (q_fn (c_n__law_kind_1 rfl rfl rfl rfl rfl rfl takesM) rfl (qa_cons (qv 0) qa_nil)) q_str))
  (qss_cons (qs_if (QW.qt (qw_or (qt_cmp (opd_eq hu) (qv 6) q_int (by rfl)) (qw_or1 (qt_cmp (opd_ge hu) (qv 7) (q_op opd_mul q_int (qv 1)) (by rfl))))) (qss_cons (qsn (i := 9) sc_n__law_kinds.nd (q_op opd_mod (q_btyp cd_int rfl fr.int (by decide +kernel) (qa_cons (q_op opd_plus (qv 5) (q_op opd_mul (qv 7) q_int)) qa_nil)) q_int))
  (qss_cons (qsn (i := 8) sc_n__law_kinds.nd (q_op opd_plus (q_op opd_plus (q_op opd_plus (q_sl sld (qv 3) qo_nil (qo_some (qv 4))) (q_ix (ixd hu) q_str (q_op opd_div (qv 9) q_int))) (q_ix (ixd hu) q_str (q_op opd_mod (q_btyp cd_int rfl fr.int (by decide +kernel) (qa_cons (qv 9) qa_nil)) q_int))) (q_sl sld (qv 3) (qo_some (qv 4)) qo_nil)))
  qss_nil)) qss_nil)
  (qss_cons (qs_if (qt_cmp (opd_notIn hu) (qv 8) (qv 2) (by rfl)) (qss_cons (qs_expr (q_meth PySem.F.plainAttrs_list PySem.F.slot_list_append PySem.F.type_list_append md_append (qv 2) (qa_cons (qv 8) qa_nil)))
  qss_nil) qss_nil)
  qss_nil)))))
  (qss_cons (qs_ret (q_btyp cd_tuple rfl fr.tuple (by decide +kernel) (qa_cons (q_bltn (cd_sortF hu) rfl fr.sorted (by decide +kernel) (qa_cons (qv 2) qa_nil)) qa_nil)))
  qss_nil)))))))
theorem ok_n__law_bit (fr : Fr mg K) (xs : Xs P w K mg base) (d_n__law_next_2 : Def P w K mg base (L2N.CX P w) 1 "_law_next" [] f_n__law_next)  (F : FunD K "_law_bit" "_law_bit" (defArgs s_n__law_bit) (defBody s_n__law_bit) (defScope s_n__law_bit) [] [] fa fd) :
    FnOk P w K mg base (L2N.CX P w) 2 fa fd P_n__law_bit (spOf P w K mg f_n__law_bit) :=
  fn_ok (k := 1) (body := m_n__law_bit) F sc_n__law_bit fun cdv A outer s H E hr => by
    have hu := hu64 hr
    have c_n__law_next_2 : ∀ {X : Cx} {W : WX}, X.prog = P → X.w = w → X.K = K → X.mg = mg → X.base = base → X.A = _ → L2N.Takes X W → Cal X W "_law_next" [] f_n__law_next := fun e1 e2 e3 e4 e5 e6 tk => Def.calX d_n__law_next_2 (hr.mono (by decide)) tk e1 e2 e3 e4 e5 e6
    exact (qss_cons (qs_ret (q_cmp (opd_eq hu) (q_fn (c_n__law_next_2 rfl rfl rfl rfl rfl rfl takesM) rfl (qa_cons (qv 0) (qa_cons q_int qa_nil))) q_int (by rfl)))
  qss_nil)
theorem ok_n__law_sentence (fr : Fr mg K) (xs : Xs P w K mg base) (d_n__law_bit_1 : Def P w K mg base (L2N.CX P w) 2 "_law_bit" [] f_n__law_bit) (d_n__law_next_2 : Def P w K mg base (L2N.CX P w) 1 "_law_next" [] f_n__law_next) (d_n__law_pick_2 : Def P w K mg base (L2N.CX P w) 2 "_law_pick" [] f_n__law_pick)  (F : FunD K "_law_sentence" "_law_sentence" (defArgs s_n__law_sentence) (defBody s_n__law_sentence) (defScope s_n__law_sentence) [] [] fa fd) :
    FnOk P w K mg base (L2N.CX P w) 3 fa fd P_n__law_sentence (spOf P w K mg f_n__law_sentence) :=
  fn_ok (k := 2) (body := m_n__law_sentence) F sc_n__law_sentence fun cdv A outer s H E hr => by
    have hu := hu64 hr
    have c_n__law_bit_1 : ∀ {X : Cx} {W : WX}, X.prog = P → X.w = w → X.K = K → X.mg = mg → X.base = base → X.A = _ → L2N.Takes X W → Cal X W "_law_bit" [] f_n__law_bit := fun e1 e2 e3 e4 e5 e6 tk => Def.calX d_n__law_bit_1 (hr.mono (by decide)) tk e1 e2 e3 e4 e5 e6
    have c_n__law_next_2 : ∀ {X : Cx} {W : WX}, X.prog = P → X.w = w → X.K = K → X.mg = mg → X.base = base → X.A = _ → L2N.Takes X W → Cal X W "_law_next" [] f_n__law_next := fun e1 e2 e3 e4 e5 e6 tk => Def.calX d_n__law_next_2 (hr.mono (by decide)) tk e1 e2 e3 e4 e5 e6
    have c_n__law_pick_2 : ∀ {X : Cx} {W : WX}, X.prog = P → X.w = w → X.K = K → X.mg = mg → X.base = base → X.A = _ → L2N.Takes X W → Cal X W "_law_pick" [] f_n__law_pick := fun e1 e2 e3 e4 e5 e6 tk => Def.calX d_n__law_pick_2 (hr.mono (by decide)) tk e1 e2 e3 e4 e5 e6
    exact (qss_cons (qsn (i := 2) sc_n__law_sentence.nd (q_fn (c_n__law_pick_2 rfl rfl rfl rfl rfl rfl takesM) rfl (qa_cons (qv 0) (qa_cons (q_lst (qa_cons q_str (qa_cons q_str (qa_cons q_str (qa_cons q_str qa_nil))))) qa_nil))))
  (qss_cons (qsn (i := 3) sc_n__law_sentence.nd (q_tup (qa_cons (q_fn (c_n__law_pick_2 rfl rfl rfl rfl rfl rfl takesM) rfl (qa_cons (qv 0) (qa_cons (qv 1) qa_nil))) (qa_cons (q_fn (c_n__law_bit_1 rfl rfl rfl rfl rfl rfl takesM) rfl (qa_cons (qv 0) qa_nil)) qa_nil))))
  (qss_cons (qsn (i := 4) sc_n__law_sentence.nd (q_tup (qa_cons (q_fn (c_n__law_pick_2 rfl rfl rfl rfl rfl rfl takesM) rfl (qa_cons (qv 0) (qa_cons (qv 1) qa_nil))) (qa_cons (q_fn (c_n__law_bit_1 rfl rfl rfl rfl rfl rfl takesM) rfl (qa_cons (qv 0) qa_nil)) qa_nil))))
  (qss_cons (qs_if (qt_cmp (opd_eq hu) (q_fn (c_n__law_next_2 rfl rfl rfl rfl rfl rfl takesM) rfl (qa_cons (qv 0) (qa_cons q_int qa_nil))) q_int (by rfl)) (qss_cons (qsn (i := 4) sc_n__law_sentence.nd (q_tup (qa_cons (q_ix (ixd hu) (qv 3) q_int) (qa_cons (q_fn (c_n__law_bit_1 rfl rfl rfl rfl rfl rfl takesM) rfl (qa_cons (qv 0) qa_nil)) qa_nil))))
  qss_nil) qss_nil)
  (qss_cons (qs_ret (q_tup (qa_cons (qv 2) (qa_cons (qv 3) (qa_cons (qv 4) qa_nil)))))
  qss_nil)))))
theorem ok_n__law_numbered (fr : Fr mg K) (xs : Xs P w K mg base)   (F : FunD K "_law_numbered" "_law_numbered" (defArgs s_n__law_numbered) (defBody s_n__law_numbered) (defScope s_n__law_numbered) [] [] fa fd) :
    FnOk P w K mg base (L2N.CX P w) 1 fa fd P_n__law_numbered (spOf P w K mg f_n__law_numbered) :=
  fn_ok (k := 0) (body := m_n__law_numbered) F sc_n__law_numbered fun cdv A outer s H E hr => by
    have hu := hu64 hr
    exact (qss_cons (qsn (i := 2) sc_n__law_numbered.nd (q_op opd_mul q_int (q_bltn cd_len rfl fr.len (by decide +kernel) (qa_cons (qv 0) qa_nil))))
  (qss_cons (qsn (i := 3) sc_n__law_numbered.nd (q_ix (ixd hu) (q_lst (qa_cons q_str (qa_cons q_str (qa_cons q_str (qa_cons q_str qa_nil))))) (q_op opd_mod (q_btyp cd_int rfl fr.int (by decide +kernel) (qa_cons (qv 1) qa_nil)) q_int)))
  (qss_cons (qsn (i := 4) sc_n__law_numbered.nd (q_op opd_mod (q_btyp cd_int rfl fr.int (by decide +kernel) (qa_cons (q_op opd_div (qv 1) q_int) qa_nil)) (qv 2)))
  (qss_cons (qsn (i := 5) sc_n__law_numbered.nd (q_op opd_mod (q_btyp cd_int rfl fr.int (by decide +kernel) (qa_cons (q_op opd_div (qv 1) (q_op opd_mul q_int (qv 2))) qa_nil)) (qv 2)))
  (qss_cons (qs_ret (q_tup (qa_cons (qv 3) (qa_cons (q_tup (qa_cons (q_ix (ixd hu) (qv 0) (q_op opd_div (qv 4) q_int)) (qa_cons (q_cmp (opd_eq hu) (q_op opd_mod (q_btyp cd_int rfl fr.int (by decide +kernel) (qa_cons (qv 4) qa_nil)) q_int) q_int (by rfl)) qa_nil))) (qa_cons (q_tup (qa_cons (q_ix (ixd hu) (qv 0) (q_op opd_div (qv 5) q_int)) (qa_cons (q_cmp (opd_eq hu) (q_op opd_mod (q_btyp cd_int rfl fr.int (by decide +kernel) (qa_cons (qv 5) qa_nil)) q_int) q_int (by rfl)) qa_nil))) qa_nil)))))
  qss_nil)))))
theorem ok_n__law_entries (fr : Fr mg K) (xs : Xs P w K mg base) (d_n__law_next_2 : Def P w K mg base (L2N.CX P w) 1 "_law_next" [] f_n__law_next) (d_n__law_numbered_2 : Def P w K mg base (L2N.CX P w) 1 "_law_numbered" [] f_n__law_numbered) (d_n__law_pick_2 : Def P w K mg base (L2N.CX P w) 2 "_law_pick" [] f_n__law_pick) (d_n__law_sentence_2 : Def P w K mg base (L2N.CX P w) 3 "_law_sentence" [] f_n__law_sentence)  (F : FunD K "_law_entries" "_law_entries" (defArgs s_n__law_entries) (defBody s_n__law_entries) (defScope s_n__law_entries) [] [] fa fd) :
    FnOk P w K mg base (L2N.CX P w) 4 fa fd P_n__law_entries (spOf P w K mg f_n__law_entries) :=
  fn_ok (k := 3) (body := m_n__law_entries) F sc_n__law_entries fun cdv A outer s H E hr => by
    have hu := hu64 hr
    have c_n__law_next_2 : ∀ {X : Cx} {W : WX}, X.prog = P → X.w = w → X.K = K → X.mg = mg → X.base = base → X.A = _ → L2N.Takes X W → Cal X W "_law_next" [] f_n__law_next := fun e1 e2 e3 e4 e5 e6 tk => Def.calX d_n__law_next_2 (hr.mono (by decide)) tk e1 e2 e3 e4 e5 e6
    have c_n__law_numbered_2 : ∀ {X : Cx} {W : WX}, X.prog = P → X.w = w → X.K = K → X.mg = mg → X.base = base → X.A = _ → L2N.Takes X W → Cal X W "_law_numbered" [] f_n__law_numbered := fun e1 e2 e3 e4 e5 e6 tk => Def.calX d_n__law_numbered_2 (hr.mono (by decide)) tk e1 e2 e3 e4 e5 e6
    have c_n__law_pick_2 : ∀ {X : Cx} {W : WX}, X.prog = P → X.w = w → X.K = K → X.mg = mg → X.base = base → X.A = _ → L2N.Takes X W → Cal X W "_law_pick" [] f_n__law_pick := fun e1 e2 e3 e4 e5 e6 tk => Def.calX d_n__law_pick_2 (hr.mono (by decide)) tk e1 e2 e3 e4 e5 e6
    have c_n__law_sentence_2 : ∀ {X : Cx} {W : WX}, X.prog = P → X.w = w → X.K = K → X.mg = mg → X.base = base → X.A = _ → L2N.Takes X W → Cal X W "_law_sentence" [] f_n__law_sentence := fun e1 e2 e3 e4 e5 e6 tk => Def.calX d_n__law_sentence_2 (hr.mono (by decide)) tk e1 e2 e3 e4 e5 e6
    exact (qss_cons (qsn (i := 3) sc_n__law_entries.nd (q_newL qa_nil))
  (qss_cons (qsn (i := 4) sc_n__law_entries.nd q_newT)
  (qss_cons (qs_for (passes_of rfl) rfl (qi_range1 rfl fr.range (q_fn (c_n__law_pick_2 rfl rfl rfl rfl rfl rfl takesM) rfl (qa_cons (qv 0) (qa_cons (q_lst (qa_cons q_int (qa_cons q_int (qa_cons q_int (qa_cons q_int qa_nil))))) qa_nil)))) (qgn (i := 5) sc_n__law_entries.nd) (qss_cons (qsn (i := 10) sc_n__law_entries.nd (q_tup (qa_cons (q_fn (c_n__law_next_2 rfl rfl rfl rfl rfl rfl takesM) rfl (qa_cons (qv 0) (qa_cons q_int qa_nil))) (qa_cons (q_fn (c_n__law_sentence_2 rfl rfl rfl rfl rfl rfl takesM) rfl (qa_cons (qv 0) (qa_cons (qv 1) qa_nil))) qa_nil))))
  (qss_cons (qs_if (QW.qt (qw_and (qt_cmp (opd_notIn hu) (qv 10) (qv 4) (by rfl)) (qw_and1 (qt_cmp (opd_lt hu) (q_bltn cd_len rfl fr.len (by decide +kernel) (qa_cons (qv 3) qa_nil)) (qv 2) (by rfl))))) (qss_cons (qs_asg q_bl (qg_sub (W := WNever) (setd hu) (qv 4) (qv 10)))
  (qss_cons (qs_expr (q_meth PySem.F.plainAttrs_list PySem.F.slot_list_append PySem.F.type_list_append md_append (qv 3) (qa_cons (qv 10) qa_nil)))
  qss_nil)) qss_nil)
  qss_nil)))
  (qss_cons (qsn (i := 6) sc_n__law_entries.nd (q_op opd_mul (q_op opd_mul q_int (q_bltn cd_len rfl fr.len (by decide +kernel) (qa_cons (qv 1) qa_nil))) (q_bltn cd_len rfl fr.len (by decide +kernel) (qa_cons (qv 1) qa_nil))))
  (qss_cons (qsn (i := 7) sc_n__law_entries.nd (q_fn (c_n__law_next_2 rfl rfl rfl rfl rfl rfl takesM) rfl (qa_cons (qv 0) (qa_cons (qv 6) qa_nil))))
  (qss_cons (qs_for (passes_of rfl) rfl (qi_range1 rfl fr.range (qv 6)) (qgn (i := 8) sc_n__law_entries.nd) (qss_cons (qs_if (QW.qt (qw_or (qt_cmp (opd_ge hu) (q_bltn cd_len rfl fr.len (by decide +kernel) (qa_cons (qv 3) qa_nil)) (qv 2) (by rfl)) (qw_or1 (qt_cmp (opd_gt hu) (qv 8) q_int (by rfl))))) (qss_cons qs_break
  qss_nil) qss_nil)
  (qss_cons (qsn (i := 11) sc_n__law_entries.nd (q_op opd_mod (q_btyp cd_int rfl fr.int (by decide +kernel) (qa_cons (q_op opd_plus (qv 7) (qv 8)) qa_nil)) (qv 6)))
  (qss_cons (qsn (i := 10) sc_n__law_entries.nd (q_tup (qa_cons (q_op opd_mod (q_btyp cd_int rfl fr.int (by decide +kernel) (qa_cons (qv 11) qa_nil)) q_int) (qa_cons (q_fn (c_n__law_numbered_2 rfl rfl rfl rfl rfl rfl takesM) rfl (qa_cons (qv 1) (qa_cons (q_op opd_div (qv 11) q_int) qa_nil))) qa_nil))))
  (qss_cons (qs_if (qt_cmp (opd_notIn hu) (qv 10) (qv 4) (by rfl)) (qss_cons (qs_asg q_bl (qg_sub (W := WNever) (setd hu) (qv 4) (qv 10)))
  (qss_cons (qs_expr (q_meth PySem.F.plainAttrs_list PySem.F.slot_list_append PySem.F.type_list_append md_append (qv 3) (qa_cons (qv 10) qa_nil)))
  qss_nil)) qss_nil)
  qss_nil)))))
  (qss_cons (qsn (i := 9) sc_n__law_entries.nd (q_fn (c_n__law_next_2 rfl rfl rfl rfl rfl rfl takesM) rfl (qa_cons (qv 0) (qa_cons (q_op opd_plus (q_bltn cd_len rfl fr.len (by decide +kernel) (qa_cons (qv 3) qa_nil)) q_int) qa_nil))))
  (qss_cons (qs_ret (q_op opd_plus (q_sl sld (qv 3) (qo_some (qv 9)) qo_nil) (q_sl sld (qv 3) qo_nil (qo_some (qv 9)))))
  qss_nil))))))))
theorem ok_n__law_different (fr : Fr mg K) (xs : Xs P w K mg base)   (F : FunD K "_law_different" "_law_different" (defArgs s_n__law_different) (defBody s_n__law_different) (defScope s_n__law_different) [] [] fa fd) :
    FnOk P w K mg base (L2N.CX P w) 1 fa fd P_n__law_different (spOf P w K mg f_n__law_different) :=
  fn_ok (k := 0) (body := m_n__law_different) F sc_n__law_different fun cdv A outer s H E hr => by
    have hu := hu64 hr
    exact (qss_cons (qsn (i := 1) sc_n__law_different.nd (q_newL qa_nil))
  (qss_cons (qsn (i := 2) sc_n__law_different.nd q_newT)
  (qss_cons (qs_for (passes_of rfl) rfl (qi_seq (qv 0)) (qgn (i := 3) sc_n__law_different.nd) (qss_cons (qs_if (qt_cmp (opd_notIn hu) (qv 3) (qv 2) (by rfl)) (qss_cons (qs_asg q_bl (qg_sub (W := WNever) (setd hu) (qv 2) (qv 3)))
  (qss_cons (qs_expr (q_meth PySem.F.plainAttrs_list PySem.F.slot_list_append PySem.F.type_list_append md_append (qv 1) (qa_cons (qv 3) qa_nil)))
  qss_nil)) qss_nil)
  qss_nil))
  (qss_cons (qs_ret (qv 1))
  qss_nil))))
theorem ok_n__law_is_term (fr : Fr mg K) (xs : Xs P w K mg base)   (F : FunD K "_law_is_term" "_law_is_term" (defArgs s_n__law_is_term) (defBody s_n__law_is_term) (defScope s_n__law_is_term) [] [] fa fd) :
    FnOk P w K mg base (L2N.CX P w) 1 fa fd P_n__law_is_term (spOf P w K mg f_n__law_is_term) :=
  fn_ok (k := 0) (body := m_n__law_is_term) F sc_n__law_is_term fun cdv A outer s H E hr => by
    have hu := hu64 hr
    exact (qss_cons (qs_if (QW.qt (qw_or (qt_not (qt_val (q_isi (T := "tuple") rfl fr.isinstance (qv 1) rfl fr.tuple (by decide +kernel)))) (qw_or (qt_cmp (opd_ne hu) (q_bltn cd_len rfl fr.len (by decide +kernel) (qa_cons (qv 1) qa_nil)) q_int (by rfl)) (qw_or1 (qt_not (qt_val (q_isi (T := "str") rfl fr.isinstance (q_ix (ixd hu) (qv 1) q_int) rfl fr.str (by decide +kernel)))))))) (qss_cons (qs_ret q_bl)
  qss_nil) qss_nil)
  (qss_cons (qs_ret (q_and (q_cmp (opd_in hu) (q_ix (ixd hu) (qv 1) q_int) (qv 0) (by rfl)) (q_one (q_isi (T := "bool") rfl fr.isinstance (q_ix (ixd hu) (qv 1) q_int) rfl fr.bool (by decide +kernel)))))
  qss_nil))
theorem ok_n__law_told (fr : Fr mg K) (xs : Xs P w K mg base) (d_n__law_same_2 : Def P w K mg base (L2N.CX P w) 1 "_law_same" [] f_n__law_same) (d_sizes_of_1 : Def P w K mg base (L2N.CX P w) 7 "sizes_of" [] f_sizes_of) (d_told_sentences_1 : Def P w K mg base (L2N.CX P w) 7 "told_sentences" [] f_told_sentences) (dh_n__law_bad : DefH P w K mg base 2 "_law_bad" fh_n__law_bad) (F : FunD K "_law_told" "_law_told" (defArgs s_n__law_told) (defBody s_n__law_told) (defScope s_n__law_told) [] [] fa fd) :
    FnOk P w K mg base (L2N.CX P w) 8 fa fd P_n__law_told (spOf P w K mg f_n__law_told) :=
  fn_ok (k := 7) (body := m_n__law_told) F sc_n__law_told fun cdv A outer s H E hr => by
    have hu := hu64 hr
    have c_n__law_same_2 : ∀ {X : Cx} {W : WX}, X.prog = P → X.w = w → X.K = K → X.mg = mg → X.base = base → X.A = _ → L2N.Takes X W → Cal X W "_law_same" [] f_n__law_same := fun e1 e2 e3 e4 e5 e6 tk => Def.calX d_n__law_same_2 (hr.mono (by decide)) tk e1 e2 e3 e4 e5 e6
    have c_sizes_of_1 : ∀ {X : Cx} {W : WX}, X.prog = P → X.w = w → X.K = K → X.mg = mg → X.base = base → X.A = _ → L2N.Takes X W → Cal X W "sizes_of" [] f_sizes_of := fun e1 e2 e3 e4 e5 e6 tk => Def.calX d_sizes_of_1 (hr.mono (by decide)) tk e1 e2 e3 e4 e5 e6
    have c_told_sentences_1 : ∀ {X : Cx} {W : WX}, X.prog = P → X.w = w → X.K = K → X.mg = mg → X.base = base → X.A = _ → L2N.Takes X W → Cal X W "told_sentences" [] f_told_sentences := fun e1 e2 e3 e4 e5 e6 tk => Def.calX d_told_sentences_1 (hr.mono (by decide)) tk e1 e2 e3 e4 e5 e6
    exact (qss_cons (qs_tryAs (i := 2) (ms := u_n__law_told_2) rfl rfl sc_n__law_told.nd rfl rfl xs.cl_MoreError.clause takesM (fun W1 pn1 xe1 tk1 po1 => (qss_cons (qsn (i := 3) sc_n__law_told.nd (q_fn (c_sizes_of_1 rfl rfl rfl rfl rfl rfl tk1) rfl (qa_cons (qv 0) qa_nil)))
  qss_nil)) (fun xa xd oe xc pn hd => (qss_cons (qsn (i := 3) sc_n__law_told.nd q_non)
  (qss_cons (qs_if (QW.qt (qw_or (qt_cmp opd_notN (qv 1) q_non (by rfl)) (qw_or1 (qt_not (qt_val (q_fnH (Held.hot hd rfl) dh_n__law_bad (L2H.roomH_mark (hr.mono (by decide)) _) rfl (qa_cons (qv 2) (qa_cons q_str qa_nil)))))))) (qss_cons (qs_ret q_bl)
  qss_nil) qss_nil)
  qss_nil))))
  (qss_cons (qs_tryAs (i := 2) (ms := u_n__law_told_4) rfl rfl sc_n__law_told.nd rfl rfl xs.cl_MoreError.clause takesM (fun W2 pn2 xe2 tk2 po2 => (qss_cons (qsn (i := 4) sc_n__law_told.nd (q_fn (c_told_sentences_1 rfl rfl rfl rfl rfl rfl tk2) rfl (qa_cons (qv 0) qa_nil)))
  qss_nil)) (fun xa xd oe xc pn hd => (qss_cons (qs_ret (q_and (q_cmp opd_isN (qv 1) q_non (by rfl)) (q_and (q_cmp opd_isN (qv 3) q_non (by rfl)) (q_one (q_fnH (Held.hot hd rfl) dh_n__law_bad (L2H.roomH_mark (hr.mono (by decide)) _) rfl (qa_cons (qv 2) (qa_cons q_str qa_nil)))))))
  qss_nil)))
  (qss_cons (qs_ret (q_and (q_cmp opd_notN (qv 1) q_non (by rfl)) (q_one (q_fn (c_n__law_same_2 rfl rfl rfl rfl rfl rfl takesM) rfl (qa_cons (q_tup (qa_cons (qv 3) (qa_cons (qv 4) qa_nil))) (qa_cons (qv 1) qa_nil))))))
  qss_nil)))
theorem ok_n__law_kept (fr : Fr mg K) (xs : Xs P w K mg base) (d_n__law_different_1 : Def P w K mg base (L2N.CX P w) 1 "_law_different" [] f_n__law_different) (d_n__law_is_term_2 : Def P w K mg base (L2N.CX P w) 1 "_law_is_term" [] f_n__law_is_term) (d_n__law_says_2 : Def P w K mg base (L2N.CX P w) 1 "_law_says" [] f_n__law_says) (d_n__law_told_2 : Def P w K mg base (L2N.CX P w) 8 "_law_told" [] f_n__law_told) (d_is_book_1 : Def P w K mg base (L2N.CX P w) 5 "is_book" [] f_is_book)  (F : FunD K "_law_kept" "_law_kept" (defArgs s_n__law_kept) (defBody s_n__law_kept) (defScope s_n__law_kept) [] [] fa fd) :
    FnOk P w K mg base (L2N.CX P w) 9 fa fd P_n__law_kept (spOf P w K mg f_n__law_kept) :=
  fn_ok (k := 8) (body := m_n__law_kept) F sc_n__law_kept fun cdv A outer s H E hr => by
    have hu := hu64 hr
    have c_n__law_different_1 : ∀ {X : Cx} {W : WX}, X.prog = P → X.w = w → X.K = K → X.mg = mg → X.base = base → X.A = _ → L2N.Takes X W → Cal X W "_law_different" [] f_n__law_different := fun e1 e2 e3 e4 e5 e6 tk => Def.calX d_n__law_different_1 (hr.mono (by decide)) tk e1 e2 e3 e4 e5 e6
    have c_n__law_is_term_2 : ∀ {X : Cx} {W : WX}, X.prog = P → X.w = w → X.K = K → X.mg = mg → X.base = base → X.A = _ → L2N.Takes X W → Cal X W "_law_is_term" [] f_n__law_is_term := fun e1 e2 e3 e4 e5 e6 tk => Def.calX d_n__law_is_term_2 (hr.mono (by decide)) tk e1 e2 e3 e4 e5 e6
    have c_n__law_says_2 : ∀ {X : Cx} {W : WX}, X.prog = P → X.w = w → X.K = K → X.mg = mg → X.base = base → X.A = _ → L2N.Takes X W → Cal X W "_law_says" [] f_n__law_says := fun e1 e2 e3 e4 e5 e6 tk => Def.calX d_n__law_says_2 (hr.mono (by decide)) tk e1 e2 e3 e4 e5 e6
    have c_n__law_told_2 : ∀ {X : Cx} {W : WX}, X.prog = P → X.w = w → X.K = K → X.mg = mg → X.base = base → X.A = _ → L2N.Takes X W → Cal X W "_law_told" [] f_n__law_told := fun e1 e2 e3 e4 e5 e6 tk => Def.calX d_n__law_told_2 (hr.mono (by decide)) tk e1 e2 e3 e4 e5 e6
    have c_is_book_1 : ∀ {X : Cx} {W : WX}, X.prog = P → X.w = w → X.K = K → X.mg = mg → X.base = base → X.A = _ → L2N.Takes X W → Cal X W "is_book" [] f_is_book := fun e1 e2 e3 e4 e5 e6 tk => Def.calX d_is_book_1 (hr.mono (by decide)) tk e1 e2 e3 e4 e5 e6
    exact (qss_cons (qsn (i := 2) sc_n__law_kept.nd (q_and (q_cmp (opd_le hu) (q_bltn cd_len rfl fr.len (by decide +kernel) (qa_cons (qv 1) qa_nil)) q_int (by rfl)) (q_one (q_chain (opd_le hu) (opd_le hu) q_int (q_bltn cd_len rfl fr.len (by decide +kernel) (qa_cons (qv 0) qa_nil)) q_int))))
  (qss_cons (qsn (i := 2) sc_n__law_kept.nd (q_and (qv 2) (q_one (q_bltn (cd_all rfl) rfl fr.all (by decide +kernel) (qa_cons (q_lc (own := [("entry", 6)]) rfl sc_n__law_kept.nd (qi_seq (qv 1)) (blkOk_by (own := [("entry", 6)]) (N := N_n__law_kept) (sc := defScope s_n__law_kept) (by decide +kernel)) (fun _ _ _ _ _ => (qgn (i := 6) sc_n__law_kept.nd)) (fun _ _ _ _ _ => qts_nil) (fun _ _ _ _ _ => (q_and (q_fn (c_n__law_is_term_2 rfl rfl rfl rfl rfl rfl takesN) rfl (qa_cons (qv 0) (qa_cons (q_ix (ixd hu) (q_ix (ixd hu) (qv 6) q_int) q_int) qa_nil))) (q_one (q_fn (c_n__law_is_term_2 rfl rfl rfl rfl rfl rfl takesN) rfl (qa_cons (qv 0) (qa_cons (q_ix (ixd hu) (q_ix (ixd hu) (qv 6) q_int) q_int) qa_nil))))))) qa_nil)))))
  (qss_cons (qsn (i := 3) sc_n__law_kept.nd (q_tup (qa_cons (q_btyp cd_tuple rfl fr.tuple (by decide +kernel) (qa_cons (qv 0) qa_nil)) (qa_cons (q_btyp cd_tuple rfl fr.tuple (by decide +kernel) (qa_cons (qv 1) qa_nil)) qa_nil))))
  (qss_cons (qsn (i := 4) sc_n__law_kept.nd (q_fn (c_n__law_different_1 rfl rfl rfl rfl rfl rfl takesM) rfl (qa_cons (q_lc (own := [("entry", 6)]) rfl sc_n__law_kept.nd (qi_seq (qv 1)) (blkOk_by (own := [("entry", 6)]) (N := N_n__law_kept) (sc := defScope s_n__law_kept) (by decide +kernel)) (fun _ _ _ _ _ => (qgn (i := 6) sc_n__law_kept.nd)) (fun _ _ _ _ _ => qts_nil) (fun _ _ _ _ _ => (q_ix (ixd hu) (qv 6) q_int))) qa_nil)))
  (qss_cons (qsn (i := 5) sc_n__law_kept.nd (q_if (qt_val (qv 2)) (q_tup (qa_cons (q_tup (qa_cons (q_bltn cd_len rfl fr.len (by decide +kernel) (qa_cons (qv 0) qa_nil)) (qa_cons (q_bltn cd_len rfl fr.len (by decide +kernel) (qa_cons (qv 1) qa_nil)) (qa_cons (q_bltn cd_len rfl fr.len (by decide +kernel) (qa_cons (qv 4) qa_nil)) qa_nil)))) (qa_cons (q_btyp cd_tuple rfl fr.tuple (by decide +kernel) (qa_cons (qv 4) qa_nil)) qa_nil))) q_non))
  (qss_cons (qs_ret (q_and (q_fn (c_n__law_says_2 rfl rfl rfl rfl rfl rfl takesM) rfl (qa_cons (q_fn (c_is_book_1 rfl rfl rfl rfl rfl rfl takesM) rfl (qa_cons (qv 3) qa_nil)) (qa_cons (qv 2) qa_nil))) (q_one (q_fn (c_n__law_told_2 rfl rfl rfl rfl rfl rfl takesM) rfl (qa_cons (qv 3) (qa_cons (qv 5) qa_nil))))))
  qss_nil))))))
theorem ok_n__law_spoilt (fr : Fr mg K) (xs : Xs P w K mg base) (d_n__law_kinds_2 : Def P w K mg base (L2N.CX P w) 4 "_law_kinds" [] f_n__law_kinds) (d_n__law_next_2 : Def P w K mg base (L2N.CX P w) 1 "_law_next" [] f_n__law_next) (d_n__law_pick_2 : Def P w K mg base (L2N.CX P w) 2 "_law_pick" [] f_n__law_pick)  (F : FunD K "_law_spoilt" "_law_spoilt" (defArgs s_n__law_spoilt) (defBody s_n__law_spoilt) (defScope s_n__law_spoilt) [] [] fa fd) :
    FnOk P w K mg base (L2N.CX P w) 5 fa fd P_n__law_spoilt (spOf P w K mg f_n__law_spoilt) :=
  fn_ok (k := 4) (body := m_n__law_spoilt) F sc_n__law_spoilt fun cdv A outer s H E hr => by
    have hu := hu64 hr
    have c_n__law_kinds_2 : ∀ {X : Cx} {W : WX}, X.prog = P → X.w = w → X.K = K → X.mg = mg → X.base = base → X.A = _ → L2N.Takes X W → Cal X W "_law_kinds" [] f_n__law_kinds := fun e1 e2 e3 e4 e5 e6 tk => Def.calX d_n__law_kinds_2 (hr.mono (by decide)) tk e1 e2 e3 e4 e5 e6
    have c_n__law_next_2 : ∀ {X : Cx} {W : WX}, X.prog = P → X.w = w → X.K = K → X.mg = mg → X.base = base → X.A = _ → L2N.Takes X W → Cal X W "_law_next" [] f_n__law_next := fun e1 e2 e3 e4 e5 e6 tk => Def.calX d_n__law_next_2 (hr.mono (by decide)) tk e1 e2 e3 e4 e5 e6
    have c_n__law_pick_2 : ∀ {X : Cx} {W : WX}, X.prog = P → X.w = w → X.K = K → X.mg = mg → X.base = base → X.A = _ → L2N.Takes X W → Cal X W "_law_pick" [] f_n__law_pick := fun e1 e2 e3 e4 e5 e6 tk => Def.calX d_n__law_pick_2 (hr.mono (by decide)) tk e1 e2 e3 e4 e5 e6
    exact (qss_cons (qsn (i := 3) sc_n__law_spoilt.nd (q_btyp cd_tuple rfl fr.tuple (by decide +kernel) (qa_cons (qv 2) qa_nil)))
  (qss_cons (qsn (i := 4) sc_n__law_spoilt.nd (q_fn (c_n__law_next_2 rfl rfl rfl rfl rfl rfl takesM) rfl (qa_cons (qv 0) (qa_cons q_int qa_nil))))
  (qss_cons (qs_if (qt_cmp (opd_eq hu) (qv 4) q_int (by rfl)) (qss_cons (qsn (i := 8) sc_n__law_spoilt.nd (q_fn (c_n__law_pick_2 rfl rfl rfl rfl rfl rfl takesM) rfl (qa_cons (qv 0) (qa_cons (q_lst (qa_cons (q_tup qa_nil) (qa_cons (q_btyp (cd_listF rfl) rfl fr.list (by decide +kernel) (qa_cons (qv 1) qa_nil)) (qa_cons (q_op opd_plus (qv 1) (q_sl sld (qv 1) qo_nil (qo_some q_int))) (qa_cons (q_tup (qa_cons q_str (qa_cons q_str qa_nil))) (qa_cons (q_ix (ixd hu) (qv 1) q_int) (qa_cons q_non (qa_cons (q_op opd_plus (q_tup (qa_cons q_str qa_nil)) (qv 1)) (qa_cons (q_fn (c_n__law_kinds_2 rfl rfl rfl rfl rfl rfl takesM) rfl (qa_cons (qv 0) (qa_cons q_int qa_nil))) qa_nil))))))))) qa_nil))))
  (qss_cons (qs_ret (q_tup (qa_cons (qv 8) (qa_cons (qv 3) qa_nil))))
  qss_nil)) qss_nil)
  (qss_cons (qs_if (qt_cmp (opd_eq hu) (qv 4) q_int (by rfl)) (qss_cons (qsn (i := 9) sc_n__law_spoilt.nd (q_lst (qa_cons (q_tup (qa_cons (qv 1) qa_nil)) (qa_cons (q_tup (qa_cons (qv 1) (qa_cons (q_btyp (cd_listF rfl) rfl fr.list (by decide +kernel) (qa_cons (qv 2) qa_nil)) qa_nil))) (qa_cons (q_lst (qa_cons (qv 1) (qa_cons (qv 3) qa_nil))) (qa_cons (q_tup (qa_cons (qv 1) (qa_cons (qv 3) (qa_cons (q_tup qa_nil) qa_nil)))) (qa_cons (q_if (qt_cmp (opd_gt hu) (q_bltn cd_len rfl fr.len (by decide +kernel) (qa_cons (qv 3) qa_nil)) q_int (by rfl)) (q_tup (qa_cons (qv 3) (qa_cons (qv 1) qa_nil))) (q_tup qa_nil)) (qa_cons (qv 1) (qa_cons q_non (qa_cons (q_tup (qa_cons q_str (qa_cons (qv 1) (qa_cons (qv 3) qa_nil)))) qa_nil))))))))))
  (qss_cons (qs_ret (q_fn (c_n__law_pick_2 rfl rfl rfl rfl rfl rfl takesM) rfl (qa_cons (qv 0) (qa_cons (qv 9) qa_nil))))
  qss_nil)) qss_nil)
  (qss_cons (qsn (i := 5) sc_n__law_spoilt.nd (q_tup (qa_cons (q_ix (ixd hu) (qv 1) q_int) (qa_cons q_bl qa_nil))))
  (qss_cons (qs_if (qt_cmp (opd_eq hu) (q_bltn cd_len rfl fr.len (by decide +kernel) (qa_cons (qv 2) qa_nil)) q_int (by rfl)) (qss_cons (qs_ret (q_tup (qa_cons (qv 1) (qa_cons (q_tup (qa_cons (q_tup (qa_cons q_int (qa_cons (q_tup (qa_cons q_str (qa_cons (qv 5) (qa_cons (qv 5) qa_nil)))) qa_nil))) (qa_cons (q_tup (qa_cons q_int (qa_cons (q_tup (qa_cons q_str (qa_cons (qv 5) (qa_cons (qv 5) qa_nil)))) qa_nil))) qa_nil))) qa_nil))))
  qss_nil) qss_nil)
  (qss_cons (qsn (i := 6) sc_n__law_spoilt.nd (q_fn (c_n__law_next_2 rfl rfl rfl rfl rfl rfl takesM) rfl (qa_cons (qv 0) (qa_cons (q_bltn cd_len rfl fr.len (by decide +kernel) (qa_cons (qv 2) qa_nil)) qa_nil))))
  (qss_cons (qs_asg (q_ix (ixd hu) (qv 2) (qv 6)) (qg_tup rfl (qgs_cons (qgn (i := 10) sc_n__law_spoilt.nd) (qgs_cons (qgn (i := 11) sc_n__law_spoilt.nd) qgs_nil))))
  (qss_cons (qs_if (qt_cmp (opd_eq hu) (qv 4) q_int (by rfl)) (qss_cons (qsn (i := 12) sc_n__law_spoilt.nd (q_fn (c_n__law_next_2 rfl rfl rfl rfl rfl rfl takesM) rfl (qa_cons (qv 0) (qa_cons (q_op opd_plus (q_bltn cd_len rfl fr.len (by decide +kernel) (qa_cons (qv 2) qa_nil)) q_int) qa_nil))))
  (qss_cons (qs_ret (q_tup (qa_cons (qv 1) (qa_cons (q_btyp cd_tuple rfl fr.tuple (by decide +kernel) (qa_cons (q_op opd_plus (q_op opd_plus (q_sl sld (qv 2) qo_nil (qo_some (qv 12))) (q_lst (qa_cons (q_ix (ixd hu) (qv 2) (qv 6)) qa_nil))) (q_sl sld (qv 2) (qo_some (qv 12)) qo_nil)) qa_nil)) qa_nil))))
  qss_nil)) qss_nil)
  (qss_cons (qsn (i := 7) sc_n__law_spoilt.nd (q_lst (qa_cons (q_tup (qa_cons q_int (qa_cons (qv 11) qa_nil))) (qa_cons (q_tup (qa_cons (q_neg q_int) (qa_cons (qv 11) qa_nil))) (qa_cons (q_tup (qa_cons q_bl (qa_cons (qv 11) qa_nil))) (qa_cons (q_tup (qa_cons q_non (qa_cons (qv 11) qa_nil))) (qa_cons (q_tup (qa_cons (qv 10) (qa_cons (qv 11) (qa_cons q_int qa_nil)))) (qa_cons (q_lst (qa_cons (qv 10) (qa_cons (qv 11) qa_nil))) (qa_cons (q_tup (qa_cons (qv 11) (qa_cons (qv 10) qa_nil))) (qa_cons (q_tup (qa_cons (qv 10) (qa_cons (q_btyp (cd_listF rfl) rfl fr.list (by decide +kernel) (qa_cons (qv 11) qa_nil)) qa_nil))) (qa_cons (q_tup (qa_cons (qv 10) qa_nil)) (qa_cons (qv 11) (qa_cons q_non qa_nil)))))))))))))
  (qss_cons (qsn (i := 7) sc_n__law_spoilt.nd (q_op opd_plus (qv 7) (q_lst (qa_cons (q_tup (qa_cons (qv 10) (qa_cons (q_sl sld (qv 11) qo_nil (qo_some q_int)) qa_nil))) (qa_cons (q_tup (qa_cons (qv 10) (qa_cons (q_tup (qa_cons q_str (qa_cons (qv 5) (qa_cons (qv 5) qa_nil)))) qa_nil))) (qa_cons (q_tup (qa_cons (qv 10) (qa_cons (q_tup qa_nil) qa_nil))) (qa_cons (q_tup (qa_cons (qv 10) (qa_cons (q_tup (qa_cons (qv 11) qa_nil)) qa_nil))) (qa_cons (q_tup (qa_cons q_str (qa_cons (qv 11) qa_nil))) (qa_cons (q_tup (qa_cons (qv 10) (qa_cons (q_tup (qa_cons q_str (qa_cons (qv 5) qa_nil))) qa_nil))) (qa_cons (q_tup (qa_cons (qv 10) (qa_cons (q_op opd_plus (qv 11) (q_tup (qa_cons (qv 5) qa_nil))) qa_nil))) qa_nil))))))))))
  (qss_cons (qsn (i := 7) sc_n__law_spoilt.nd (q_op opd_plus (qv 7) (q_lst (qa_cons (q_tup (qa_cons (qv 10) (qa_cons (q_tup (qa_cons (q_ix (ixd hu) (qv 11) q_int) (qa_cons (q_ix (ixd hu) (qv 11) q_int) (qa_cons (q_tup (qa_cons (q_ix (ixd hu) (q_ix (ixd hu) (qv 11) q_int) q_int) (qa_cons q_int qa_nil))) qa_nil)))) qa_nil))) (qa_cons (q_tup (qa_cons (qv 10) (qa_cons (q_tup (qa_cons (q_ix (ixd hu) (qv 11) q_int) (qa_cons (q_tup (qa_cons q_str (qa_cons q_bl qa_nil))) (qa_cons (q_ix (ixd hu) (qv 11) q_int) qa_nil)))) qa_nil))) (qa_cons (q_tup (qa_cons (qv 10) (qa_cons (q_tup (qa_cons (q_ix (ixd hu) (qv 11) q_int) (qa_cons (q_ix (ixd hu) (q_ix (ixd hu) (qv 11) q_int) q_int) (qa_cons (q_ix (ixd hu) (qv 11) q_int) qa_nil)))) qa_nil))) qa_nil))))))
  (qss_cons (qs_ret (q_tup (qa_cons (qv 1) (qa_cons (q_btyp cd_tuple rfl fr.tuple (by decide +kernel) (qa_cons (q_op opd_plus (q_op opd_plus (q_sl sld (qv 2) qo_nil (qo_some (qv 6))) (q_lst (qa_cons (q_fn (c_n__law_pick_2 rfl rfl rfl rfl rfl rfl takesM) rfl (qa_cons (qv 0) (qa_cons (qv 7) qa_nil))) qa_nil))) (q_sl sld (qv 2) (qo_some (q_op opd_plus (qv 6) q_int)) qo_nil)) qa_nil)) qa_nil))))
  qss_nil)))))))))))))
theorem ok_law (fr : Fr mg K) (xs : Xs P w K mg base) (d_n__law_entries_3 : Def P w K mg base (L2N.CX P w) 4 "_law_entries" [] f_n__law_entries) (d_n__law_is_term_2 : Def P w K mg base (L2N.CX P w) 1 "_law_is_term" [] f_n__law_is_term) (d_n__law_kept_2 : Def P w K mg base (L2N.CX P w) 9 "_law_kept" [] f_n__law_kept) (d_n__law_kinds_2 : Def P w K mg base (L2N.CX P w) 4 "_law_kinds" [] f_n__law_kinds) (d_n__law_next_2 : Def P w K mg base (L2N.CX P w) 1 "_law_next" [] f_n__law_next) (d_n__law_pick_2 : Def P w K mg base (L2N.CX P w) 2 "_law_pick" [] f_n__law_pick) (d_n__law_says_2 : Def P w K mg base (L2N.CX P w) 1 "_law_says" [] f_n__law_says) (d_n__law_spoilt_3 : Def P w K mg base (L2N.CX P w) 5 "_law_spoilt" [] f_n__law_spoilt) (d_n__law_stream_1 : Def P w K mg base (L2N.CX P w) 1 "_law_stream" [] f_n__law_stream) (d_n__law_told_2 : Def P w K mg base (L2N.CX P w) 8 "_law_told" [] f_n__law_told) (d_is_book_1 : Def P w K mg base (L2N.CX P w) 5 "is_book" [] f_is_book)  (F : FunD K "law" "law" (defArgs s_law) (defBody s_law) (defScope s_law) [] [] fa fd) :
    FnOk P w K mg base (L2N.CX P w) 10 fa fd P_law (spOf P w K mg f_law) :=
  fn_ok (k := 9) (body := m_law) F sc_law fun cdv A outer s H E hr => by
    have hu := hu64 hr
    have c_n__law_entries_3 : ∀ {X : Cx} {W : WX}, X.prog = P → X.w = w → X.K = K → X.mg = mg → X.base = base → X.A = _ → L2N.Takes X W → Cal X W "_law_entries" [] f_n__law_entries := fun e1 e2 e3 e4 e5 e6 tk => Def.calX d_n__law_entries_3 (hr.mono (by decide)) tk e1 e2 e3 e4 e5 e6
    have c_n__law_is_term_2 : ∀ {X : Cx} {W : WX}, X.prog = P → X.w = w → X.K = K → X.mg = mg → X.base = base → X.A = _ → L2N.Takes X W → Cal X W "_law_is_term" [] f_n__law_is_term := fun e1 e2 e3 e4 e5 e6 tk => Def.calX d_n__law_is_term_2 (hr.mono (by decide)) tk e1 e2 e3 e4 e5 e6
    have c_n__law_kept_2 : ∀ {X : Cx} {W : WX}, X.prog = P → X.w = w → X.K = K → X.mg = mg → X.base = base → X.A = _ → L2N.Takes X W → Cal X W "_law_kept" [] f_n__law_kept := fun e1 e2 e3 e4 e5 e6 tk => Def.calX d_n__law_kept_2 (hr.mono (by decide)) tk e1 e2 e3 e4 e5 e6
    have c_n__law_kinds_2 : ∀ {X : Cx} {W : WX}, X.prog = P → X.w = w → X.K = K → X.mg = mg → X.base = base → X.A = _ → L2N.Takes X W → Cal X W "_law_kinds" [] f_n__law_kinds := fun e1 e2 e3 e4 e5 e6 tk => Def.calX d_n__law_kinds_2 (hr.mono (by decide)) tk e1 e2 e3 e4 e5 e6
    have c_n__law_next_2 : ∀ {X : Cx} {W : WX}, X.prog = P → X.w = w → X.K = K → X.mg = mg → X.base = base → X.A = _ → L2N.Takes X W → Cal X W "_law_next" [] f_n__law_next := fun e1 e2 e3 e4 e5 e6 tk => Def.calX d_n__law_next_2 (hr.mono (by decide)) tk e1 e2 e3 e4 e5 e6
    have c_n__law_pick_2 : ∀ {X : Cx} {W : WX}, X.prog = P → X.w = w → X.K = K → X.mg = mg → X.base = base → X.A = _ → L2N.Takes X W → Cal X W "_law_pick" [] f_n__law_pick := fun e1 e2 e3 e4 e5 e6 tk => Def.calX d_n__law_pick_2 (hr.mono (by decide)) tk e1 e2 e3 e4 e5 e6
    have c_n__law_says_2 : ∀ {X : Cx} {W : WX}, X.prog = P → X.w = w → X.K = K → X.mg = mg → X.base = base → X.A = _ → L2N.Takes X W → Cal X W "_law_says" [] f_n__law_says := fun e1 e2 e3 e4 e5 e6 tk => Def.calX d_n__law_says_2 (hr.mono (by decide)) tk e1 e2 e3 e4 e5 e6
    have c_n__law_spoilt_3 : ∀ {X : Cx} {W : WX}, X.prog = P → X.w = w → X.K = K → X.mg = mg → X.base = base → X.A = _ → L2N.Takes X W → Cal X W "_law_spoilt" [] f_n__law_spoilt := fun e1 e2 e3 e4 e5 e6 tk => Def.calX d_n__law_spoilt_3 (hr.mono (by decide)) tk e1 e2 e3 e4 e5 e6
    have c_n__law_stream_1 : ∀ {X : Cx} {W : WX}, X.prog = P → X.w = w → X.K = K → X.mg = mg → X.base = base → X.A = _ → L2N.Takes X W → Cal X W "_law_stream" [] f_n__law_stream := fun e1 e2 e3 e4 e5 e6 tk => Def.calX d_n__law_stream_1 (hr.mono (by decide)) tk e1 e2 e3 e4 e5 e6
    have c_n__law_told_2 : ∀ {X : Cx} {W : WX}, X.prog = P → X.w = w → X.K = K → X.mg = mg → X.base = base → X.A = _ → L2N.Takes X W → Cal X W "_law_told" [] f_n__law_told := fun e1 e2 e3 e4 e5 e6 tk => Def.calX d_n__law_told_2 (hr.mono (by decide)) tk e1 e2 e3 e4 e5 e6
    have c_is_book_1 : ∀ {X : Cx} {W : WX}, X.prog = P → X.w = w → X.K = K → X.mg = mg → X.base = base → X.A = _ → L2N.Takes X W → Cal X W "is_book" [] f_is_book := fun e1 e2 e3 e4 e5 e6 tk => Def.calX d_is_book_1 (hr.mono (by decide)) tk e1 e2 e3 e4 e5 e6
    exact (qss_cons (qsn (i := 1) sc_law.nd (q_fn (c_n__law_stream_1 rfl rfl rfl rfl rfl rfl takesM) rfl (qa_cons (qv 0) qa_nil)))
  (qss_cons (qsn (i := 2) sc_law.nd (q_fn (c_n__law_kinds_2 rfl rfl rfl rfl rfl rfl takesM) rfl (qa_cons (qv 1) (qa_cons (q_fn (c_n__law_pick_2 rfl rfl rfl rfl rfl rfl takesM) rfl (qa_cons (qv 1) (qa_cons (q_lst (qa_cons q_int (qa_cons q_int (qa_cons q_int (qa_cons q_int (qa_cons q_int (qa_cons q_int (qa_cons q_int (qa_cons (q_op opd_plus q_int (q_fn (c_n__law_next_2 rfl rfl rfl rfl rfl rfl takesM) rfl (qa_cons (qv 1) (qa_cons q_int qa_nil)))) qa_nil))))))))) qa_nil))) qa_nil))))
  (qss_cons (qsn (i := 3) sc_law.nd (q_fn (c_n__law_entries_3 rfl rfl rfl rfl rfl rfl takesM) rfl (qa_cons (qv 1) (qa_cons (qv 2) (qa_cons (q_fn (c_n__law_pick_2 rfl rfl rfl rfl rfl rfl takesM) rfl (qa_cons (qv 1) (qa_cons (q_lst (qa_cons q_int (qa_cons q_int (qa_cons (q_fn (c_n__law_next_2 rfl rfl rfl rfl rfl rfl takesM) rfl (qa_cons (qv 1) (qa_cons q_int qa_nil))) (qa_cons q_int (qa_cons q_int (qa_cons q_int (qa_cons q_int qa_nil)))))))) qa_nil))) qa_nil)))))
  (qss_cons (qs_if (QW.qt (qw_or (qt_not (qt_val (q_fn (c_n__law_kept_2 rfl rfl rfl rfl rfl rfl takesM) rfl (qa_cons (qv 2) (qa_cons (qv 3) qa_nil))))) (qw_or1 (qt_not (qt_val (q_fn (c_n__law_kept_2 rfl rfl rfl rfl rfl rfl takesM) rfl (qa_cons (qv 2) (qa_cons (q_sl sld (qv 3) qo_nil (qo_some q_int)) qa_nil)))))))) (qss_cons (qs_ret q_bl)
  qss_nil) qss_nil)
  (qss_cons (qsn (i := 4) sc_law.nd (q_fn (c_n__law_pick_2 rfl rfl rfl rfl rfl rfl takesM) rfl (qa_cons (qv 1) (qa_cons (qv 2) qa_nil))))
  (qss_cons (qsn (i := 5) sc_law.nd (q_btyp cd_tuple rfl fr.tuple (by decide +kernel) (qa_cons (q_lc (own := [("kind", 12)]) rfl sc_law.nd (qi_seq (qv 2)) (blkOk_by (own := [("kind", 12)]) (N := N_law) (sc := defScope s_law) (by decide +kernel)) (fun _ _ _ _ _ => (qgn (i := 12) sc_law.nd)) (fun _ _ _ _ _ => (qts_one (qt_cmp (opd_ne hu) (qv 12) (qv 4) (by rfl)))) (fun _ _ _ _ _ => (qv 12))) qa_nil)))
  (qss_cons (qs_if (qt_not (qt_val (q_fn (c_n__law_kept_2 rfl rfl rfl rfl rfl rfl takesM) rfl (qa_cons (qv 5) (qa_cons (q_sl sld (qv 3) qo_nil (qo_some (q_fn (c_n__law_pick_2 rfl rfl rfl rfl rfl rfl takesM) rfl (qa_cons (qv 1) (qa_cons (q_lst (qa_cons q_int (qa_cons q_int (qa_cons q_int qa_nil)))) qa_nil))))) qa_nil))))) (qss_cons (qs_ret q_bl)
  qss_nil) qss_nil)
  (qss_cons (qs_setLc (own := [("entry", 11)]) (i := 6) rfl sc_law.nd rfl rfl (sw_true rfl rfl rfl (by decide +kernel)) (qi_seq (qv 3)) (blkOk_by (own := [("entry", 11)]) (N := N_law) (sc := defScope s_law) (by decide +kernel)) (fun _ _ _ _ _ => (qgn (i := 11) sc_law.nd)) (fun _ _ _ _ _ => (qts_one (QW.qt (qw_and (qt_val (q_fn (c_n__law_is_term_2 rfl rfl rfl rfl rfl rfl takesN) rfl (qa_cons (q_sl sld (qv 2) qo_nil (qo_some q_int)) (qa_cons (q_ix (ixd hu) (q_ix (ixd hu) (qv 11) q_int) q_int) qa_nil)))) (qw_and1 (qt_val (q_fn (c_n__law_is_term_2 rfl rfl rfl rfl rfl rfl takesN) rfl (qa_cons (q_sl sld (qv 2) qo_nil (qo_some q_int)) (qa_cons (q_ix (ixd hu) (q_ix (ixd hu) (qv 11) q_int) q_int) qa_nil))))))))) (fun _ _ _ _ _ => (qv 11)))
  (qss_cons (qs_for (passes_of rfl) rfl (qi_range1 rfl fr.range q_int) (qgn (i := 7) sc_law.nd) (qss_cons (qsn (i := 10) sc_law.nd (q_fn (c_n__law_spoilt_3 rfl rfl rfl rfl rfl rfl takesM) rfl (qa_cons (qv 1) (qa_cons (q_sl sld (qv 2) qo_nil (qo_some q_int)) (qa_cons (q_sl sld (qv 6) qo_nil (qo_some (q_fn (c_n__law_pick_2 rfl rfl rfl rfl rfl rfl takesM) rfl (qa_cons (qv 1) (qa_cons (q_lst (qa_cons q_int (qa_cons q_int (qa_cons q_int qa_nil)))) qa_nil))))) qa_nil)))))
  (qss_cons (qs_if (QW.qt (qw_or (qt_cmp opd_isNot (q_fn (c_is_book_1 rfl rfl rfl rfl rfl rfl takesM) rfl (qa_cons (qv 10) qa_nil)) q_bl (by rfl)) (qw_or1 (qt_not (qt_val (q_fn (c_n__law_told_2 rfl rfl rfl rfl rfl rfl takesM) rfl (qa_cons (qv 10) (qa_cons q_non qa_nil)))))))) (qss_cons (qs_ret q_bl)
  qss_nil) qss_nil)
  qss_nil)))
  (qss_cons (qsn (i := 8) sc_law.nd (q_tup (qa_cons (q_ix (ixd hu) (qv 2) q_int) (qa_cons q_bl qa_nil))))
  (qss_cons (qsn (i := 9) sc_law.nd (q_op opd_plus (q_lc (own := [("k", 13)]) rfl sc_law.nd (qi_range1 rfl fr.range q_int) (blkOk_by (own := [("k", 13)]) (N := N_law) (sc := defScope s_law) (by decide +kernel)) (fun _ _ _ _ _ => (qgn (i := 13) sc_law.nd)) (fun _ _ _ _ _ => qts_nil) (fun _ _ _ _ _ => (q_tup (qa_cons (qv 13) (qa_cons (q_tup (qa_cons q_str (qa_cons (qv 8) (qa_cons (q_tup (qa_cons (q_ix (ixd hu) (qv 2) q_int) (qa_cons q_bl qa_nil))) qa_nil)))) qa_nil))))) (q_lst (qa_cons (q_tup (qa_cons q_int (qa_cons (q_tup (qa_cons q_str (qa_cons (qv 8) (qa_cons (qv 8) qa_nil)))) qa_nil))) (qa_cons (q_tup (qa_cons q_int (qa_cons (q_tup (qa_cons q_str (qa_cons (qv 8) (qa_cons (qv 8) qa_nil)))) qa_nil))) qa_nil)))))
  (qss_cons (qs_if (QW.qt (qw_or (qt_not (qt_val (q_fn (c_n__law_kept_2 rfl rfl rfl rfl rfl rfl takesM) rfl (qa_cons (q_sl sld (qv 2) qo_nil (qo_some q_int)) (qa_cons (qv 9) qa_nil))))) (qw_or1 (qt_not (qt_val (q_fn (c_n__law_kept_2 rfl rfl rfl rfl rfl rfl takesM) rfl (qa_cons (q_sl sld (qv 2) qo_nil (qo_some q_int)) (qa_cons (q_lst qa_nil) qa_nil)))))))) (qss_cons (qs_ret q_bl)
  qss_nil) qss_nil)
  (qss_cons (qs_ret (q_fn (c_n__law_says_2 rfl rfl rfl rfl rfl rfl takesM) rfl (qa_cons (q_fn (c_is_book_1 rfl rfl rfl rfl rfl rfl takesM) rfl (qa_cons (q_fn (c_n__law_pick_2 rfl rfl rfl rfl rfl rfl takesM) rfl (qa_cons (qv 1) (qa_cons (q_lst (qa_cons q_non (qa_cons q_int (qa_cons q_str (qa_cons (q_tup qa_nil) (qa_cons (q_lst qa_nil) (qa_cons (q_tup (qa_cons (q_tup qa_nil) (qa_cons (q_tup qa_nil) qa_nil))) (qa_cons (q_tup (qa_cons (q_tup (qa_cons q_str qa_nil)) qa_nil)) (qa_cons (q_tup (qa_cons q_str (qa_cons (q_tup qa_nil) qa_nil))) qa_nil))))))))) qa_nil))) qa_nil)) (qa_cons q_bl qa_nil))))
  qss_nil)))))))))))))
end
end G

/-! The end: printed by gen.py. -/
namespace G
open PySem PySem.Spec PyProof.Rows L2 Q
theorem tup_K {K : PySem.W.Frag} {x : Str} {vs : List He.Dv} (h : He.tupB K x vs = true) (H : Hp) (μ : Mu) : TupAt K H μ (He.ga K x) (vs.map (He.Dv.v K)) := by
  rcases He.tupB_ok h (fun _ => none) with z | z
  · rcases z with z | ⟨_, z⟩ <;> cases z
  · exact .inr z
def dd_is_integer : He.DefD := ⟨("is_integer", none), "is_integer", "is_integer", defArgs s_is_integer, defBody s_is_integer, defScope s_is_integer, [], []⟩
def dd_is_bit : He.DefD := ⟨("is_bit", none), "is_bit", "is_bit", defArgs s_is_bit, defBody s_is_bit, defScope s_is_bit, [], []⟩
def dd_is_from_to : He.DefD := ⟨("is_from_to", none), "is_from_to", "is_from_to", defArgs s_is_from_to, defBody s_is_from_to, defScope s_is_from_to, [], []⟩
def dd_is_tuple_of : He.DefD := ⟨("is_tuple_of", none), "is_tuple_of", "is_tuple_of", defArgs s_is_tuple_of, defBody s_is_tuple_of, defScope s_is_tuple_of, [], []⟩
def dd_is_ascending : He.DefD := ⟨("is_ascending", none), "is_ascending", "is_ascending", defArgs s_is_ascending, defBody s_is_ascending, defScope s_is_ascending, [], []⟩
def dd_without_doubles : He.DefD := ⟨("without_doubles", none), "without_doubles", "without_doubles", defArgs s_without_doubles, defBody s_without_doubles, defScope s_without_doubles, [], []⟩
def dd_is_kind : He.DefD := ⟨("is_kind", none), "is_kind", "is_kind", defArgs s_is_kind, defBody s_is_kind, defScope s_is_kind, [], []⟩
def dd_is_source : He.DefD := ⟨("is_source", none), "is_source", "is_source", defArgs s_is_source, defBody s_is_source, defScope s_is_source, [], []⟩
def dd_is_kind_row : He.DefD := ⟨("is_kind_row", none), "is_kind_row", "is_kind_row", defArgs s_is_kind_row, defBody s_is_kind_row, defScope s_is_kind_row, [], []⟩
def dd_is_kinds : He.DefD := ⟨("is_kinds", none), "is_kinds", "is_kinds", defArgs s_is_kinds, defBody s_is_kinds, defScope s_is_kinds, [], []⟩
def dd_is_term_over : He.DefD := ⟨("is_term_over", none), "is_term_over", "is_term_over", defArgs s_is_term_over, defBody s_is_term_over, defScope s_is_term_over, [], []⟩
def dd_is_word_and : He.DefD := ⟨("is_word_and", none), "is_word_and", "is_word_and", defArgs s_is_word_and, defBody s_is_word_and, defScope s_is_word_and, [], []⟩
def dd_is_sentence_over : He.DefD := ⟨("is_sentence_over", none), "is_sentence_over", "is_sentence_over", defArgs s_is_sentence_over, defBody s_is_sentence_over, defScope s_is_sentence_over, [], []⟩
def dd_is_entry : He.DefD := ⟨("is_entry", none), "is_entry", "is_entry", defArgs s_is_entry, defBody s_is_entry, defScope s_is_entry, [], []⟩
def dd_is_book : He.DefD := ⟨("is_book", none), "is_book", "is_book", defArgs s_is_book, defBody s_is_book, defScope s_is_book, [], []⟩
def dd_check_book : He.DefD := ⟨("check_book", none), "check_book", "check_book", defArgs s_check_book, defBody s_check_book, defScope s_check_book, [.str "book"], []⟩
def dd_sentences_among : He.DefD := ⟨("sentences_among", none), "sentences_among", "sentences_among", defArgs s_sentences_among, defBody s_sentences_among, defScope s_sentences_among, [], []⟩
def dd_told_sentences : He.DefD := ⟨("told_sentences", none), "told_sentences", "told_sentences", defArgs s_told_sentences, defBody s_told_sentences, defScope s_told_sentences, [], []⟩
def dd_sizes_of : He.DefD := ⟨("sizes_of", none), "sizes_of", "sizes_of", defArgs s_sizes_of, defBody s_sizes_of, defScope s_sizes_of, [], []⟩
def dd_n__law_stream : He.DefD := ⟨("_law_stream", none), "_law_stream", "_law_stream", defArgs s_n__law_stream, defBody s_n__law_stream, defScope s_n__law_stream, [], []⟩
def dd_n__law_next : He.DefD := ⟨("_law_next", none), "_law_next", "_law_next", defArgs s_n__law_next, defBody s_n__law_next, defScope s_n__law_next, [], []⟩
def dd_n__law_pick : He.DefD := ⟨("_law_pick", none), "_law_pick", "_law_pick", defArgs s_n__law_pick, defBody s_n__law_pick, defScope s_n__law_pick, [], []⟩
def dd_n__law_says : He.DefD := ⟨("_law_says", none), "_law_says", "_law_says", defArgs s_n__law_says, defBody s_n__law_says, defScope s_n__law_says, [], []⟩
def dd_n__law_same : He.DefD := ⟨("_law_same", none), "_law_same", "_law_same", defArgs s_n__law_same, defBody s_n__law_same, defScope s_n__law_same, [], []⟩
def dd_n__law_kind : He.DefD := ⟨("_law_kind", none), "_law_kind", "_law_kind", defArgs s_n__law_kind, defBody s_n__law_kind, defScope s_n__law_kind, [], []⟩
def dd_n__law_kinds : He.DefD := ⟨("_law_kinds", none), "_law_kinds", "_law_kinds", defArgs s_n__law_kinds, defBody s_n__law_kinds, defScope s_n__law_kinds, [], []⟩
def dd_n__law_bit : He.DefD := ⟨("_law_bit", none), "_law_bit", "_law_bit", defArgs s_n__law_bit, defBody s_n__law_bit, defScope s_n__law_bit, [], []⟩
def dd_n__law_sentence : He.DefD := ⟨("_law_sentence", none), "_law_sentence", "_law_sentence", defArgs s_n__law_sentence, defBody s_n__law_sentence, defScope s_n__law_sentence, [], []⟩
def dd_n__law_numbered : He.DefD := ⟨("_law_numbered", none), "_law_numbered", "_law_numbered", defArgs s_n__law_numbered, defBody s_n__law_numbered, defScope s_n__law_numbered, [], []⟩
def dd_n__law_entries : He.DefD := ⟨("_law_entries", none), "_law_entries", "_law_entries", defArgs s_n__law_entries, defBody s_n__law_entries, defScope s_n__law_entries, [], []⟩
def dd_n__law_different : He.DefD := ⟨("_law_different", none), "_law_different", "_law_different", defArgs s_n__law_different, defBody s_n__law_different, defScope s_n__law_different, [], []⟩
def dd_n__law_is_term : He.DefD := ⟨("_law_is_term", none), "_law_is_term", "_law_is_term", defArgs s_n__law_is_term, defBody s_n__law_is_term, defScope s_n__law_is_term, [], []⟩
def dd_n__law_told : He.DefD := ⟨("_law_told", none), "_law_told", "_law_told", defArgs s_n__law_told, defBody s_n__law_told, defScope s_n__law_told, [], []⟩
def dd_n__law_kept : He.DefD := ⟨("_law_kept", none), "_law_kept", "_law_kept", defArgs s_n__law_kept, defBody s_n__law_kept, defScope s_n__law_kept, [], []⟩
def dd_n__law_spoilt : He.DefD := ⟨("_law_spoilt", none), "_law_spoilt", "_law_spoilt", defArgs s_n__law_spoilt, defBody s_n__law_spoilt, defScope s_n__law_spoilt, [], []⟩
def dd_law : He.DefD := ⟨("law", none), "law", "law", defArgs s_law, defBody s_law, defScope s_law, [], []⟩
def dd_n__law_one_class : He.DefD := ⟨("_law_one_class", none), "_law_one_class", "_law_one_class", defArgs s_n__law_one_class, defBody s_n__law_one_class, defScope s_n__law_one_class, [], []⟩
def dd_n__law_bad : He.DefD := ⟨("_law_bad", none), "_law_bad", "_law_bad", defArgs s_n__law_bad, defBody s_n__law_bad, defScope s_n__law_bad, [], []⟩
def ddi_BadValue : He.DefD := ⟨("BadValue", some "__init__"), "__init__", "BadValue.__init__", defArgs si_BadValue, defBody si_BadValue, defScope si_BadValue, [], []⟩
def ddi_NotPossible : He.DefD := ⟨("NotPossible", some "__init__"), "__init__", "NotPossible.__init__", defArgs si_NotPossible, defBody si_NotPossible, defScope si_NotPossible, [], []⟩
def ddi_TooLarge : He.DefD := ⟨("TooLarge", some "__init__"), "__init__", "TooLarge.__init__", defArgs si_TooLarge, defBody si_TooLarge, defScope si_TooLarge, [], []⟩
def ddi_TextError : He.DefD := ⟨("TextError", some "__init__"), "__init__", "TextError.__init__", defArgs si_TextError, defBody si_TextError, defScope si_TextError, [], []⟩
def hfn : List He.DefD := ([dd_is_integer, dd_is_bit, dd_is_from_to, dd_is_tuple_of, dd_is_ascending, dd_without_doubles, dd_is_kind, dd_is_source, dd_is_kind_row, dd_is_kinds, dd_is_term_over, dd_is_word_and, dd_is_sentence_over, dd_is_entry, dd_is_book, dd_check_book, dd_sentences_among, dd_told_sentences, dd_sizes_of, dd_n__law_stream, dd_n__law_next, dd_n__law_pick, dd_n__law_says, dd_n__law_same, dd_n__law_kind, dd_n__law_kinds, dd_n__law_bit, dd_n__law_sentence, dd_n__law_numbered, dd_n__law_entries] : List He.DefD) ++ ([dd_n__law_different, dd_n__law_is_term, dd_n__law_told, dd_n__law_kept, dd_n__law_spoilt, dd_law, dd_n__law_one_class, dd_n__law_bad, ddi_BadValue, ddi_NotPossible, ddi_TooLarge, ddi_TextError] : List He.DefD)
def hfa : List He.Fa := ([.glo "is_integer", .glo "is_bit", .glo "is_from_to", .glo "is_tuple_of", .glo "is_ascending", .glo "without_doubles", .glo "is_kind", .glo "is_source", .glo "is_kind_row", .glo "is_kinds", .glo "is_term_over", .glo "is_word_and", .glo "is_sentence_over", .glo "is_entry", .glo "is_book", .glo "check_book", .glo "sentences_among", .glo "told_sentences", .glo "sizes_of", .glo "_law_stream", .glo "_law_next", .glo "_law_pick", .glo "_law_says", .glo "_law_same", .glo "_law_kind", .glo "_law_kinds", .glo "_law_bit", .glo "_law_sentence", .glo "_law_numbered", .glo "_law_entries"] : List He.Fa) ++ ([.glo "_law_different", .glo "_law_is_term", .glo "_law_told", .glo "_law_kept", .glo "_law_spoilt", .glo "law", .glo "_law_one_class", .glo "_law_bad", .glo "BadValue", .glo "MoreError", .glo "NotPossible", .glo "TextError", .glo "TooLarge", .free "ValueError", .free "len", .free "isinstance", .free "int", .free "bool", .free "str", .free "tuple", .free "list", .free "all", .free "sorted", .free "range", .free "abs", .int "MOST_SIGNS" 12, .int "MOST_SOURCE" 5, .int "MOST_KINDS" 30, .glo "WORDS", .int "MOST_ENTRIES" 150] : List He.Fa)
def hex (K : PySem.W.Frag) : Bool := (He.tupB K "WORDS" [.str "all", .str "many", .str "more", .str "some"]) && (xcB K "BadValue" ["name"]) && (xcB K "NotPossible" ["why"]) && (xcB K "TooLarge" ["what"]) && (xcB K "TextError" ["column", "problem"]) && (decide (PySem.W.exmOne K (.ref (He.ga K "BadValue")) (.ref (He.ga K "MoreError")) = some true)) && (decide (PySem.W.exmOne K (.ref (He.ga K "NotPossible")) (.ref (He.ga K "MoreError")) = some true)) && (decide (PySem.W.exmOne K (.ref (He.ga K "TooLarge")) (.ref (He.ga K "MoreError")) = some true)) && (decide (PySem.W.exmOne K (.ref (He.ga K "TextError")) (.ref (He.ga K "MoreError")) = some true)) && (decide (PySem.W.kitOne K (.ref (He.ga K "BadValue")) (.ref (He.ga K "BadValue")) = some true)) && (decide (PySem.W.kitOne K (.ref (He.ga K "NotPossible")) (.ref (He.ga K "BadValue")) = some false)) && (decide (PySem.W.kitOne K (.ref (He.ga K "TooLarge")) (.ref (He.ga K "BadValue")) = some false)) && (decide (PySem.W.kitOne K (.ref (He.ga K "TextError")) (.ref (He.ga K "BadValue")) = some false)) && (decide (PySem.W.kitOne K (.ref (He.ga K "BadValue")) (.ref (He.ga K "MoreError")) = some true)) && (decide (PySem.W.kitOne K (.ref (He.ga K "NotPossible")) (.ref (He.ga K "MoreError")) = some true)) && (decide (PySem.W.kitOne K (.ref (He.ga K "TooLarge")) (.ref (He.ga K "MoreError")) = some true)) && (decide (PySem.W.kitOne K (.ref (He.ga K "TextError")) (.ref (He.ga K "MoreError")) = some true)) && (decide (PySem.W.kitOne K (.ref (He.ga K "BadValue")) (.ref (He.ga K "NotPossible")) = some false)) && (decide (PySem.W.kitOne K (.ref (He.ga K "NotPossible")) (.ref (He.ga K "NotPossible")) = some true)) && (decide (PySem.W.kitOne K (.ref (He.ga K "TooLarge")) (.ref (He.ga K "NotPossible")) = some false)) && (decide (PySem.W.kitOne K (.ref (He.ga K "TextError")) (.ref (He.ga K "NotPossible")) = some false)) && (decide (PySem.W.kitOne K (.ref (He.ga K "BadValue")) (.ref (He.ga K "TextError")) = some false)) && (decide (PySem.W.kitOne K (.ref (He.ga K "NotPossible")) (.ref (He.ga K "TextError")) = some false)) && (decide (PySem.W.kitOne K (.ref (He.ga K "TooLarge")) (.ref (He.ga K "TextError")) = some false)) && (decide (PySem.W.kitOne K (.ref (He.ga K "TextError")) (.ref (He.ga K "TextError")) = some true)) && (decide (PySem.W.kitOne K (.ref (He.ga K "BadValue")) (.ref (He.ga K "TooLarge")) = some false)) && (decide (PySem.W.kitOne K (.ref (He.ga K "NotPossible")) (.ref (He.ga K "TooLarge")) = some false)) && (decide (PySem.W.kitOne K (.ref (He.ga K "TooLarge")) (.ref (He.ga K "TooLarge")) = some true)) && (decide (PySem.W.kitOne K (.ref (He.ga K "TextError")) (.ref (He.ga K "TooLarge")) = some false)) && (decide (PySem.W.kitOne K (.ref (He.ga K "BadValue")) (.type "ValueError") = some true)) && (decide (PySem.W.kitOne K (.ref (He.ga K "NotPossible")) (.type "ValueError") = some true)) && (decide (PySem.W.kitOne K (.ref (He.ga K "TooLarge")) (.type "ValueError") = some true)) && (decide (PySem.W.kitOne K (.ref (He.ga K "TextError")) (.type "ValueError") = some true))
abbrev R : PySem.W.OpenRow := PySem.W.OpenLaw.row PySem.Challenge.rw_morethan_k04_whole_books_and_their_limit
abbrev hk : PySem.W.Hook := He.hookX 4 hfa hfn [] [] hex
def hob (s : PySem.W.SharedT) : He.AlX := He.obsX 4 hfa hfn [] [] hex (HandSHeadRun.getT s)
theorem hob_eq (s : PySem.W.SharedT) : hob s = hk.obs s.abs := He.obsX_eq (HandSHeadRun.getT_eq s)
def loose : List Str := (["__name__", "MoreError", "BadValue", "NotPossible", "TooLarge", "TextError", "MOST_SIGNS", "MOST_SOURCE", "MOST_KINDS", "is_integer", "is_bit", "is_from_to", "is_tuple_of", "is_ascending", "without_doubles", "is_kind", "is_source", "is_kind_row", "is_kinds", "is_term_over", "WORDS", "is_word_and", "is_sentence_over", "MOST_ENTRIES", "is_entry", "is_book", "check_book", "sentences_among", "told_sentences", "sizes_of"] : List Str) ++ (["_law_stream", "_law_next", "_law_pick", "_law_says", "_law_same", "_law_one_class", "_law_bad", "_law_kind", "_law_kinds", "_law_bit", "_law_sentence", "_law_numbered", "_law_entries", "_law_different", "_law_is_term", "_law_told", "_law_kept", "_law_spoilt"] : List Str)
theorem run (w : World) : HandSHeadRun.RunEq R (PySem.W.view R.prog [52]) hk hob 4000 loose w := by
  intro os
  kernel_rfl
theorem fs_cases {n : Str} (h : FS n ≠ []) : n = "BadValue" ∨ n = "NotPossible" ∨ n = "TooLarge" ∨ n = "TextError" := by
  unfold FS at h
  by_cases q_BadValue : n = "BadValue"
  · simp [q_BadValue]
  by_cases q_NotPossible : n = "NotPossible"
  · simp [q_NotPossible]
  by_cases q_TooLarge : n = "TooLarge"
  · simp [q_TooLarge]
  by_cases q_TextError : n = "TextError"
  · simp [q_TextError]
  simp_all
theorem ck_ne {T n : Str} {b : Bool} (h : CK T n = some b) : FS n ≠ [] := fun z => by
  unfold CK at h
  rw [if_pos z] at h
  cases h
theorem ck_one {K : PySem.W.Frag} {mg : Str → Option Value} {T n m : Str} {C : Addr} {b b0 : Bool} (φ : Value → Option Bool) (g : mg m = some (.ref (He.ga K m))) (e : φ (.ref (He.ga K m)) = some b0) (h : n = m) (hn : mg n = some (.ref C)) (hb : CK T n = some b) (hc : CK T m = some b0) : φ (.ref C) = some b := by
  subst h
  cases g.symm.trans hn
  rw [hc] at hb
  cases hb
  exact e
theorem tab_one {K : PySem.W.Frag} {mg : Str → Option Value} {n m : Str} {ns : List Str} {C : Addr} (g : mg m = some (.ref (He.ga K m))) (o : XcOk K m ns) (hf : FS m = ns.reverse) (h : n = m) (hm : mg n = some (.ref C)) : XfC K C ∧ XIs K C ∧ ∀ f ∈ FS n, PySem.W.findIn K (.ref C) f = some none := by
  subst h
  cases g.symm.trans hm
  exact ⟨o.xf, o.xi, fun f q => o.no f (List.mem_reverse.mp (hf ▸ q))⟩
theorem facts {P : Program} {w : World} {K : PySem.W.Frag} {h : Heap} {mg : Str → Option Value} {f : Addr} (X : K.In h) (G : h.Ns mainGlobals mg) (hfa0 : mg ("law" : Str) = some (.ref f)) (cx : He.SaysX hfa hfn [] [] hex w h K) :
    ∃ fd : FuncData, (∀ (s : Shared) (v : Value), BindsTo s fd ⟨[v], []⟩ [("script", v)]) ∧ ∀ base : Heap, K.In base → base.Ns mainGlobals mg → FnOk P w K mg base CX0 10 f fd ["script"] (fun vs H Q _ => spOf P w K mg f_law vs H Q fun _ _ _ => False) := by
  have c := cx.t.d
  have cm := cx.more
  unfold hex at cm
  simp only [Bool.and_eq_true] at cm
  obtain ⟨⟨⟨⟨⟨⟨⟨⟨⟨⟨⟨⟨⟨⟨⟨⟨⟨⟨⟨⟨⟨⟨⟨⟨⟨⟨⟨⟨⟨⟨⟨⟨x_WORDS, xc_BadValue⟩, xc_NotPossible⟩, xc_TooLarge⟩, xc_TextError⟩, em_MoreError_BadValue⟩, em_MoreError_NotPossible⟩, em_MoreError_TooLarge⟩, em_MoreError_TextError⟩, ki_BadValue_BadValue⟩, ki_BadValue_NotPossible⟩, ki_BadValue_TooLarge⟩, ki_BadValue_TextError⟩, ki_MoreError_BadValue⟩, ki_MoreError_NotPossible⟩, ki_MoreError_TooLarge⟩, ki_MoreError_TextError⟩, ki_NotPossible_BadValue⟩, ki_NotPossible_NotPossible⟩, ki_NotPossible_TooLarge⟩, ki_NotPossible_TextError⟩, ki_TextError_BadValue⟩, ki_TextError_NotPossible⟩, ki_TextError_TooLarge⟩, ki_TextError_TextError⟩, ki_TooLarge_BadValue⟩, ki_TooLarge_NotPossible⟩, ki_TooLarge_TooLarge⟩, ki_TooLarge_TextError⟩, ki_ValueError_BadValue⟩, ki_ValueError_NotPossible⟩, ki_ValueError_TooLarge⟩, ki_ValueError_TextError⟩ := cm
  have fr : Fr mg K := {
    len := He.free_ok X G (c.fact 44 (f := .free "len") rfl)
    isinstance := He.free_ok X G (c.fact 45 (f := .free "isinstance") rfl)
    int := He.free_ok X G (c.fact 46 (f := .free "int") rfl)
    bool := He.free_ok X G (c.fact 47 (f := .free "bool") rfl)
    str := He.free_ok X G (c.fact 48 (f := .free "str") rfl)
    tuple := He.free_ok X G (c.fact 49 (f := .free "tuple") rfl)
    list := He.free_ok X G (c.fact 50 (f := .free "list") rfl)
    all := He.free_ok X G (c.fact 51 (f := .free "all") rfl)
    sorted := He.free_ok X G (c.fact 52 (f := .free "sorted") rfl)
    range := He.free_ok X G (c.fact 53 (f := .free "range") rfl)
    abs := He.free_ok X G (c.fact 54 (f := .free "abs") rfl)
    MOST_SIGNS := (He.int_ok X G (c.fact 55 (f := .int "MOST_SIGNS" 12) rfl)).elim fun t h => ⟨.int 12, _, h, ⟨t, rfl⟩, fun _ _ => .int _⟩
    MOST_SOURCE := (He.int_ok X G (c.fact 56 (f := .int "MOST_SOURCE" 5) rfl)).elim fun t h => ⟨.int 5, _, h, ⟨t, rfl⟩, fun _ _ => .int _⟩
    MOST_KINDS := (He.int_ok X G (c.fact 57 (f := .int "MOST_KINDS" 30) rfl)).elim fun t h => ⟨.int 30, _, h, ⟨t, rfl⟩, fun _ _ => .int _⟩
    WORDS := ⟨.ref (He.ga K "WORDS"), _, He.glo_ok X G (c.fact 58 (f := .glo "WORDS") rfl), rfl, fun H μ => .tup (tup_K x_WORDS H μ) (.cons (.str "all") (.cons (.str "many") (.cons (.str "more") (.cons (.str "some") (.nil)))))⟩
    MOST_ENTRIES := (He.int_ok X G (c.fact 59 (f := .int "MOST_ENTRIES" 150) rfl)).elim fun t h => ⟨.int 150, _, h, ⟨t, rfl⟩, fun _ _ => .int _⟩
  }
  obtain ⟨fd_is_integer, F_is_integer⟩ := c.def_ 0 (d := dd_is_integer) rfl
  obtain ⟨fd_is_bit, F_is_bit⟩ := c.def_ 1 (d := dd_is_bit) rfl
  obtain ⟨fd_is_from_to, F_is_from_to⟩ := c.def_ 2 (d := dd_is_from_to) rfl
  obtain ⟨fd_is_tuple_of, F_is_tuple_of⟩ := c.def_ 3 (d := dd_is_tuple_of) rfl
  obtain ⟨fd_is_ascending, F_is_ascending⟩ := c.def_ 4 (d := dd_is_ascending) rfl
  obtain ⟨fd_without_doubles, F_without_doubles⟩ := c.def_ 5 (d := dd_without_doubles) rfl
  obtain ⟨fd_is_kind, F_is_kind⟩ := c.def_ 6 (d := dd_is_kind) rfl
  obtain ⟨fd_is_source, F_is_source⟩ := c.def_ 7 (d := dd_is_source) rfl
  obtain ⟨fd_is_kind_row, F_is_kind_row⟩ := c.def_ 8 (d := dd_is_kind_row) rfl
  obtain ⟨fd_is_kinds, F_is_kinds⟩ := c.def_ 9 (d := dd_is_kinds) rfl
  obtain ⟨fd_is_term_over, F_is_term_over⟩ := c.def_ 10 (d := dd_is_term_over) rfl
  obtain ⟨fd_is_word_and, F_is_word_and⟩ := c.def_ 11 (d := dd_is_word_and) rfl
  obtain ⟨fd_is_sentence_over, F_is_sentence_over⟩ := c.def_ 12 (d := dd_is_sentence_over) rfl
  obtain ⟨fd_is_entry, F_is_entry⟩ := c.def_ 13 (d := dd_is_entry) rfl
  obtain ⟨fd_is_book, F_is_book⟩ := c.def_ 14 (d := dd_is_book) rfl
  obtain ⟨fd_check_book, F_check_book⟩ := c.def_ 15 (d := dd_check_book) rfl
  obtain ⟨fd_sentences_among, F_sentences_among⟩ := c.def_ 16 (d := dd_sentences_among) rfl
  obtain ⟨fd_told_sentences, F_told_sentences⟩ := c.def_ 17 (d := dd_told_sentences) rfl
  obtain ⟨fd_sizes_of, F_sizes_of⟩ := c.def_ 18 (d := dd_sizes_of) rfl
  obtain ⟨fd_n__law_stream, F_n__law_stream⟩ := c.def_ 19 (d := dd_n__law_stream) rfl
  obtain ⟨fd_n__law_next, F_n__law_next⟩ := c.def_ 20 (d := dd_n__law_next) rfl
  obtain ⟨fd_n__law_pick, F_n__law_pick⟩ := c.def_ 21 (d := dd_n__law_pick) rfl
  obtain ⟨fd_n__law_says, F_n__law_says⟩ := c.def_ 22 (d := dd_n__law_says) rfl
  obtain ⟨fd_n__law_same, F_n__law_same⟩ := c.def_ 23 (d := dd_n__law_same) rfl
  obtain ⟨fd_n__law_kind, F_n__law_kind⟩ := c.def_ 24 (d := dd_n__law_kind) rfl
  obtain ⟨fd_n__law_kinds, F_n__law_kinds⟩ := c.def_ 25 (d := dd_n__law_kinds) rfl
  obtain ⟨fd_n__law_bit, F_n__law_bit⟩ := c.def_ 26 (d := dd_n__law_bit) rfl
  obtain ⟨fd_n__law_sentence, F_n__law_sentence⟩ := c.def_ 27 (d := dd_n__law_sentence) rfl
  obtain ⟨fd_n__law_numbered, F_n__law_numbered⟩ := c.def_ 28 (d := dd_n__law_numbered) rfl
  obtain ⟨fd_n__law_entries, F_n__law_entries⟩ := c.def_ 29 (d := dd_n__law_entries) rfl
  obtain ⟨fd_n__law_different, F_n__law_different⟩ := c.def_ 30 (d := dd_n__law_different) rfl
  obtain ⟨fd_n__law_is_term, F_n__law_is_term⟩ := c.def_ 31 (d := dd_n__law_is_term) rfl
  obtain ⟨fd_n__law_told, F_n__law_told⟩ := c.def_ 32 (d := dd_n__law_told) rfl
  obtain ⟨fd_n__law_kept, F_n__law_kept⟩ := c.def_ 33 (d := dd_n__law_kept) rfl
  obtain ⟨fd_n__law_spoilt, F_n__law_spoilt⟩ := c.def_ 34 (d := dd_n__law_spoilt) rfl
  obtain ⟨fd_law, F_law⟩ := c.def_ 35 (d := dd_law) rfl
  obtain ⟨fd_n__law_one_class, F_n__law_one_class⟩ := c.def_ 36 (d := dd_n__law_one_class) rfl
  obtain ⟨fd_n__law_bad, F_n__law_bad⟩ := c.def_ 37 (d := dd_n__law_bad) rfl
  obtain ⟨fdi_BadValue, Fi_BadValue⟩ := c.def_ 38 (d := ddi_BadValue) rfl
  obtain ⟨fdi_NotPossible, Fi_NotPossible⟩ := c.def_ 39 (d := ddi_NotPossible) rfl
  obtain ⟨fdi_TooLarge, Fi_TooLarge⟩ := c.def_ 40 (d := ddi_TooLarge) rfl
  obtain ⟨fdi_TextError, Fi_TextError⟩ := c.def_ 41 (d := ddi_TextError) rfl
  have e := hfa0.symm.trans (He.glo_ok X G (c.fact 35 (f := .glo "law") rfl))
  cases e
  refine ⟨fd_law, fun s v => FunD.bindsA (ps := ["script"]) F_law (fun _ _ _ _ _ _ us hl => match us, hl with | [_], _ => rfl) s [v] rfl, fun base _ _ => ?_⟩
  have o_BadValue := xcB_ok xc_BadValue
  have o_NotPossible := xcB_ok xc_NotPossible
  have o_TooLarge := xcB_ok xc_TooLarge
  have o_TextError := xcB_ok xc_TextError
  have xs : Xs P w K mg base := {
    tab := fun n C hn hm => (fs_cases hn).elim (fun h => tab_one (He.glo_ok X G (c.fact 38 (f := .glo "BadValue") rfl)) o_BadValue (by decide +kernel) h hm) fun q => (q.elim (fun h => tab_one (He.glo_ok X G (c.fact 40 (f := .glo "NotPossible") rfl)) o_NotPossible (by decide +kernel) h hm) fun q' => (q'.elim (fun h => tab_one (He.glo_ok X G (c.fact 42 (f := .glo "TooLarge") rfl)) o_TooLarge (by decide +kernel) h hm) fun q'' => ((fun h => tab_one (He.glo_ok X G (c.fact 41 (f := .glo "TextError") rfl)) o_TextError (by decide +kernel) h hm) q'')))
    c_BadValue := XCls.of o_BadValue (He.glo_ok X G (c.fact 38 (f := .glo "BadValue") rfl)) (ok_ini_BadValue Fi_BadValue) (Fi_BadValue.bindsN fun _ _ _ _ _ _ us hl => match us, hl with | [_, _], _ => rfl)
    cl_MoreError := ⟨_, .inl (He.glo_ok X G (c.fact 39 (f := .glo "MoreError") rfl)), fun n C b hb hn => (fs_cases (ck_ne hb)).elim (fun h => ck_one (fun t => PySem.W.exmOne K t (.ref (He.ga K "MoreError"))) (He.glo_ok X G (c.fact 38 (f := .glo "BadValue") rfl)) (of_decide_eq_true em_MoreError_BadValue) h hn hb (by decide +kernel)) fun q => (q.elim (fun h => ck_one (fun t => PySem.W.exmOne K t (.ref (He.ga K "MoreError"))) (He.glo_ok X G (c.fact 40 (f := .glo "NotPossible") rfl)) (of_decide_eq_true em_MoreError_NotPossible) h hn hb (by decide +kernel)) fun q' => (q'.elim (fun h => ck_one (fun t => PySem.W.exmOne K t (.ref (He.ga K "MoreError"))) (He.glo_ok X G (c.fact 42 (f := .glo "TooLarge") rfl)) (of_decide_eq_true em_MoreError_TooLarge) h hn hb (by decide +kernel)) fun q'' => ((fun h => ck_one (fun t => PySem.W.exmOne K t (.ref (He.ga K "MoreError"))) (He.glo_ok X G (c.fact 41 (f := .glo "TextError") rfl)) (of_decide_eq_true em_MoreError_TextError) h hn hb (by decide +kernel)) q'')))⟩
    is_BadValue := ⟨_, _, .own _, .inl ⟨_, (He.glo_ok X G (c.fact 38 (f := .glo "BadValue") rfl)), rfl⟩, fun n C b hb hn => (fs_cases (ck_ne hb)).elim (fun h => ck_one (fun t => PySem.W.kitOne K t (.ref (He.ga K "BadValue"))) (He.glo_ok X G (c.fact 38 (f := .glo "BadValue") rfl)) (of_decide_eq_true ki_BadValue_BadValue) h hn hb (by decide +kernel)) fun q => (q.elim (fun h => ck_one (fun t => PySem.W.kitOne K t (.ref (He.ga K "BadValue"))) (He.glo_ok X G (c.fact 40 (f := .glo "NotPossible") rfl)) (of_decide_eq_true ki_BadValue_NotPossible) h hn hb (by decide +kernel)) fun q' => (q'.elim (fun h => ck_one (fun t => PySem.W.kitOne K t (.ref (He.ga K "BadValue"))) (He.glo_ok X G (c.fact 42 (f := .glo "TooLarge") rfl)) (of_decide_eq_true ki_BadValue_TooLarge) h hn hb (by decide +kernel)) fun q'' => ((fun h => ck_one (fun t => PySem.W.kitOne K t (.ref (He.ga K "BadValue"))) (He.glo_ok X G (c.fact 41 (f := .glo "TextError") rfl)) (of_decide_eq_true ki_BadValue_TextError) h hn hb (by decide +kernel)) q'')))⟩
    is_MoreError := ⟨_, _, .own _, .inl ⟨_, (He.glo_ok X G (c.fact 39 (f := .glo "MoreError") rfl)), rfl⟩, fun n C b hb hn => (fs_cases (ck_ne hb)).elim (fun h => ck_one (fun t => PySem.W.kitOne K t (.ref (He.ga K "MoreError"))) (He.glo_ok X G (c.fact 38 (f := .glo "BadValue") rfl)) (of_decide_eq_true ki_MoreError_BadValue) h hn hb (by decide +kernel)) fun q => (q.elim (fun h => ck_one (fun t => PySem.W.kitOne K t (.ref (He.ga K "MoreError"))) (He.glo_ok X G (c.fact 40 (f := .glo "NotPossible") rfl)) (of_decide_eq_true ki_MoreError_NotPossible) h hn hb (by decide +kernel)) fun q' => (q'.elim (fun h => ck_one (fun t => PySem.W.kitOne K t (.ref (He.ga K "MoreError"))) (He.glo_ok X G (c.fact 42 (f := .glo "TooLarge") rfl)) (of_decide_eq_true ki_MoreError_TooLarge) h hn hb (by decide +kernel)) fun q'' => ((fun h => ck_one (fun t => PySem.W.kitOne K t (.ref (He.ga K "MoreError"))) (He.glo_ok X G (c.fact 41 (f := .glo "TextError") rfl)) (of_decide_eq_true ki_MoreError_TextError) h hn hb (by decide +kernel)) q'')))⟩
    is_NotPossible := ⟨_, _, .own _, .inl ⟨_, (He.glo_ok X G (c.fact 40 (f := .glo "NotPossible") rfl)), rfl⟩, fun n C b hb hn => (fs_cases (ck_ne hb)).elim (fun h => ck_one (fun t => PySem.W.kitOne K t (.ref (He.ga K "NotPossible"))) (He.glo_ok X G (c.fact 38 (f := .glo "BadValue") rfl)) (of_decide_eq_true ki_NotPossible_BadValue) h hn hb (by decide +kernel)) fun q => (q.elim (fun h => ck_one (fun t => PySem.W.kitOne K t (.ref (He.ga K "NotPossible"))) (He.glo_ok X G (c.fact 40 (f := .glo "NotPossible") rfl)) (of_decide_eq_true ki_NotPossible_NotPossible) h hn hb (by decide +kernel)) fun q' => (q'.elim (fun h => ck_one (fun t => PySem.W.kitOne K t (.ref (He.ga K "NotPossible"))) (He.glo_ok X G (c.fact 42 (f := .glo "TooLarge") rfl)) (of_decide_eq_true ki_NotPossible_TooLarge) h hn hb (by decide +kernel)) fun q'' => ((fun h => ck_one (fun t => PySem.W.kitOne K t (.ref (He.ga K "NotPossible"))) (He.glo_ok X G (c.fact 41 (f := .glo "TextError") rfl)) (of_decide_eq_true ki_NotPossible_TextError) h hn hb (by decide +kernel)) q'')))⟩
    is_TextError := ⟨_, _, .own _, .inl ⟨_, (He.glo_ok X G (c.fact 41 (f := .glo "TextError") rfl)), rfl⟩, fun n C b hb hn => (fs_cases (ck_ne hb)).elim (fun h => ck_one (fun t => PySem.W.kitOne K t (.ref (He.ga K "TextError"))) (He.glo_ok X G (c.fact 38 (f := .glo "BadValue") rfl)) (of_decide_eq_true ki_TextError_BadValue) h hn hb (by decide +kernel)) fun q => (q.elim (fun h => ck_one (fun t => PySem.W.kitOne K t (.ref (He.ga K "TextError"))) (He.glo_ok X G (c.fact 40 (f := .glo "NotPossible") rfl)) (of_decide_eq_true ki_TextError_NotPossible) h hn hb (by decide +kernel)) fun q' => (q'.elim (fun h => ck_one (fun t => PySem.W.kitOne K t (.ref (He.ga K "TextError"))) (He.glo_ok X G (c.fact 42 (f := .glo "TooLarge") rfl)) (of_decide_eq_true ki_TextError_TooLarge) h hn hb (by decide +kernel)) fun q'' => ((fun h => ck_one (fun t => PySem.W.kitOne K t (.ref (He.ga K "TextError"))) (He.glo_ok X G (c.fact 41 (f := .glo "TextError") rfl)) (of_decide_eq_true ki_TextError_TextError) h hn hb (by decide +kernel)) q'')))⟩
    is_TooLarge := ⟨_, _, .own _, .inl ⟨_, (He.glo_ok X G (c.fact 42 (f := .glo "TooLarge") rfl)), rfl⟩, fun n C b hb hn => (fs_cases (ck_ne hb)).elim (fun h => ck_one (fun t => PySem.W.kitOne K t (.ref (He.ga K "TooLarge"))) (He.glo_ok X G (c.fact 38 (f := .glo "BadValue") rfl)) (of_decide_eq_true ki_TooLarge_BadValue) h hn hb (by decide +kernel)) fun q => (q.elim (fun h => ck_one (fun t => PySem.W.kitOne K t (.ref (He.ga K "TooLarge"))) (He.glo_ok X G (c.fact 40 (f := .glo "NotPossible") rfl)) (of_decide_eq_true ki_TooLarge_NotPossible) h hn hb (by decide +kernel)) fun q' => (q'.elim (fun h => ck_one (fun t => PySem.W.kitOne K t (.ref (He.ga K "TooLarge"))) (He.glo_ok X G (c.fact 42 (f := .glo "TooLarge") rfl)) (of_decide_eq_true ki_TooLarge_TooLarge) h hn hb (by decide +kernel)) fun q'' => ((fun h => ck_one (fun t => PySem.W.kitOne K t (.ref (He.ga K "TooLarge"))) (He.glo_ok X G (c.fact 41 (f := .glo "TextError") rfl)) (of_decide_eq_true ki_TooLarge_TextError) h hn hb (by decide +kernel)) q'')))⟩
    is_ValueError := ⟨_, _, .ty "ValueError", .inr ⟨(He.free_ok X G (c.fact 43 (f := .free "ValueError") rfl)), .type "ValueError", by decide +kernel, rfl, by decide⟩, fun n C b hb hn => (fs_cases (ck_ne hb)).elim (fun h => ck_one (fun t => PySem.W.kitOne K t (.type "ValueError")) (He.glo_ok X G (c.fact 38 (f := .glo "BadValue") rfl)) (of_decide_eq_true ki_ValueError_BadValue) h hn hb (by decide +kernel)) fun q => (q.elim (fun h => ck_one (fun t => PySem.W.kitOne K t (.type "ValueError")) (He.glo_ok X G (c.fact 40 (f := .glo "NotPossible") rfl)) (of_decide_eq_true ki_ValueError_NotPossible) h hn hb (by decide +kernel)) fun q' => (q'.elim (fun h => ck_one (fun t => PySem.W.kitOne K t (.type "ValueError")) (He.glo_ok X G (c.fact 42 (f := .glo "TooLarge") rfl)) (of_decide_eq_true ki_ValueError_TooLarge) h hn hb (by decide +kernel)) fun q'' => ((fun h => ck_one (fun t => PySem.W.kitOne K t (.type "ValueError")) (He.glo_ok X G (c.fact 41 (f := .glo "TextError") rfl)) (of_decide_eq_true ki_ValueError_TextError) h hn hb (by decide +kernel)) q'')))⟩
  }
  have dh_n__law_one_class : DefH P w K mg base 1 "_law_one_class" fh_n__law_one_class := DefH.mk F_n__law_one_class (okh_n__law_one_class fr xs  F_n__law_one_class) (He.glo_ok X G (c.fact 36 (f := .glo "_law_one_class") rfl)) fun _ _ _ _ _ _ us hl => match us, hl with | [_, _], _ => rfl
  have dh_n__law_bad : DefH P w K mg base 2 "_law_bad" fh_n__law_bad := DefH.mk F_n__law_bad (okh_n__law_bad fr xs dh_n__law_one_class F_n__law_bad) (He.glo_ok X G (c.fact 37 (f := .glo "_law_bad") rfl)) fun _ _ _ _ _ _ us hl => match us, hl with | [_, _], _ => rfl
  have k_law0 : FnOk P w K mg base (L2N.CX P w) 10 (He.ga K "law") fd_law P_law (spOf P w K mg f_law) := by
    have k_is_integer : FnOk P w K mg base (L2N.CX P w) 1 _ fd_is_integer P_is_integer (spOf P w K mg f_is_integer) := ok_is_integer fr xs  F_is_integer
    have d_is_integer_1 : Def P w K mg base (L2N.CX P w) 1 "is_integer" [] f_is_integer := Def.mk0 F_is_integer k_is_integer (He.glo_ok X G (c.fact 0 (f := .glo "is_integer") rfl)) fun _ _ _ _ _ _ us hl => match us, hl with | [_], _ => rfl
    have k_is_bit : FnOk P w K mg base (L2N.CX P w) 1 _ fd_is_bit P_is_bit (spOf P w K mg f_is_bit) := ok_is_bit fr xs  F_is_bit
    have d_is_bit_1 : Def P w K mg base (L2N.CX P w) 1 "is_bit" [] f_is_bit := Def.mk0 F_is_bit k_is_bit (He.glo_ok X G (c.fact 1 (f := .glo "is_bit") rfl)) fun _ _ _ _ _ _ us hl => match us, hl with | [_], _ => rfl
    have k_is_from_to : FnOk P w K mg base (L2N.CX P w) 2 _ fd_is_from_to P_is_from_to (spOf P w K mg f_is_from_to) := ok_is_from_to fr xs d_is_integer_1 F_is_from_to
    have d_is_from_to_3 : Def P w K mg base (L2N.CX P w) 2 "is_from_to" [] f_is_from_to := Def.mk0 F_is_from_to k_is_from_to (He.glo_ok X G (c.fact 2 (f := .glo "is_from_to") rfl)) fun _ _ _ _ _ _ us hl => match us, hl with | [_, _, _], _ => rfl
    have k_is_tuple_of : FnOk P w K mg base (L2N.CX P w) 1 _ fd_is_tuple_of P_is_tuple_of (spOf P w K mg f_is_tuple_of) := ok_is_tuple_of fr xs  F_is_tuple_of
    have d_is_tuple_of_3 : Def P w K mg base (L2N.CX P w) 1 "is_tuple_of" [] f_is_tuple_of := Def.mk0 F_is_tuple_of k_is_tuple_of (He.glo_ok X G (c.fact 3 (f := .glo "is_tuple_of") rfl)) fun _ _ _ _ _ _ us hl => match us, hl with | [_, _, _], _ => rfl
    have k_is_ascending : FnOk P w K mg base (L2N.CX P w) 1 _ fd_is_ascending P_is_ascending (spOf P w K mg f_is_ascending) := ok_is_ascending fr xs  F_is_ascending
    have d_is_ascending_1 : Def P w K mg base (L2N.CX P w) 1 "is_ascending" [] f_is_ascending := Def.mk0 F_is_ascending k_is_ascending (He.glo_ok X G (c.fact 4 (f := .glo "is_ascending") rfl)) fun _ _ _ _ _ _ us hl => match us, hl with | [_], _ => rfl
    have k_without_doubles : FnOk P w K mg base (L2N.CX P w) 1 _ fd_without_doubles P_without_doubles (spOf P w K mg f_without_doubles) := ok_without_doubles fr xs  F_without_doubles
    have d_without_doubles_1 : Def P w K mg base (L2N.CX P w) 1 "without_doubles" [] f_without_doubles := Def.mk0 F_without_doubles k_without_doubles (He.glo_ok X G (c.fact 5 (f := .glo "without_doubles") rfl)) fun _ _ _ _ _ _ us hl => match us, hl with | [_], _ => rfl
    have k_is_kind : FnOk P w K mg base (L2N.CX P w) 1 _ fd_is_kind P_is_kind (spOf P w K mg f_is_kind) := ok_is_kind fr xs  F_is_kind
    have d_is_kind_1 : Def P w K mg base (L2N.CX P w) 1 "is_kind" [] f_is_kind := Def.mk0 F_is_kind k_is_kind (He.glo_ok X G (c.fact 6 (f := .glo "is_kind") rfl)) fun _ _ _ _ _ _ us hl => match us, hl with | [_], _ => rfl
    have k_is_source : FnOk P w K mg base (L2N.CX P w) 3 _ fd_is_source P_is_source (spOf P w K mg f_is_source) := ok_is_source fr xs d_is_from_to_3 F_is_source
    have d_is_source_1 : Def P w K mg base (L2N.CX P w) 3 "is_source" [] f_is_source := Def.mk0 F_is_source k_is_source (He.glo_ok X G (c.fact 7 (f := .glo "is_source") rfl)) fun _ _ _ _ _ _ us hl => match us, hl with | [_], _ => rfl
    have k_is_kind_row : FnOk P w K mg base (L2N.CX P w) 2 _ fd_is_kind_row P_is_kind_row (spOf P w K mg f_is_kind_row) := ok_is_kind_row fr xs d_is_ascending_1 d_is_kind_1 d_is_tuple_of_3 F_is_kind_row
    have d_is_kind_row_2 : Def P w K mg base (L2N.CX P w) 2 "is_kind_row" [] f_is_kind_row := Def.mk0 F_is_kind_row k_is_kind_row (He.glo_ok X G (c.fact 8 (f := .glo "is_kind_row") rfl)) fun _ _ _ _ _ _ us hl => match us, hl with | [_, _], _ => rfl
    have k_is_kinds : FnOk P w K mg base (L2N.CX P w) 3 _ fd_is_kinds P_is_kinds (spOf P w K mg f_is_kinds) := ok_is_kinds fr xs d_is_kind_row_2 F_is_kinds
    have d_is_kinds_1 : Def P w K mg base (L2N.CX P w) 3 "is_kinds" [] f_is_kinds := Def.mk0 F_is_kinds k_is_kinds (He.glo_ok X G (c.fact 9 (f := .glo "is_kinds") rfl)) fun _ _ _ _ _ _ us hl => match us, hl with | [_], _ => rfl
    have k_is_term_over : FnOk P w K mg base (L2N.CX P w) 2 _ fd_is_term_over P_is_term_over (spOf P w K mg f_is_term_over) := ok_is_term_over fr xs d_is_bit_1 d_is_tuple_of_3 F_is_term_over
    have d_is_term_over_2 : Def P w K mg base (L2N.CX P w) 2 "is_term_over" [] f_is_term_over := Def.mk0 F_is_term_over k_is_term_over (He.glo_ok X G (c.fact 10 (f := .glo "is_term_over") rfl)) fun _ _ _ _ _ _ us hl => match us, hl with | [_, _], _ => rfl
    have k_is_word_and : FnOk P w K mg base (L2N.CX P w) 2 _ fd_is_word_and P_is_word_and (spOf P w K mg f_is_word_and) := ok_is_word_and fr xs d_is_tuple_of_3 F_is_word_and
    have d_is_word_and_2 : Def P w K mg base (L2N.CX P w) 2 "is_word_and" [] f_is_word_and := Def.mk0 F_is_word_and k_is_word_and (He.glo_ok X G (c.fact 11 (f := .glo "is_word_and") rfl)) fun _ _ _ _ _ _ us hl => match us, hl with | [_, _], _ => rfl
    have k_is_sentence_over : FnOk P w K mg base (L2N.CX P w) 3 _ fd_is_sentence_over P_is_sentence_over (spOf P w K mg f_is_sentence_over) := ok_is_sentence_over fr xs d_is_term_over_2 d_is_word_and_2 F_is_sentence_over
    have d_is_sentence_over_2 : Def P w K mg base (L2N.CX P w) 3 "is_sentence_over" [] f_is_sentence_over := Def.mk0 F_is_sentence_over k_is_sentence_over (He.glo_ok X G (c.fact 12 (f := .glo "is_sentence_over") rfl)) fun _ _ _ _ _ _ us hl => match us, hl with | [_, _], _ => rfl
    have k_is_entry : FnOk P w K mg base (L2N.CX P w) 4 _ fd_is_entry P_is_entry (spOf P w K mg f_is_entry) := ok_is_entry fr xs d_is_sentence_over_2 d_is_source_1 d_is_tuple_of_3 F_is_entry
    have d_is_entry_2 : Def P w K mg base (L2N.CX P w) 4 "is_entry" [] f_is_entry := Def.mk0 F_is_entry k_is_entry (He.glo_ok X G (c.fact 13 (f := .glo "is_entry") rfl)) fun _ _ _ _ _ _ us hl => match us, hl with | [_, _], _ => rfl
    have k_is_book : FnOk P w K mg base (L2N.CX P w) 5 _ fd_is_book P_is_book (spOf P w K mg f_is_book) := ok_is_book fr xs d_is_entry_2 d_is_kinds_1 d_is_tuple_of_3 d_without_doubles_1 F_is_book
    have d_is_book_1 : Def P w K mg base (L2N.CX P w) 5 "is_book" [] f_is_book := Def.mk0 F_is_book k_is_book (He.glo_ok X G (c.fact 14 (f := .glo "is_book") rfl)) fun _ _ _ _ _ _ us hl => match us, hl with | [_], _ => rfl
    have k_check_book : FnOk P w K mg base (L2N.CX P w) 6 _ fd_check_book P_check_book (spOf P w K mg f_check_book) := ok_check_book fr xs d_is_book_1 F_check_book
    have d_check_book_1 : Def P w K mg base (L2N.CX P w) 6 "check_book" [.str "book"] f_check_book := Def.mk1 1 0 F_check_book k_check_book (He.glo_ok X G (c.fact 15 (f := .glo "check_book") rfl)) (by simp [He.DefD.dvs, dd_check_book]) rfl (fun _ _ => .cons (.str "book") (.nil)) fun _ _ _ _ _ _ _ us its hl hi => match us, its, hl, hi with | [_], [_], _, _ => ⟨_, rfl, rfl⟩
    have k_sentences_among : FnOk P w K mg base (L2N.CX P w) 2 _ fd_sentences_among P_sentences_among (spOf P w K mg f_sentences_among) := ok_sentences_among fr xs d_without_doubles_1 F_sentences_among
    have d_sentences_among_1 : Def P w K mg base (L2N.CX P w) 2 "sentences_among" [] f_sentences_among := Def.mk0 F_sentences_among k_sentences_among (He.glo_ok X G (c.fact 16 (f := .glo "sentences_among") rfl)) fun _ _ _ _ _ _ us hl => match us, hl with | [_], _ => rfl
    have k_told_sentences : FnOk P w K mg base (L2N.CX P w) 7 _ fd_told_sentences P_told_sentences (spOf P w K mg f_told_sentences) := ok_told_sentences fr xs d_check_book_1 d_sentences_among_1 F_told_sentences
    have d_told_sentences_1 : Def P w K mg base (L2N.CX P w) 7 "told_sentences" [] f_told_sentences := Def.mk0 F_told_sentences k_told_sentences (He.glo_ok X G (c.fact 17 (f := .glo "told_sentences") rfl)) fun _ _ _ _ _ _ us hl => match us, hl with | [_], _ => rfl
    have k_sizes_of : FnOk P w K mg base (L2N.CX P w) 7 _ fd_sizes_of P_sizes_of (spOf P w K mg f_sizes_of) := ok_sizes_of fr xs d_check_book_1 d_sentences_among_1 F_sizes_of
    have d_sizes_of_1 : Def P w K mg base (L2N.CX P w) 7 "sizes_of" [] f_sizes_of := Def.mk0 F_sizes_of k_sizes_of (He.glo_ok X G (c.fact 18 (f := .glo "sizes_of") rfl)) fun _ _ _ _ _ _ us hl => match us, hl with | [_], _ => rfl
    have k_n__law_stream : FnOk P w K mg base (L2N.CX P w) 1 _ fd_n__law_stream P_n__law_stream (spOf P w K mg f_n__law_stream) := ok_n__law_stream fr xs  F_n__law_stream
    have d_n__law_stream_1 : Def P w K mg base (L2N.CX P w) 1 "_law_stream" [] f_n__law_stream := Def.mk0 F_n__law_stream k_n__law_stream (He.glo_ok X G (c.fact 19 (f := .glo "_law_stream") rfl)) fun _ _ _ _ _ _ us hl => match us, hl with | [_], _ => rfl
    have k_n__law_next : FnOk P w K mg base (L2N.CX P w) 1 _ fd_n__law_next P_n__law_next (spOf P w K mg f_n__law_next) := ok_n__law_next fr xs  F_n__law_next
    have d_n__law_next_2 : Def P w K mg base (L2N.CX P w) 1 "_law_next" [] f_n__law_next := Def.mk0 F_n__law_next k_n__law_next (He.glo_ok X G (c.fact 20 (f := .glo "_law_next") rfl)) fun _ _ _ _ _ _ us hl => match us, hl with | [_, _], _ => rfl
    have k_n__law_pick : FnOk P w K mg base (L2N.CX P w) 2 _ fd_n__law_pick P_n__law_pick (spOf P w K mg f_n__law_pick) := ok_n__law_pick fr xs d_n__law_next_2 F_n__law_pick
    have d_n__law_pick_2 : Def P w K mg base (L2N.CX P w) 2 "_law_pick" [] f_n__law_pick := Def.mk0 F_n__law_pick k_n__law_pick (He.glo_ok X G (c.fact 21 (f := .glo "_law_pick") rfl)) fun _ _ _ _ _ _ us hl => match us, hl with | [_, _], _ => rfl
    have k_n__law_says : FnOk P w K mg base (L2N.CX P w) 1 _ fd_n__law_says P_n__law_says (spOf P w K mg f_n__law_says) := ok_n__law_says fr xs  F_n__law_says
    have d_n__law_says_2 : Def P w K mg base (L2N.CX P w) 1 "_law_says" [] f_n__law_says := Def.mk0 F_n__law_says k_n__law_says (He.glo_ok X G (c.fact 22 (f := .glo "_law_says") rfl)) fun _ _ _ _ _ _ us hl => match us, hl with | [_, _], _ => rfl
    have k_n__law_same : FnOk P w K mg base (L2N.CX P w) 1 _ fd_n__law_same P_n__law_same (spOf P w K mg f_n__law_same) := ok_n__law_same fr xs  F_n__law_same
    have d_n__law_same_2 : Def P w K mg base (L2N.CX P w) 1 "_law_same" [] f_n__law_same := Def.mk0 F_n__law_same k_n__law_same (He.glo_ok X G (c.fact 23 (f := .glo "_law_same") rfl)) fun _ _ _ _ _ _ us hl => match us, hl with | [_, _], _ => rfl
    have k_n__law_kind : FnOk P w K mg base (L2N.CX P w) 3 _ fd_n__law_kind P_n__law_kind (spOf P w K mg f_n__law_kind) := ok_n__law_kind fr xs d_n__law_next_2 d_n__law_pick_2 F_n__law_kind
    have d_n__law_kind_1 : Def P w K mg base (L2N.CX P w) 3 "_law_kind" [] f_n__law_kind := Def.mk0 F_n__law_kind k_n__law_kind (He.glo_ok X G (c.fact 24 (f := .glo "_law_kind") rfl)) fun _ _ _ _ _ _ us hl => match us, hl with | [_], _ => rfl
    have k_n__law_kinds : FnOk P w K mg base (L2N.CX P w) 4 _ fd_n__law_kinds P_n__law_kinds (spOf P w K mg f_n__law_kinds) := ok_n__law_kinds fr xs d_n__law_kind_1 d_n__law_next_2 F_n__law_kinds
    have d_n__law_kinds_2 : Def P w K mg base (L2N.CX P w) 4 "_law_kinds" [] f_n__law_kinds := Def.mk0 F_n__law_kinds k_n__law_kinds (He.glo_ok X G (c.fact 25 (f := .glo "_law_kinds") rfl)) fun _ _ _ _ _ _ us hl => match us, hl with | [_, _], _ => rfl
    have k_n__law_bit : FnOk P w K mg base (L2N.CX P w) 2 _ fd_n__law_bit P_n__law_bit (spOf P w K mg f_n__law_bit) := ok_n__law_bit fr xs d_n__law_next_2 F_n__law_bit
    have d_n__law_bit_1 : Def P w K mg base (L2N.CX P w) 2 "_law_bit" [] f_n__law_bit := Def.mk0 F_n__law_bit k_n__law_bit (He.glo_ok X G (c.fact 26 (f := .glo "_law_bit") rfl)) fun _ _ _ _ _ _ us hl => match us, hl with | [_], _ => rfl
    have k_n__law_sentence : FnOk P w K mg base (L2N.CX P w) 3 _ fd_n__law_sentence P_n__law_sentence (spOf P w K mg f_n__law_sentence) := ok_n__law_sentence fr xs d_n__law_bit_1 d_n__law_next_2 d_n__law_pick_2 F_n__law_sentence
    have d_n__law_sentence_2 : Def P w K mg base (L2N.CX P w) 3 "_law_sentence" [] f_n__law_sentence := Def.mk0 F_n__law_sentence k_n__law_sentence (He.glo_ok X G (c.fact 27 (f := .glo "_law_sentence") rfl)) fun _ _ _ _ _ _ us hl => match us, hl with | [_, _], _ => rfl
    have k_n__law_numbered : FnOk P w K mg base (L2N.CX P w) 1 _ fd_n__law_numbered P_n__law_numbered (spOf P w K mg f_n__law_numbered) := ok_n__law_numbered fr xs  F_n__law_numbered
    have d_n__law_numbered_2 : Def P w K mg base (L2N.CX P w) 1 "_law_numbered" [] f_n__law_numbered := Def.mk0 F_n__law_numbered k_n__law_numbered (He.glo_ok X G (c.fact 28 (f := .glo "_law_numbered") rfl)) fun _ _ _ _ _ _ us hl => match us, hl with | [_, _], _ => rfl
    have k_n__law_entries : FnOk P w K mg base (L2N.CX P w) 4 _ fd_n__law_entries P_n__law_entries (spOf P w K mg f_n__law_entries) := ok_n__law_entries fr xs d_n__law_next_2 d_n__law_numbered_2 d_n__law_pick_2 d_n__law_sentence_2 F_n__law_entries
    have d_n__law_entries_3 : Def P w K mg base (L2N.CX P w) 4 "_law_entries" [] f_n__law_entries := Def.mk0 F_n__law_entries k_n__law_entries (He.glo_ok X G (c.fact 29 (f := .glo "_law_entries") rfl)) fun _ _ _ _ _ _ us hl => match us, hl with | [_, _, _], _ => rfl
    have k_n__law_different : FnOk P w K mg base (L2N.CX P w) 1 _ fd_n__law_different P_n__law_different (spOf P w K mg f_n__law_different) := ok_n__law_different fr xs  F_n__law_different
    have d_n__law_different_1 : Def P w K mg base (L2N.CX P w) 1 "_law_different" [] f_n__law_different := Def.mk0 F_n__law_different k_n__law_different (He.glo_ok X G (c.fact 30 (f := .glo "_law_different") rfl)) fun _ _ _ _ _ _ us hl => match us, hl with | [_], _ => rfl
    have k_n__law_is_term : FnOk P w K mg base (L2N.CX P w) 1 _ fd_n__law_is_term P_n__law_is_term (spOf P w K mg f_n__law_is_term) := ok_n__law_is_term fr xs  F_n__law_is_term
    have d_n__law_is_term_2 : Def P w K mg base (L2N.CX P w) 1 "_law_is_term" [] f_n__law_is_term := Def.mk0 F_n__law_is_term k_n__law_is_term (He.glo_ok X G (c.fact 31 (f := .glo "_law_is_term") rfl)) fun _ _ _ _ _ _ us hl => match us, hl with | [_, _], _ => rfl
    have k_n__law_told : FnOk P w K mg base (L2N.CX P w) 8 _ fd_n__law_told P_n__law_told (spOf P w K mg f_n__law_told) := ok_n__law_told fr xs d_n__law_same_2 d_sizes_of_1 d_told_sentences_1 dh_n__law_bad F_n__law_told
    have d_n__law_told_2 : Def P w K mg base (L2N.CX P w) 8 "_law_told" [] f_n__law_told := Def.mk0 F_n__law_told k_n__law_told (He.glo_ok X G (c.fact 32 (f := .glo "_law_told") rfl)) fun _ _ _ _ _ _ us hl => match us, hl with | [_, _], _ => rfl
    have k_n__law_kept : FnOk P w K mg base (L2N.CX P w) 9 _ fd_n__law_kept P_n__law_kept (spOf P w K mg f_n__law_kept) := ok_n__law_kept fr xs d_n__law_different_1 d_n__law_is_term_2 d_n__law_says_2 d_n__law_told_2 d_is_book_1 F_n__law_kept
    have d_n__law_kept_2 : Def P w K mg base (L2N.CX P w) 9 "_law_kept" [] f_n__law_kept := Def.mk0 F_n__law_kept k_n__law_kept (He.glo_ok X G (c.fact 33 (f := .glo "_law_kept") rfl)) fun _ _ _ _ _ _ us hl => match us, hl with | [_, _], _ => rfl
    have k_n__law_spoilt : FnOk P w K mg base (L2N.CX P w) 5 _ fd_n__law_spoilt P_n__law_spoilt (spOf P w K mg f_n__law_spoilt) := ok_n__law_spoilt fr xs d_n__law_kinds_2 d_n__law_next_2 d_n__law_pick_2 F_n__law_spoilt
    have d_n__law_spoilt_3 : Def P w K mg base (L2N.CX P w) 5 "_law_spoilt" [] f_n__law_spoilt := Def.mk0 F_n__law_spoilt k_n__law_spoilt (He.glo_ok X G (c.fact 34 (f := .glo "_law_spoilt") rfl)) fun _ _ _ _ _ _ us hl => match us, hl with | [_, _, _], _ => rfl
    have k_law : FnOk P w K mg base (L2N.CX P w) 10 _ fd_law P_law (spOf P w K mg f_law) := ok_law fr xs d_n__law_entries_3 d_n__law_is_term_2 d_n__law_kept_2 d_n__law_kinds_2 d_n__law_next_2 d_n__law_pick_2 d_n__law_says_2 d_n__law_spoilt_3 d_n__law_stream_1 d_n__law_told_2 d_is_book_1 F_law
    exact k_law
  exact fnOk0 k_law0
end G
/-- the row, from the plain law on the mirror -/
theorem G.holds_of (hlaw : ∀ ns : List Int, ns.length ≤ 63 → ∃ h', G.f_law [.scr (ns.map .int)] [] = .ok (.bl true) h') : PySem.Challenge.rw_morethan_k04_whole_books_and_their_limit.Holds := by
  open PySem PySem.W PySem.Calls PyProof.Rows in
  w_on; o_law
  refine HandSHeadRun.head_any (r := OpenLaw.row PySem.Challenge.rw_morethan_k04_whole_books_and_their_limit) (q := view (OpenLaw.row PySem.Challenge.rw_morethan_k04_whole_books_and_their_limit).prog [52]) (H := G.hk) (ob := G.hob) (M := 4000) (loose := G.loose) (d := HandSHeadRun.topDef (OpenLaw.row PySem.Challenge.rw_morethan_k04_whole_books_and_their_limit).prog 52) (kwd := []) G.hob_eq
    (by kernel_rfl) (fun s => by kernel_rfl) G.run (by kernel_rfl) (by kernel_rfl) (by kernel_rfl) (by rfl) (by first | assumption | decide +kernel) (by decide +kernel) ⟨rfl, rfl, rfl, rfl, rfl, by decide +kernel⟩ ?hw ?hc
  case hw => w_witness2
  case hc =>
    refine L2.walk_ofE (l := PySem.Challenge.rw_morethan_k04_whole_books_and_their_limit) (n := 63) (k := 10) (x := "script") (CX := L2.CX0) rfl (by decide) (by kernel_rfl) ⟨rfl, by decide, by decide⟩ ?F (fun _ _ _ _ z => z)
    intro w mg fa h Y G hmg0
    obtain ⟨K, KX, c⟩ := Y
    have hmg : mg ("law" : PySem.Str) = some (.ref fa) := by
      have e : (HandSHeadRun.topDef (OpenLaw.row PySem.Challenge.rw_morethan_k04_whole_books_and_their_limit).prog 52).name = ("law" : PySem.Str) := by kernel_rfl
      rw [← e]
      exact hmg0
    obtain ⟨fd, hb, hF⟩ := _root_.G.facts (P := (PySem.Challenge.rw_morethan_k04_whole_books_and_their_limit).prog) (w := w) KX G hmg c
    exact ⟨K, fd, (fun vs H Q _ => _root_.Q.spOf (PySem.Challenge.rw_morethan_k04_whole_books_and_their_limit).prog w K mg _root_.G.f_law vs H Q fun _ _ _ => False), KX, hb, fun H a ns hl hO hS => Q.sp_law hlaw hl hO hS, hF⟩

/-! Q12: evaluation. -/
namespace Q
open PySem PySem.Spec PyProof.Rows L2

/-! ### statements -/
def Out.seq (r : Out) (b : MS) : Out := match r with
  | .nx σ h => b σ h
  | r => r
section
variable {σ σ' : AS} {h h' : AH} {b : MS} {d : D} {e : Ex}
@[simp] theorem seq_nx : (Out.nx σ h).seq b = b σ h := rfl
@[simp] theorem seq_rt : (Out.rt d h).seq b = .rt d h := rfl
@[simp] theorem seq_bk : (Out.bk σ h).seq b = .bk σ h := rfl
@[simp] theorem seq_ct : (Out.ct σ h).seq b = .ct σ h := rfl
@[simp] theorem seq_ex : (Out.ex e σ h).seq b = .ex e σ h := rfl
@[simp] theorem seq_stuck : Out.stuck.seq b = .stuck := rfl
end
section
variable {a b : MS} {σ : AS} {h : AH} {m n : M} {r : ML} {t u : MB} {d x y : D} {i j : Nat} {f g : F2}
@[simp] theorem run_sCons : sCons a b σ h = (a σ h).seq b := rfl
@[simp] theorem run_sNil : sNil σ h = .nx σ h := rfl
@[simp] theorem run_sRet : sRet m σ h = (m σ h).andS σ fun d h1 => .rt d h1 := rfl
@[simp] theorem run_sRetN : sRetN σ h = .rt .non h := rfl
@[simp] theorem run_sExpr : sExpr m σ h = (m σ h).andS σ fun _ h1 => .nx σ h1 := rfl
@[simp] theorem run_sBreak : sBreak σ h = .bk σ h := rfl
@[simp] theorem run_sCont : sCont σ h = .ct σ h := rfl
@[simp] theorem run_sNever : sNever σ h = .stuck := rfl
@[simp] theorem run_sIf : sIf t a b σ h = (t σ h).andS σ fun k h1 => if k = true then a σ h1 else b σ h1 := rfl
@[simp] theorem run_sAsg {g : MG} : sAsg m g σ h = (m σ h).andS σ fun d h1 => stO (g d σ h1) := rfl
@[simp] theorem run_gSlot : gSlot i d σ h = some (σ.set i (some d), h) := rfl
@[simp] theorem run_gTupD {gs : List D → AS → AH → Option (AS × AH)} {k : Nat} {ds : List D} : gTupD k gs (.tup ds) σ h = if ds.length = k then gs ds σ h else none := rfl
@[simp] theorem run_gsNil : gsNil [] σ h = some (σ, h) := rfl
@[simp] theorem run_gsCons {k : Nat} {gs : List D → AS → AH → Option (AS × AH)} {ds : List D} : gsCons (gSlot k) gs (d :: ds) σ h = gs ds (σ.set k (some d)) h := rfl
/-! ### expressions -/
@[simp] theorem run_eVar0 : eVar 0 (some d :: σ) h = .ok d h := rfl
@[simp] theorem run_eVarS {x : Option D} : eVar (i + 1) (x :: σ) h = eVar i σ h := rfl
@[simp] theorem run_eC : eC d σ h = .ok d h := rfl
@[simp] theorem run_aNil : aNil σ h = .ok [] h := rfl
@[simp] theorem run_aCons : aCons m r σ h = (m σ h).bind fun d h1 => (r σ h1).bind fun ds h2 => .ok (d :: ds) h2 := rfl
@[simp] theorem run_eTup : eTup r σ h = (r σ h).bind fun ds h1 => if ds.length ≤ 16777216 then .ok (.tup ds) h1 else .stuck := rfl
@[simp] theorem run_eLst : eLst r σ h = (r σ h).bind fun ds h1 => if ds.length ≤ 16777216 then .ok (.fro ds) h1 else .stuck := rfl
@[simp] theorem run_eNewL : eNewL r σ h = (r σ h).bind fun ds h1 => if ds.length ≤ 16777216 then .ok (.ref h1.length) (h1 ++ [.lst ds]) else .stuck := rfl
@[simp] theorem run_eNewT : eNewT σ h = .ok (.ref h.length) (h ++ [.dt []]) := rfl
@[simp] theorem run_eOp : eOp f m n σ h = (m σ h).bind fun x h1 => (n σ h1).bind fun y h2 => lif (f x y h2) := rfl
/-- a two-way choice by a value -/
def dif (d : D) (x y : Res D) : Res D := match d with
  | .bl true => x
  | .bl false => y
  | _ => .stuck
@[simp] theorem dif_bl {k : Bool} {x y : Res D} : dif (.bl k) x y = if k = true then x else y := by cases k <;> rfl
@[simp] theorem run_eAnd : eAnd m n σ h = (m σ h).bind fun c h1 => dif c (n σ h1) (.ok (.bl false) h1) := by
  unfold eAnd
  refine congrArg _ (funext fun c => funext fun h1 => ?_)
  cases c with
  | bl k => cases k <;> rfl
  | _ => rfl
@[simp] theorem run_eOr : eOr m n σ h = (m σ h).bind fun c h1 => dif c (.ok (.bl true) h1) (n σ h1) := by
  unfold eOr
  refine congrArg _ (funext fun c => funext fun h1 => ?_)
  cases c with
  | bl k => cases k <;> rfl
  | _ => rfl
def dnot (d : D) (h : AH) : Res D := match d with
  | .bl k => .ok (.bl (!k)) h
  | _ => .stuck
@[simp] theorem dnot_bl {k : Bool} : dnot (.bl k) h = .ok (.bl (!k)) h := rfl
@[simp] theorem run_eNot : eNot m σ h = (m σ h).bind fun c h1 => dnot c h1 := rfl
@[simp] theorem run_eIf : eIf t m n σ h = (t σ h).bind fun c h1 => if c = true then m σ h1 else n σ h1 := rfl
@[simp] theorem run_eChain {c : M} : eChain f g m n c σ h = (m σ h).bind fun x h1 => (n σ h1).bind fun y h2 => (lif (f x y h2)).bind fun z h3 => dif z ((c σ h3).bind fun w h4 => lif (g y w h4)) (.ok (.bl false) h3) := by
  unfold eChain
  refine congrArg _ (funext fun x => funext fun h1 => congrArg _ (funext fun y => funext fun h2 => congrArg _ (funext fun z => funext fun h3 => ?_)))
  cases z with
  | bl k => cases k <;> rfl
  | _ => rfl
@[simp] theorem run_mB : mB m σ h = asB (m σ h) := rfl
@[simp] theorem run_tAnd : tAndM t u σ h = (t σ h).bind fun c h1 => if c = true then u σ h1 else .ok false h1 := rfl
@[simp] theorem run_tOr : tOrM t u σ h = (t σ h).bind fun c h1 => if c = true then .ok true h1 else u σ h1 := rfl
@[simp] theorem run_tNot : tNotM t σ h = (t σ h).bind fun c h1 => .ok (!c) h1 := rfl
@[simp] theorem run_tYes : tYesM σ h = .ok true h := rfl
@[simp] theorem run_eCall {g : FC} : eCall g r σ h = (r σ h).bind fun ds h1 => lif (g ds h1) := rfl
@[simp] theorem run_eFn {f : List D → AH → Res D} {dfl : List D} : eFn f dfl r σ h = (r σ h).bind fun ds h1 => f (ds ++ dfl) h1 := rfl
@[simp] theorem run_eMeth {T : String} {g : FM} : eMeth T g m r σ h = (m σ h).bind fun x h1 => if isT T h1 x = true then (r σ h1).bind fun ds h2 => lif (g x ds h2) else .stuck := rfl
def isiK (T : String) (h : AH) (x : D) : Res D := match tyD h x with
  | some t => match kitB t T with
    | some b => .ok (.bl b) h
    | none => .stuck
  | none => .stuck
@[simp] theorem run_eIsi {T : String} : eIsi T m σ h = (m σ h).bind fun x h1 => isiK T h1 x := rfl
@[simp] theorem run_eSl {f : FS} {lo hi : MO} : eSl f m lo hi σ h = (m σ h).bind fun x h1 => (lo σ h1).bind fun i h2 => (hi σ h2).bind fun j h3 => lif (f x i j h3) := rfl
@[simp] theorem run_oNil : oNil σ h = .ok none h := rfl
def dInt? (d : D) (h : AH) : Res (Option Int) := match d with
  | .int i => .ok (some i) h
  | _ => .stuck
@[simp] theorem dInt?_int {i : Int} : dInt? (.int i) h = .ok (some i) h := rfl
@[simp] theorem run_oSome : oSome m σ h = (m σ h).bind fun d h1 => dInt? d h1 := rfl
end
@[simp] theorem bind_ite {α β : Type} {c : Prop} [Decidable c] {x y : Res α} {f : α → AH → Res β} : (if c then x else y).bind f = if c then x.bind f else y.bind f := by split <;> rfl
@[simp] theorem retOf_seq_nil {r : Out} : retOf (r.seq sNil) = retOf r := by cases r <;> rfl

/-! ### isinstance -/
section
variable {h : AH} {b : Bool} {i : Int} {s : Str} {ds : List D}
theorem isi_of {T t : String} {x : D} {k : Bool} (h1 : tyD h x = some t) (h2 : kitB t T = some k) : isiK T h x = .ok (.bl k) h := by
  unfold isiK
  rw [h1]
  dsimp only
  rw [h2]
@[simp] theorem isi_int_int : isiK "int" h (.int i) = .ok (.bl true) h := isi_of rfl (by decide +kernel)
@[simp] theorem isi_int_bl : isiK "int" h (.bl b) = .ok (.bl true) h := isi_of rfl (by decide +kernel)
@[simp] theorem isi_int_str : isiK "int" h (.str s) = .ok (.bl false) h := isi_of rfl (by decide +kernel)
@[simp] theorem isi_int_tup : isiK "int" h (.tup ds) = .ok (.bl false) h := isi_of rfl (by decide +kernel)
@[simp] theorem isi_int_non : isiK "int" h .non = .ok (.bl false) h := isi_of rfl (by decide +kernel)
@[simp] theorem isi_int_fro : isiK "int" h (.fro ds) = .ok (.bl false) h := isi_of rfl (by decide +kernel)
@[simp] theorem isi_bool_int : isiK "bool" h (.int i) = .ok (.bl false) h := isi_of rfl (by decide +kernel)
@[simp] theorem isi_bool_bl : isiK "bool" h (.bl b) = .ok (.bl true) h := isi_of rfl (by decide +kernel)
@[simp] theorem isi_bool_str : isiK "bool" h (.str s) = .ok (.bl false) h := isi_of rfl (by decide +kernel)
@[simp] theorem isi_bool_tup : isiK "bool" h (.tup ds) = .ok (.bl false) h := isi_of rfl (by decide +kernel)
@[simp] theorem isi_bool_non : isiK "bool" h .non = .ok (.bl false) h := isi_of rfl (by decide +kernel)
@[simp] theorem isi_bool_fro : isiK "bool" h (.fro ds) = .ok (.bl false) h := isi_of rfl (by decide +kernel)
@[simp] theorem isi_str_int : isiK "str" h (.int i) = .ok (.bl false) h := isi_of rfl (by decide +kernel)
@[simp] theorem isi_str_bl : isiK "str" h (.bl b) = .ok (.bl false) h := isi_of rfl (by decide +kernel)
@[simp] theorem isi_str_str : isiK "str" h (.str s) = .ok (.bl true) h := isi_of rfl (by decide +kernel)
@[simp] theorem isi_str_tup : isiK "str" h (.tup ds) = .ok (.bl false) h := isi_of rfl (by decide +kernel)
@[simp] theorem isi_str_non : isiK "str" h .non = .ok (.bl false) h := isi_of rfl (by decide +kernel)
@[simp] theorem isi_str_fro : isiK "str" h (.fro ds) = .ok (.bl false) h := isi_of rfl (by decide +kernel)
@[simp] theorem isi_tuple_int : isiK "tuple" h (.int i) = .ok (.bl false) h := isi_of rfl (by decide +kernel)
@[simp] theorem isi_tuple_bl : isiK "tuple" h (.bl b) = .ok (.bl false) h := isi_of rfl (by decide +kernel)
@[simp] theorem isi_tuple_str : isiK "tuple" h (.str s) = .ok (.bl false) h := isi_of rfl (by decide +kernel)
@[simp] theorem isi_tuple_tup : isiK "tuple" h (.tup ds) = .ok (.bl true) h := isi_of rfl (by decide +kernel)
@[simp] theorem isi_tuple_non : isiK "tuple" h .non = .ok (.bl false) h := isi_of rfl (by decide +kernel)
@[simp] theorem isi_tuple_fro : isiK "tuple" h (.fro ds) = .ok (.bl false) h := isi_of rfl (by decide +kernel)
@[simp] theorem isi_list_int : isiK "list" h (.int i) = .ok (.bl false) h := isi_of rfl (by decide +kernel)
@[simp] theorem isi_list_bl : isiK "list" h (.bl b) = .ok (.bl false) h := isi_of rfl (by decide +kernel)
@[simp] theorem isi_list_str : isiK "list" h (.str s) = .ok (.bl false) h := isi_of rfl (by decide +kernel)
@[simp] theorem isi_list_tup : isiK "list" h (.tup ds) = .ok (.bl false) h := isi_of rfl (by decide +kernel)
@[simp] theorem isi_list_non : isiK "list" h .non = .ok (.bl false) h := isi_of rfl (by decide +kernel)
@[simp] theorem isi_list_fro : isiK "list" h (.fro ds) = .ok (.bl true) h := isi_of rfl (by decide +kernel)
end

/-! ### operators -/
section
variable {h : AH} {i j : Int} {b c : Bool} {s t : Str} {ds es : List D}
@[simp] theorem run_dInt {C : Int → Int → Prop} [∀ i j, Decidable (C i j)] {g : Int → Int → Int} : dInt C g (.int i) (.int j) h = if C i j then some (.int (g i j), h) else none := rfl
@[simp] theorem plus_int : dPlus (.int i) (.int j) h = some (.int (i + j), h) := rfl
theorem plus_str (hl : s.length + t.length ≤ 16777216) : dPlus (.str s) (.str t) h = some (.str (s ++ t), h) := by
  unfold dPlus dAdd
  dsimp only
  rw [if_pos hl]
theorem plus_tup (hl : ds.length + es.length ≤ 16777216) : dPlus (.tup ds) (.tup es) h = some (.tup (ds ++ es), h) := by
  unfold dPlus dAdd
  dsimp only
  rw [if_pos hl]
theorem plus_fro (hl : ds.length + es.length ≤ 16777216) : dPlus (.fro ds) (.fro es) h = some (.fro (ds ++ es), h) := by
  show (if ds.length + es.length ≤ 16777216 then some (D.fro (ds ++ es), h) else none) = _
  rw [if_pos hl]
theorem cmp_of {C g : PyData → PyData → Bool} {x y : D} {p q : PyData} (h1 : pdH h x = some p) (h2 : pdH h y = some q) (hc : C p q = true) (hd : p.depth ≤ 64) : dCmp C g x y h = some (.bl (g p q), h) := by
  unfold dCmp
  rw [h1, h2]
  exact if_pos ⟨hc, by omega⟩
theorem cmp_is {C g : PyData → PyData → Bool} {x y : D} {p q : PyData} {k : Bool} (h1 : pdH h x = some p) (h2 : pdH h y = some q) (hc : C p q = true) (hd : p.depth ≤ 64) (hg : g p q = k) : dCmp C g x y h = some (.bl k, h) := by
  rw [cmp_of h1 h2 hc hd, hg]
theorem beq_dec {α : Type} [BEq α] [LawfulBEq α] [DecidableEq α] (a b : α) : (a == b) = decide (a = b) := by rw [Bool.eq_iff_iff]; simp
theorem dep_int : PyData.depth (.int i) ≤ 64 := by simp [PyData.depth]
theorem dep_str : PyData.depth (.str s) ≤ 64 := by simp [PyData.depth]
theorem dep_bl : PyData.depth (.bool b) ≤ 64 := by simp [PyData.depth]
@[simp] theorem eq_int : dEq (.int i) (.int j) h = some (.bl (decide (i = j)), h) := cmp_is (p := .int i) (q := .int j) rfl rfl rfl dep_int (by simp only [PyData.eqv]; exact beq_dec _ _)
@[simp] theorem eq_str : dEq (.str s) (.str t) h = some (.bl (decide (s = t)), h) := cmp_is (p := .str s) (q := .str t) rfl rfl rfl dep_str (by simp only [PyData.eqv]; exact beq_dec _ _)
@[simp] theorem eq_bl : dEq (.bl b) (.bl c) h = some (.bl (b == c), h) := cmp_is (p := .bool b) (q := .bool c) rfl rfl rfl dep_bl (by simp only [PyData.eqv])
@[simp] theorem ne_int : dNe (.int i) (.int j) h = some (.bl (!decide (i = j)), h) := cmp_is (p := .int i) (q := .int j) rfl rfl rfl dep_int (by simp only [PyData.eqv]; rw [beq_dec])
@[simp] theorem ne_str : dNe (.str s) (.str t) h = some (.bl (!decide (s = t)), h) := cmp_is (p := .str s) (q := .str t) rfl rfl rfl dep_str (by simp only [PyData.eqv]; rw [beq_dec])
@[simp] theorem ne_bl : dNe (.bl b) (.bl c) h = some (.bl (!(b == c)), h) := cmp_is (p := .bool b) (q := .bool c) rfl rfl rfl dep_bl (by simp only [PyData.eqv])
@[simp] theorem lt_int' : dLt (.int i) (.int j) h = some (.bl (decide (i < j)), h) := cmp_is (p := .int i) (q := .int j) rfl rfl rfl dep_int (PySem.W.dataLt_int _ _)
@[simp] theorem gt_int' : dGt (.int i) (.int j) h = some (.bl (decide (j < i)), h) := cmp_is (p := .int i) (q := .int j) rfl rfl rfl dep_int (PySem.W.dataLt_int _ _)
@[simp] theorem le_int' : dLe (.int i) (.int j) h = some (.bl (decide (i ≤ j)), h) := cmp_is (p := .int i) (q := .int j) rfl rfl rfl dep_int (by rw [PySem.W.dataLt_int, Bool.eq_iff_iff]; simp)
@[simp] theorem ge_int' : dGe (.int i) (.int j) h = some (.bl (decide (j ≤ i)), h) := cmp_is (p := .int i) (q := .int j) rfl rfl rfl dep_int (by rw [PySem.W.dataLt_int, Bool.eq_iff_iff]; simp)
/-- texts by their signs -/
def strLt (s t : Str) : Bool := decide (s.cps.toList < t.cps.toList)
@[simp] theorem lt_str' : dLt (.str s) (.str t) h = some (.bl (strLt s t), h) := cmp_is (p := .str s) (q := .str t) rfl rfl rfl dep_str (PySem.W.dataLt_str _ _)
@[simp] theorem le_str' : dLe (.str s) (.str t) h = some (.bl (!strLt t s), h) := cmp_is (p := .str s) (q := .str t) rfl rfl rfl dep_str (by rw [PySem.W.dataLt_str]; rfl)
@[simp] theorem is_bl : dIs (.bl b) (.bl c) h = some (.bl (decide (b = c)), h) := rfl
@[simp] theorem isNot_bl : dIsNot (.bl b) (.bl c) h = some (.bl (!decide (b = c)), h) := rfl
@[simp] theorem isN_of {x : D} : dIsN x .non h = some (.bl (isNonD x), h) := rfl
@[simp] theorem notN_of {x : D} : dNotN x .non h = some (.bl (!isNonD x), h) := rfl
/-! ### places -/
@[simp] theorem atI_0 {α : Type} {x : α} {xs : List α} : atI (x :: xs) 0 = some x := by
  simp [atI, ixN]
@[simp] theorem atI_1 {α : Type} {x y : α} {xs : List α} : atI (x :: y :: xs) 1 = some y := by
  have h1 : (1 : Int) < (xs.length : Int) + 1 + 1 := by omega
  simp [atI, ixN, h1]
@[simp] theorem atI_2 {α : Type} {x y z : α} {xs : List α} : atI (x :: y :: z :: xs) 2 = some z := by
  have h1 : (2 : Int) < (xs.length : Int) + 1 + 1 + 1 := by omega
  simp [atI, ixN, h1]
theorem atI_n {α : Type} {xs : List α} {n : Nat} {x : α} (e : xs[n]? = some x) : atI xs (n : Int) = some x := by
  have hn := (List.getElem?_eq_some_iff.mp e).1
  have h1 : (n : Int) < (xs.length : Int) := by omega
  have h0 : (0 : Int) ≤ (n : Int) := by omega
  simp [atI, ixN, h1, h0, e]
theorem atI_i {α : Type} {xs : List α} {i : Int} (h0 : 0 ≤ i) (h1 : i < xs.length) : ∃ x, xs[i.toNat]? = some x ∧ atI xs i = some x := by
  have hn : i.toNat < xs.length := by omega
  refine ⟨xs[i.toNat], List.getElem?_eq_getElem hn, ?_⟩
  have := atI_n (List.getElem?_eq_getElem hn)
  rw [Int.toNat_of_nonneg h0] at this
  exact this
@[simp] theorem ix_tup' : dIx (.tup ds) (.int i) h = (atI ds i).map fun d => (d, h) := rfl
@[simp] theorem ix_fro' : dIx (.fro ds) (.int i) h = (atI ds i).map fun d => (d, h) := rfl
@[simp] theorem ix_scr' : dIx (.scr ds) (.int i) h = (atI ds i).map fun d => (d, h) := rfl
theorem ix_str'' (hl : s.length ≤ 16777216) : dIx (.str s) (.int i) h = (atI s.cps.toList i).map fun c => (.str ⟨#[c]⟩, h) := by
  show (if s.length ≤ 16777216 then _ else _) = _
  rw [if_pos hl]
theorem ssq_ref {n : Nat} (e : listAt h n = some ds) : ssq h (.ref n) = some ds := by
  have e2 := listAt_some e
  unfold ssq
  dsimp only
  rw [e2]
theorem listAt_obj {n : Nat} (e : listAt h n = some ds) : objAt h (.ref n) = some (.lst ds) := listAt_some e
theorem ix_ref {n : Nat} (e : listAt h n = some ds) : dIx (.ref n) (.int i) h = (atI ds i).map fun d => (d, h) := by
  unfold dIx
  rw [listAt_obj e]
  show (match ssq h (.ref n) with | some ds => _ | none => none) = _
  rw [show ssq h (.ref n) = some ds from ssq_ref e]
/-! ### len -/
@[simp] theorem len_tup' : gLen [.tup ds] h = some (.int ds.length, h) := rfl
@[simp] theorem len_fro' : gLen [.fro ds] h = some (.int ds.length, h) := rfl
@[simp] theorem len_scr' : gLen [.scr ds] h = some (.int ds.length, h) := rfl
theorem len_str' (hl : s.length ≤ 16777216) : gLen [.str s] h = some (.int s.length, h) := by
  show (if s.length ≤ 16777216 then _ else _) = _
  rw [if_pos hl]
theorem len_ref {n : Nat} (e : listAt h n = some ds) : gLen [.ref n] h = some (.int ds.length, h) := by
  unfold gLen
  dsimp only
  rw [listAt_obj e]
  show (match ssq h (.ref n) with | some ds => _ | none => none) = _
  rw [show ssq h (.ref n) = some ds from ssq_ref e]
@[simp] theorem int_int : gInt [.int i] h = some (.int i, h) := rfl
@[simp] theorem int_bl : gInt [.bl b] h = some (.int (if b then 1 else 0), h) := rfl
@[simp] theorem abs_int : gAbs [.int i] h = some (.int (if i < 0 then -i else i), h) := rfl
@[simp] theorem tuple_tup : gTuple [.tup ds] h = some (.tup ds, h) := rfl
@[simp] theorem tuple_fro : gTuple [.fro ds] h = some (.tup ds, h) := rfl
theorem tuple_ref {n : Nat} (e : listAt h n = some ds) : gTuple [.ref n] h = some (.tup ds, h) := by
  unfold gTuple
  show (match ssq h (.ref n) with | some ds => _ | none => none) = _
  rw [show ssq h (.ref n) = some ds from ssq_ref e]
@[simp] theorem listF_scr : gListF [.scr ds] h = some (.fro ds, h) := rfl
@[simp] theorem listF_tup : gListF [.tup ds] h = some (.fro ds, h) := rfl
@[simp] theorem listF_fro : gListF [.fro ds] h = some (.fro ds, h) := rfl
theorem bls_fro {f : List Bool → Bool} {bs : List Bool} : gBls f [.fro (bs.map .bl)] h = some (.bl (f bs), h) := by
  show (match asBls (bs.map .bl) with | some bs => _ | none => none) = _
  rw [asBls_map]
end
/-! ### loops -/
theorem listAt_eq {h : AH} {n : Nat} {ds : List D} (e : h[n]? = some (.lst ds)) : listAt h n = some ds := by
  unfold listAt; rw [e]
section
variable {G : AH → Prop} {g : MG} {body : MS} {t : MB} {m : M} {σ σ' : AS} {h h' : AH} {d : D} {ds acc : List D}
theorem forL_nil (hG : G h) : forL G g body [] σ h = .nx σ h := by rw [forL, if_pos hG]
theorem forL_cons (hG : G h) {σ1 : AS} {h1 : AH} (hg : g d σ h = some (σ1, h1)) : forL G g body (d :: ds) σ h = (match body σ1 h1 with
  | .nx σ2 h2 => forL G g body ds σ2 h2
  | .ct σ2 h2 => forL G g body ds σ2 h2
  | .bk σ2 h2 => .nx σ2 h2
  | r => r) := by
  rw [forL, if_pos hG, hg] <;> rfl
/-- a loop by an invariant of what is left, the slots and the heap -/
theorem forL_inv {R : Out → Prop} (I : List D → AS → AH → Prop) (hn : ∀ σ h, I [] σ h → G h ∧ R (.nx σ h))
    (hc : ∀ d ds σ h, I (d :: ds) σ h → G h ∧ ∃ σ1 h1, g d σ h = some (σ1, h1) ∧ (match body σ1 h1 with
      | .nx σ2 h2 => I ds σ2 h2
      | .ct σ2 h2 => I ds σ2 h2
      | .bk σ2 h2 => R (.nx σ2 h2)
      | r => R r)) : ∀ ds σ h, I ds σ h → R (forL G g body ds σ h)
  | [], σ, h, i => by
    obtain ⟨a, b⟩ := hn σ h i
    rw [forL_nil a]; exact b
  | d :: ds, σ, h, i => by
    obtain ⟨a, σ1, h1, e, q⟩ := hc d ds σ h i
    rw [forL_cons a e]
    cases eb : body σ1 h1 with
    | nx σ2 h2 => rw [eb] at q; exact forL_inv I hn hc ds σ2 h2 q
    | ct σ2 h2 => rw [eb] at q; exact forL_inv I hn hc ds σ2 h2 q
    | bk σ2 h2 => rw [eb] at q; exact q
    | rt a b => rw [eb] at q; exact q
    | ex a b c => rw [eb] at q; exact q
    | stuck => rw [eb] at q; exact q
@[simp] theorem run_sFor {it : MI} : sFor it g body σ h = (it σ h).andS σ fun p h1 => forL p.2 g body p.1 σ h1 := rfl
/-- a comprehension whose items leave the heap as it is -/
theorem lcL_map {p : D → Bool} {f : D → D} (hG : G h) : ∀ (ds acc : List D), (∀ d ∈ ds, ∃ σ1, g d σ h = some (σ1, h) ∧ t σ1 h = .ok (p d) h ∧ (p d = true → m σ1 h = .ok (f d) h)) → acc.length + ds.length ≤ 16777216 → lcL G g t m σ ds acc h = .ok (acc ++ (ds.filter p).map f) h
  | [], acc, _, _ => by rw [lcL, if_pos hG]; simp
  | d :: ds, acc, hd, hl => by
    obtain ⟨σ1, e1, e2, e3⟩ := hd d List.mem_cons_self
    rw [lcL, if_pos hG, e1]
    dsimp only
    rw [e2]
    cases hp : p d with
    | true =>
      dsimp only
      rw [e3 hp]
      dsimp only
      rw [List.length_cons] at hl
      rw [if_pos (by omega), lcL_map hG ds (acc ++ [f d]) (fun x hx => hd x (List.mem_cons_of_mem _ hx)) (by simp; omega)]
      simp [hp]
    | false =>
      dsimp only
      rw [List.length_cons] at hl
      rw [lcL_map hG ds acc (fun x hx => hd x (List.mem_cons_of_mem _ hx)) (by omega)]
      simp [hp]
/-- .. by an invariant -/
theorem lcL_inv {R : List D → AH → Prop} (I : List D → List D → AH → Prop) (hn : ∀ acc h, I [] acc h → G h ∧ R acc h)
    (hc : ∀ d ds acc h, I (d :: ds) acc h → G h ∧ ∃ σ1 h1 k h2, g d σ h = some (σ1, h1) ∧ t σ1 h1 = .ok k h2 ∧ (if k = true then ∃ y h3, m σ1 h2 = .ok y h3 ∧ acc.length < 16777216 ∧ I ds (acc ++ [y]) h3 else I ds acc h2)) :
    ∀ ds acc h, I ds acc h → ∃ out h', lcL G g t m σ ds acc h = .ok out h' ∧ R out h'
  | [], acc, h, i => by
    obtain ⟨a, b⟩ := hn acc h i
    exact ⟨acc, h, by rw [lcL, if_pos a], b⟩
  | d :: ds, acc, h, i => by
    obtain ⟨a, σ1, h1, k, h2, e1, e2, q⟩ := hc d ds acc h i
    rw [lcL, if_pos a, e1]
    dsimp only
    rw [e2]
    cases k with
    | true =>
      rw [if_pos rfl] at q
      obtain ⟨y, h3, e3, hl, q⟩ := q
      dsimp only
      rw [e3]
      dsimp only
      rw [if_pos hl]
      exact lcL_inv I hn hc ds _ h3 q
    | false =>
      rw [if_neg Bool.false_ne_true] at q
      exact lcL_inv I hn hc ds _ h2 q
@[simp] theorem run_eLc {it : MI} {vs : List Nat} : eLc it g t m vs σ h = (it σ h).bind fun p h1 => (lcL p.2 g t m (wipeA σ vs) p.1 [] h1).bind fun ds h2 => .ok (.fro ds) h2 := rfl
end
/-- what is walked -/
def seqK (x : D) (h1 : AH) : Res (List D × (AH → Prop)) := match x with
  | .str a => .ok (a.cps.toList.map fun c => .str ⟨#[c]⟩, fun _ => True) h1
  | .tup ds => .ok (ds, fun _ => True) h1
  | .fro ds => .ok (ds, fun _ => True) h1
  | .scr ds => .ok (ds, fun _ => True) h1
  | .ref n => match listAt h1 n with
    | some ds => .ok (ds, fun h => listAt h n = some ds) h1
    | none => .stuck
  | _ => .stuck
section
variable {σ : AS} {h : AH} {m n : M} {ds es : List D} {s : Str} {i j : Int}
@[simp] theorem run_iSeq : iSeq m σ h = (m σ h).bind fun x h1 => seqK x h1 := rfl
@[simp] theorem seqK_str : seqK (.str s) h = .ok (s.cps.toList.map fun c => .str ⟨#[c]⟩, fun _ => True) h := rfl
@[simp] theorem seqK_tup : seqK (.tup ds) h = .ok (ds, fun _ => True) h := rfl
@[simp] theorem seqK_fro : seqK (.fro ds) h = .ok (ds, fun _ => True) h := rfl
@[simp] theorem seqK_scr : seqK (.scr ds) h = .ok (ds, fun _ => True) h := rfl
theorem seqK_ref {k : Nat} (e : listAt h k = some ds) : seqK (.ref k) h = .ok (ds, fun h => listAt h k = some ds) h := by
  unfold seqK
  dsimp only
  rw [e]
def rngK (x : D) (h1 : AH) : Res (List D × (AH → Prop)) := match x with
  | .int j => if -(2 ^ 62) ≤ j ∧ j < 2 ^ 62 then .ok (rangeD 0 j.toNat, fun _ => True) h1 else .stuck
  | _ => .stuck
@[simp] theorem run_iRange1 : iRange1 m σ h = (m σ h).bind fun x h1 => rngK x h1 := rfl
@[simp] theorem rngK_int : rngK (.int j) h = if -(2 ^ 62) ≤ j ∧ j < 2 ^ 62 then .ok (rangeD 0 j.toNat, fun _ => True) h else .stuck := rfl
theorem rngK_of (h0 : -(2 ^ 62) ≤ j) (h1 : j < 2 ^ 62) : rngK (.int j) h = .ok (rangeD 0 j.toNat, fun _ => True) h := if_pos ⟨h0, h1⟩
def zipK (x y : D) (h2 : AH) : Res (List D × (AH → Prop)) := match x, y with
  | .tup as, .tup bs => .ok (zipD as bs, fun _ => True) h2
  | .fro as, .fro bs => .ok (zipD as bs, fun _ => True) h2
  | _, _ => .stuck
@[simp] theorem run_iZip : iZip m n σ h = (m σ h).bind fun x h1 => (n σ h1).bind fun y h2 => zipK x y h2 := rfl
@[simp] theorem zipK_tup : zipK (.tup ds) (.tup es) h = .ok (zipD ds es, fun _ => True) h := rfl
end
end Q
namespace Q
open PySem PySem.Spec PyProof.Rows L2
section
variable {h : AH} {s : Str} {ks ls : List Str} {σ : AS}
@[simp] theorem ite_bl {c : Prop} [Decidable c] {a b : Bool} : (if c then Res.ok (D.bl a) h else Res.ok (D.bl b) h) = .ok (.bl (if c then a else b)) h := by split <;> rfl
@[simp] theorem ite_okb {c : Prop} [Decidable c] {a b : Bool} : (if c then Res.ok a h else Res.ok b h) = .ok (if c then a else b) h := by split <;> rfl
/-! ### lists of texts -/
theorem pds_strs : ∀ ks : List Str, pds (ks.map .str) = some (ks.map .str)
  | [] => rfl
  | k :: ks => by
    show (match pd (.str k), pds (ks.map .str) with | some k, some ks => some (k :: ks) | _, _ => none) = _
    rw [pds_strs ks]; rfl
theorem depth_strs : ∀ ks : List Str, PyData.depthAll (ks.map .str) = 0
  | [] => by simp [PyData.depthAll]
  | k :: ks => by
    show PyData.depthAll (.str k :: ks.map .str) = 0
    rw [PyData.depthAll, depth_strs ks]; simp [PyData.depth]
theorem any_strs (ks : List Str) : (ks.map PyData.str).any (fun z => PyData.eqv z (.str s)) = decide (s ∈ ks) := by
  induction ks with
  | nil => rfl
  | cons k ks ih =>
    rw [List.map_cons, List.any_cons, ih]
    simp only [PyData.eqv, List.mem_cons, Bool.decide_or]
    rw [beq_dec, show decide (k = s) = decide (s = k) from by rw [Bool.eq_iff_iff]; simp [eq_comm]]
theorem in_tup : dIn false (.str s) (.tup (ks.map .str)) h = some (.bl (decide (s ∈ ks)), h) := by
  show dInS false (.str s) (.tup (ks.map .str)) h = _
  unfold dInS
  rw [show pd (.str s) = some (.str s) from rfl, show pdH h (.tup (ks.map .str)) = some (.tuple (ks.map .str)) from by
    show (pds (ks.map .str)).map PyData.tuple = _
    rw [pds_strs]; rfl]
  dsimp only
  rw [depth_strs, if_pos (by omega), any_strs, Bool.false_bne]
theorem in_ref {n : Nat} {neg : Bool} (e : listAt h n = some (ks.map .str)) : dIn neg (.str s) (.ref n) h = some (.bl (neg != decide (s ∈ ks)), h) := by
  have e2 := listAt_some e
  unfold dIn
  rw [listAt_obj e]
  show dInS neg (.str s) (.ref n) h = _
  unfold dInS
  rw [show pd (.str s) = some (.str s) from rfl, show pdH h (.ref n) = some (.list (ks.map .str)) from by
    unfold pdH
    dsimp only
    rw [e2]
    show (pds (ks.map .str)).map PyData.list = _
    rw [pds_strs]; rfl]
  dsimp only
  rw [depth_strs, if_pos (by omega), any_strs]
theorem eqv_strs : ∀ ks ls : List Str, PyData.eqvAll (ks.map .str) (ls.map .str) = decide (ks = ls)
  | [], [] => by simp [PyData.eqvAll]
  | [], l :: ls => by simp [PyData.eqvAll]
  | k :: ks, [] => by simp [PyData.eqvAll]
  | k :: ks, l :: ls => by
    show PyData.eqvAll (.str k :: ks.map .str) (.str l :: ls.map .str) = _
    rw [PyData.eqvAll, eqv_strs ks ls]
    simp only [PyData.eqv]
    rw [beq_dec, Bool.eq_iff_iff]
    simp
theorem eq_strs : dEq (.tup (ks.map .str)) (.tup (ls.map .str)) h = some (.bl (decide (ks = ls)), h) :=
  cmp_is (p := .tuple (ks.map .str)) (q := .tuple (ls.map .str)) (by show (pds _).map _ = _; rw [pds_strs]; rfl) (by show (pds _).map _ = _; rw [pds_strs]; rfl) rfl (by rw [PyData.depth, depth_strs]; omega) (by simp only [PyData.eqv]; exact eqv_strs _ _)
/-! ### all of a comprehension -/
@[simp] theorem all_true {n : Nat} : gAll [.fro (List.replicate n (.bl true))] h = some (.bl true, h) := by
  have := bls_fro (h := h) (f := fun bs => bs.all id) (bs := List.replicate n true)
  rw [List.map_replicate] at this
  refine this.trans ?_
  simp
theorem lc_all {G : AH → Prop} {g : MG} {m : M} {σ : AS} (hG : G h) (ds : List D) (hd : ∀ d ∈ ds, ∃ σ1, g d σ h = some (σ1, h) ∧ m σ1 h = .ok (.bl true) h) (hl : ds.length ≤ 16777216) : lcL G g tYesM m σ ds [] h = .ok (List.replicate ds.length (.bl true)) h := by
  rw [lcL_map (t := tYesM) (p := fun _ => true) (f := fun _ => .bl true) hG ds [] (fun d hm => let ⟨σ1, a, b⟩ := hd d hm; ⟨σ1, a, rfl, fun _ => b⟩) (by simpa using hl)]
  rw [List.filter_eq_self.mpr fun _ _ => rfl, List.nil_append, List.map_const']
theorem lc_map {G : AH → Prop} {g : MG} {m : M} {σ : AS} (f : D → D) (hG : G h) (ds : List D) (hd : ∀ d ∈ ds, ∃ σ1, g d σ h = some (σ1, h) ∧ m σ1 h = .ok (f d) h) (hl : ds.length ≤ 16777216) : lcL G g tYesM m σ ds [] h = .ok (ds.map f) h := by
  rw [lcL_map (t := tYesM) (p := fun _ => true) (f := f) hG ds [] (fun d hm => let ⟨σ1, a, b⟩ := hd d hm; ⟨σ1, a, rfl, fun _ => b⟩) (by simpa using hl)]
  rw [List.filter_eq_self.mpr fun _ _ => rfl, List.nil_append]
theorem mem_rangeD {lo : Int} {n : Nat} {d : D} (hd : d ∈ rangeD lo n) : ∃ i : Nat, i < n ∧ d = .int (lo + i) := by
  obtain ⟨i, hi, rfl⟩ := List.mem_map.mp hd
  exact ⟨i, List.mem_range.mp hi, rfl⟩
@[simp] theorem rangeD_len {lo : Int} {n : Nat} : (rangeD lo n).length = n := by simp [rangeD]
end
end Q

/-! Q13: dicts with tuple keys, by values. -/
namespace Q
open PySem PySem.Spec PyProof.Rows L2
theorem dtGet_nil {k : NestedKey} : dtGet [] k = none := rfl
theorem dtGet_cons {p : D × D} {kvs : List (D × D)} {k : NestedKey} : dtGet (p :: kvs) k = if nk p.1 = some k then some p.2 else dtGet kvs k := by
  unfold dtGet
  rw [List.find?_cons]
  by_cases e : nk p.1 = some k
  · simp [e]
  · simp [e]
theorem dtGet_append {kvs : List (D × D)} {p : D × D} {k : NestedKey} : dtGet (kvs ++ [p]) k = (match dtGet kvs k with | some v => some v | none => if nk p.1 = some k then some p.2 else none) := by
  induction kvs with
  | nil => rw [List.nil_append, dtGet_cons, dtGet_nil]
  | cons q kvs ih =>
    rw [List.cons_append, dtGet_cons, dtGet_cons]
    by_cases e : nk q.1 = some k
    · rw [if_pos e, if_pos e]
    · rw [if_neg e, if_neg e, ih]
theorem dtGet_map {kvs : List (D × D)} {k k' : NestedKey} {v : D} : dtGet (kvs.map fun p => if nk p.1 = some k then (p.1, v) else p) k' = if k' = k then (dtGet kvs k).map fun _ => v else dtGet kvs k' := by
  induction kvs with
  | nil =>
    simp only [List.map_nil, dtGet_nil]
    split <;> rfl
  | cons q kvs ih =>
    rw [List.map_cons, dtGet_cons, dtGet_cons, dtGet_cons, ih]
    by_cases e : nk q.1 = some k
    · rw [if_pos e]
      by_cases ek : k' = k
      · subst ek
        simp [e]
      · have ne : ¬ nk q.1 = some k' := by rw [e]; simp [Ne.symm ek]
        simp [ne, ek]
    · rw [if_neg e]
      by_cases ek : k' = k
      · subst ek
        simp [e]
      · simp [e, ek]
theorem dtGet_put {kvs : List (D × D)} {d v : D} {k k' : NestedKey} (hk : nk d = some k) : dtGet (dtPut kvs d k v) k' = if k' = k then some v else dtGet kvs k' := by
  unfold dtPut
  split
  · rename_i hs
    rw [dtGet_map]
    split
    · obtain ⟨u, hu⟩ := Option.isSome_iff_exists.mp hs
      rw [hu]; rfl
    · rfl
  · rename_i hs
    rw [dtGet_append]
    have hn : dtGet kvs k = none := by
      cases e : dtGet kvs k with
      | none => rfl
      | some u => rw [e] at hs; exact absurd rfl hs
    by_cases ek : k' = k
    · subst ek
      rw [hn]
      simp [hk]
    · have ne : ¬ nk d = some k' := by rw [hk]; simp [Ne.symm ek]
      cases dtGet kvs k' <;> simp [ne, ek]
/-- values as keys -/
structure KeyEnc (α : Type) [DecidableEq α] where
  enc : α → D
  key : α → NestedKey
  nk : ∀ a, nk (enc a) = some (key a)
  dep : ∀ a, (key a).depth ≤ 8
  inj : ∀ a b, key a = key b → a = b
  tup : ∀ a, ∃ ds, enc a = .tup ds
  clo : ∀ n a, closed n (enc a) = true
variable {α : Type} [DecidableEq α] (E : KeyEnc α)
theorem KeyEnc.tkey (a : α) : tkey (E.enc a) = some (E.key a) := by
  obtain ⟨ds, e⟩ := E.tup a
  have h1 := E.nk a
  rw [e] at h1 ⊢
  unfold Q.tkey
  dsimp only
  rw [h1]
  exact if_pos (E.dep a)
/-- a dict that tells which stand in it -/
def KeyEnc.set (as : List α) : List (D × D) := as.map fun a => (E.enc a, .bl true)
theorem KeyEnc.get (as : List α) (a : α) : dtGet (E.set as) (E.key a) = if a ∈ as then some (.bl true) else none := by
  induction as with
  | nil => rfl
  | cons b as ih =>
    show dtGet ((E.enc b, .bl true) :: E.set as) _ = _
    rw [dtGet_cons, ih, E.nk]
    by_cases e : b = a
    · subst e; simp
    · have ne : ¬ some (E.key b) = some (E.key a) := fun z => e (E.inj _ _ (Option.some.inj z))
      have ne2 : ¬ a = b := fun z => e z.symm
      simp [ne, ne2]
def add (as : List α) (a : α) : List α := if a ∈ as then as else as ++ [a]
theorem KeyEnc.put (as : List α) (a : α) : dtPut (E.set as) (E.enc a) (E.key a) (.bl true) = E.set (add as a) := by
  unfold dtPut add
  rw [E.get]
  by_cases e : a ∈ as
  · rw [if_pos e, if_pos e]
    simp only [Option.isSome_some, if_true]
    unfold KeyEnc.set
    rw [List.map_map]
    refine List.map_congr_left fun b _ => ?_
    show (if _ then _ else _) = _
    split <;> rfl
  · rw [if_neg e, if_neg e]
    simp only [Option.isSome_none, Bool.false_eq_true, if_false]
    simp [KeyEnc.set]
/-- the different ones, each where it stands first -/
def ddp : List α → List α → List α
  | acc, [] => acc
  | acc, a :: as => ddp (add acc a) as
theorem add_nodup {as : List α} {a : α} (h : as.Nodup) : (add as a).Nodup := by
  unfold add
  split
  · exact h
  · rename_i hn
    rw [List.nodup_append]
    exact ⟨h, by simp, fun b hb c hc => by rw [List.mem_singleton.mp hc]; exact fun z => hn (z ▸ hb)⟩
theorem ddp_nodup : ∀ (bs acc : List α), acc.Nodup → (ddp acc bs).Nodup
  | [], _, h => h
  | b :: bs, acc, h => ddp_nodup bs _ (add_nodup h)
theorem mem_add {as : List α} {a b : α} : b ∈ add as a ↔ b ∈ as ∨ b = a := by
  unfold add
  split
  · rename_i h
    exact ⟨.inl, fun z => z.elim id fun z => z ▸ h⟩
  · simp
theorem mem_ddp {b : α} : ∀ (bs acc : List α), b ∈ ddp acc bs ↔ b ∈ acc ∨ b ∈ bs
  | [], acc => by simp [ddp]
  | c :: bs, acc => by
    rw [ddp, mem_ddp bs, mem_add]
    simp only [List.mem_cons]
    constructor
    · rintro ((h | h) | h)
      · exact .inl h
      · exact .inr (.inl h)
      · exact .inr (.inr h)
    · rintro (h | h | h)
      · exact .inl (.inl h)
      · exact .inl (.inr h)
      · exact .inr h
theorem len_add {as : List α} {a : α} : (add as a).length ≤ as.length + 1 := by
  unfold add
  split <;> simp
theorem len_ddp : ∀ (bs acc : List α), (ddp acc bs).length ≤ acc.length + bs.length
  | [], acc => by simp [ddp]
  | c :: bs, acc => by
    have h1 := len_ddp bs (add acc c)
    have h2 := len_add (as := acc) (a := c)
    rw [ddp, List.length_cons]
    omega
theorem ddp_id : ∀ (bs acc : List α), (acc ++ bs).Nodup → ddp acc bs = acc ++ bs
  | [], acc, _ => by simp [ddp]
  | c :: bs, acc, h => by
    have hn : c ∉ acc := fun z => by
      rw [List.nodup_append] at h
      exact h.2.2 c z c List.mem_cons_self rfl
    rw [ddp, add, if_neg hn, ddp_id bs _ (by simpa using h)]
    simp
/-! ### the last object of the heap -/
section
variable {h : AH} {o o' : O} {d v : D} {ds : List D} {n : Nat}
@[simp] theorem last_get : (h ++ [o])[h.length]? = some o := by simp
@[simp] theorem last_obj : objAt (h ++ [o]) (.ref h.length) = some o := last_get
@[simp] theorem last_set : (h ++ [o]).set h.length o' = h ++ [o'] := by simp
@[simp] theorem last_list : listAt (h ++ [.lst ds]) h.length = some ds := listAt_eq last_get
theorem objAt_app (hn : n < h.length) {g : AH} : objAt (h ++ g) (.ref n) = objAt h (.ref n) := List.getElem?_append_left hn
theorem listAt_app (hn : n < h.length) {g : AH} : listAt (h ++ g) n = listAt h n := by
  unfold listAt
  rw [List.getElem?_append_left hn]
theorem set_app {g : AH} (hn : n < h.length) : (h ++ g).set n o = h.set n o ++ g := by
  rw [List.set_append_left _ _ hn]
theorem in_set {as : List α} {a : α} {neg : Bool} {r : Nat} (e : objAt h (.ref r) = some (.dt (E.set as))) : dIn neg (E.enc a) (.ref r) h = some (.bl (neg != decide (a ∈ as)), h) := by
  unfold dIn
  rw [e]
  dsimp only
  rw [E.tkey]
  dsimp only
  rw [E.get]
  by_cases ha : a ∈ as <;> simp [ha]
theorem set_set {as : List α} {a : α} (hl : as.length < 16777216) : dSet (.ref h.length) (E.enc a) (.bl true) (h ++ [.dt (E.set as)]) = some (h ++ [.dt (E.set (add as a))]) := by
  unfold dSet
  dsimp only
  rw [last_get]
  dsimp only
  rw [E.tkey]
  dsimp only
  rw [if_pos (by simpa [KeyEnc.set] using hl), E.put, last_set]
theorem list_set {as : List α} : gListF [.ref h.length] (h ++ [.dt (E.set as)]) = some (.fro (as.map E.enc), h ++ [.dt (E.set as)]) := by
  unfold gListF itemsOf
  dsimp only
  rw [last_obj]
  dsimp only
  rw [show (E.set as).map (·.1) = as.map E.enc from by simp [KeyEnc.set]]
theorem closeds_map : ∀ (as : List α), closeds n (as.map E.enc) = true
  | [] => rfl
  | a :: as => by
    rw [List.map_cons, closeds, E.clo, closeds_map as]; rfl
end
/-- nothing but what was there -/
theorem okT_app {h : AH} : ∀ o ∈ h, o ∈ h ∨ closedO h.length o = true := fun _ m => .inl m
end Q

/-! Q14: comprehensions over encoded lists. -/
namespace Q
open PySem PySem.Spec PyProof.Rows L2
section
variable {G : AH → Prop} {g : MG} {t : MB} {m : M} {σ : AS} {h : AH} {α : Type}
theorem lc_encA (e1 f : α → D) (hG : G h) : ∀ (xs : List α) (acc : List D), (∀ x ∈ xs, ∃ σ1, g (e1 x) σ h = some (σ1, h) ∧ m σ1 h = .ok (f x) h) → acc.length + xs.length ≤ 16777216 → lcL G g tYesM m σ (xs.map e1) acc h = .ok (acc ++ xs.map f) h
  | [], acc, _, _ => by rw [List.map_nil, lcL, if_pos hG]; simp
  | x :: xs, acc, hd, hl => by
    obtain ⟨σ1, a, b⟩ := hd x List.mem_cons_self
    rw [List.length_cons] at hl
    rw [List.map_cons, lcL, if_pos hG, a]
    dsimp only
    rw [run_tYes]
    dsimp only
    rw [b]
    dsimp only
    rw [if_pos (by omega), lc_encA e1 f hG xs _ (fun y hy => hd y (List.mem_cons_of_mem _ hy)) (by simp; omega)]
    simp
theorem lc_enc (e1 f : α → D) (hG : G h) (xs : List α) (hd : ∀ x ∈ xs, ∃ σ1, g (e1 x) σ h = some (σ1, h) ∧ m σ1 h = .ok (f x) h) (hl : xs.length ≤ 16777216) : lcL G g tYesM m σ (xs.map e1) [] h = .ok (xs.map f) h := by
  rw [lc_encA e1 f hG xs [] hd (by simpa using hl)]
  simp
/-- a comprehension that changes the heap: what holds of the heap (J) and of each item (T) -/
theorem lc_run {J : AH → Prop} {T : D → Prop} (hG : ∀ h, J h → G h) : ∀ (ds acc : List D) (h : AH), J h → (∀ d ∈ ds, ∀ h, J h → ∃ σ1 y h2, g d σ h = some (σ1, h) ∧ m σ1 h = .ok y h2 ∧ J h2 ∧ T y) → acc.length + ds.length ≤ 16777216 →
    ∃ ys h', lcL G g tYesM m σ ds acc h = .ok (acc ++ ys) h' ∧ J h' ∧ ys.length = ds.length ∧ ∀ y ∈ ys, T y
  | [], acc, h, j, _, _ => ⟨[], h, by rw [lcL, if_pos (hG h j)]; simp, j, rfl, by simp⟩
  | d :: ds, acc, h, j, hd, hl => by
    obtain ⟨σ1, y, h2, a, b, j2, ty⟩ := hd d List.mem_cons_self h j
    rw [List.length_cons] at hl
    obtain ⟨ys, h', e, j', l, tys⟩ := lc_run hG ds (acc ++ [y]) h2 j2 (fun x hx => hd x (List.mem_cons_of_mem _ hx)) (by simp; omega)
    refine ⟨y :: ys, h', ?_, j', by rw [List.length_cons, List.length_cons, l], fun z hz => ?_⟩
    · rw [lcL, if_pos (hG h j), a]
      dsimp only
      rw [run_tYes]
      dsimp only
      rw [b]
      dsimp only
      rw [if_pos (by omega), e]
      simp
    · rcases List.mem_cons.mp hz with rfl | hz
      · exact ty
      · exact tys z hz
end
end Q

/-! Q21: exceptions, evaluated. -/
namespace Q
open PySem PySem.Spec PyProof.Rows L2
section
variable {σ σ1 : AS} {h h1 : AH} {m : M} {r : ML} {c n f : Str} {ns : List Str} {xs : List D} {ct : Ct} {i : Nat} {body : MS} {suite : Addr → Addr → Str → MS} {a d : Addr} {fs : Str → List Str} {v : D} {b : Bool}
noncomputable def tryK (c : Ct) (i : Nat) (suite : Addr → Addr → Str → MS) : Out → Out
  | .ex e σ1 h1 => match c e.cls with
    | some true => agree fun a d => (suite a d e.cls (σ1.set i (some (.exn a d e.cls e.ns e.xs))) h1).gone i
    | some false => .ex e σ1 h1
    | none => .stuck
  | r => r
@[simp] theorem run_sTryAs : sTryAs ct i body suite σ h = tryK ct i suite (body σ h) := by
  unfold sTryAs tryK
  cases body σ h <;> rfl
@[simp] theorem tryK_nx : tryK ct i suite (.nx σ h) = .nx σ h := rfl
@[simp] theorem tryK_rt : tryK ct i suite (.rt v h) = .rt v h := rfl
@[simp] theorem tryK_bk : tryK ct i suite (.bk σ h) = .bk σ h := rfl
@[simp] theorem tryK_ct : tryK ct i suite (.ct σ h) = .ct σ h := rfl
theorem tryK_ex (hc : ct c = some true) : tryK ct i suite (.ex ⟨c, ns, xs⟩ σ h) = agree fun a d => (suite a d c (σ.set i (some (.exn a d c ns xs))) h).gone i := by
  show (match ct c with | some true => _ | some false => _ | none => _) = _
  rw [hc]
theorem tryK_no (hc : ct c = some false) : tryK ct i suite (.ex ⟨c, ns, xs⟩ σ h) = .ex ⟨c, ns, xs⟩ σ h := by
  show (match ct c with | some true => _ | some false => _ | none => _) = _
  rw [hc]
@[simp] theorem run_sRaise : sRaise c ns r σ h = (r σ h).andS σ fun xs h1 => if xs.length = ns.length ∧ ns.length ≤ 1000 then .ex ⟨c, ns.reverse, xs.reverse⟩ σ h1 else .stuck := rfl
@[simp] theorem run_eFnH {g : List D → AH → Res D} : eFnH g r σ h = (r σ h).bind fun ds h1 => (g ds h1).shut := rfl
def fldK (fs : Str → List Str) (a d : Addr) (c f : Str) (x : D) (h1 : AH) : Res D := match x with
  | .exn a' d' _ ns xs => if (a' = a ∧ d' = d) ∧ f ∈ fs c then (match (ns.zip xs).lookup f with
    | some v => .ok v h1
    | none => .stuck) else .stuck
  | _ => .stuck
@[simp] theorem run_eFld : eFld fs a d c f m σ h = (m σ h).bind fun x h1 => fldK fs a d c f x h1 := rfl
theorem fldK_exn (hf : f ∈ fs c) (hv : (ns.zip xs).lookup f = some v) : fldK fs a d c f (.exn a d n ns xs) h = .ok v h := by
  unfold fldK
  dsimp only
  rw [if_pos ⟨⟨rfl, rfl⟩, hf⟩, hv]
def isxK (fs : Str → List Str) (ct : Ct) (a d : Addr) (c : Str) (x : D) (h1 : AH) : Res D := match x with
  | .exn a' d' _ _ _ => if (a' = a ∧ d' = d) ∧ fs c ≠ [] then (match ct c with
    | some b => .ok (.bl b) h1
    | none => .stuck) else .stuck
  | _ => .stuck
@[simp] theorem run_eIsX : eIsX fs ct a d c m σ h = (m σ h).bind fun x h1 => isxK fs ct a d c x h1 := rfl
theorem isxK_exn (hf : fs c ≠ []) (hv : ct c = some b) : isxK fs ct a d c (.exn a d n ns xs) h = .ok (.bl b) h := by
  unfold isxK
  dsimp only
  rw [if_pos ⟨⟨rfl, rfl⟩, hf⟩, hv]
end
end Q

namespace P
open PySem PySem.Spec PyProof.Rows L2 Q G
variable {h : AH} {i j k : Int} {s t : Str} {b : Bool} {ds : List Q.D}
theorem r_is_integer : f_is_integer [.int i] h = .ok (.bl true) h := by
  rw [e_is_integer]
  simp [m_is_integer, trim_same]
theorem r_is_bit : f_is_bit [.bl b] h = .ok (.bl true) h := by
  rw [e_is_bit]
  simp [m_is_bit, trim_same]
theorem r_is_from_to : f_is_from_to [.int i, .int j, .int k] h = .ok (.bl (decide (j ≤ i) && decide (i ≤ k))) h := by
  rw [e_is_from_to]
  simp [m_is_from_to, trim_same, r_is_integer]
theorem r_is_tuple_of : f_is_tuple_of [.tup ds, .int j, .int k] h = .ok (.bl (decide (j ≤ ds.length) && decide (ds.length ≤ k))) h := by
  rw [e_is_tuple_of]
  simp [m_is_tuple_of, trim_same]
/-! ### kinds -/
def low (c : Nat) : Prop := 97 ≤ c ∧ c ≤ 122
def dig (c : Nat) : Prop := 48 ≤ c ∧ c ≤ 57
structure Kind (s : Str) : Prop where
  len : s.cps.size ≤ 12
  fst : ∃ c r, s.cps.toList = c :: r ∧ low c
  all : ∀ c ∈ s.cps.toList, low c ∨ dig c
theorem one_lt {c d : Nat} : strLt ⟨#[c]⟩ ⟨#[d]⟩ = decide (c < d) := by
  unfold strLt
  rw [Bool.eq_iff_iff]
  simp [List.cons_lt_cons_iff]
theorem Kind.pos (K : Kind s) : 1 ≤ s.cps.size := by
  obtain ⟨c, r, e, _⟩ := K.fst
  rw [← Array.length_toList, e]; simp
theorem r_is_kind (K : Kind s) : f_is_kind [.str s] h = .ok (.bl true) h := by
  have h1 := K.pos
  have h2 := K.len
  obtain ⟨c, r, e, hc⟩ := K.fst
  rw [e_is_kind]
  have hl : s.length = s.cps.size := rfl
  have e1 : ("a" : Str) = ⟨#[97]⟩ := rfl
  have e2 : ("z" : Str) = ⟨#[122]⟩ := rfl
  have e3 : ("0" : Str) = ⟨#[48]⟩ := rfl
  have e4 : ("9" : Str) = ⟨#[57]⟩ := rfl
  have e0 : atI s.cps.toList 0 = some c := by rw [e]; simp
  have hn : ¬((s.cps.size : Int) < 1 ∨ 12 < (s.cps.size : Int)) := by omega
  obtain ⟨c1, c2⟩ := hc
  have d1 : decide (c < 97) = false := decide_eq_false (by omega)
  have d2 : decide (122 < c) = false := decide_eq_false (by omega)
  simp [m_is_kind, len_str' (s := s) (h := h) (by omega), hl, ix_str'' (s := s) (h := h) (by omega), e0, K_MOST_SIGNS, hn, e1, e2, e3, e4, one_lt, d1, d2]
  rw [lc_all trivial]
  · simp [all_true, trim_same]
  · intro d hd
    obtain ⟨c', hc', rfl⟩ := List.mem_map.mp hd
    refine ⟨_, rfl, ?_⟩
    rcases K.all c' hc' with ⟨q1, q2⟩ | ⟨q1, q2⟩
    · have d1 : decide (c' < 97) = false := decide_eq_false (by omega)
      have d2 : decide (122 < c') = false := decide_eq_false (by omega)
      simp [one_lt, d1, d2, wipeA]
    · have d1 : decide (c' < 48) = false := decide_eq_false (by omega)
      have d2 : decide (57 < c') = false := decide_eq_false (by omega)
      simp [one_lt, d1, d2, wipeA]
  · simp
    omega
def ksD (ks : List Str) : Q.D := .tup (ks.map .str)
/-- ascending -/
def Asc (ks : List Str) : Prop := ks.Pairwise fun a b => strLt a b = true
structure Kinds (ks : List Str) : Prop where
  kind : ∀ k ∈ ks, Kind k
  asc : Asc ks
  pos : 1 ≤ ks.length
  most : ks.length ≤ 30
variable {ks : List Str}
theorem r_is_ascending (ha : Asc ks) (hl : ks.length ≤ 1000) : f_is_ascending [ksD ks] h = .ok (.bl true) h := by
  rw [e_is_ascending]
  have hb : -(2 ^ 62 : Int) ≤ (ks.length : Int) - 1 ∧ (ks.length : Int) - 1 < 2 ^ 62 := by omega
  simp [m_is_ascending, ksD, rngK_of hb.1 hb.2]
  rw [lc_all trivial]
  · simp [trim_same]
  · intro d hd
    obtain ⟨i, hi, rfl⟩ := mem_rangeD hd
    refine ⟨_, rfl, ?_⟩
    have h1 : i < ks.length := by omega
    have h2 : i + 1 < ks.length := by omega
    have a1 : atI (ks.map D.str) (i : Int) = some (.str ks[i]) := atI_n (by simp [h1])
    have a2 : atI (ks.map D.str) ((i : Int) + 1) = some (.str ks[i + 1]) := by
      have := atI_n (xs := ks.map D.str) (n := i + 1) (x := .str ks[i + 1]) (by simp [h2])
      simpa using this
    have lt : strLt ks[i] ks[i + 1] = true := List.pairwise_iff_getElem.mp ha i (i + 1) h1 h2 (by omega)
    simp [wipeA, a1, a2, lt]
  · simp
    omega
theorem r_is_kind_row (K : Kinds ks) : f_is_kind_row [ksD ks, .int 1] h = .ok (.bl true) h := by
  have h1 := K.pos
  have h2 := K.most
  rw [e_is_kind_row]
  have ha := r_is_ascending (h := h) K.asc (by omega)
  have ht : f_is_tuple_of [ksD ks, .int 1, .int 30] h = .ok (.bl true) h := by
    rw [ksD, r_is_tuple_of]
    simp
    omega
  simp [m_is_kind_row, K_MOST_KINDS, ha, ht]
  unfold ksD
  simp
  rw [lc_all trivial]
  · simp [trim_same]
    rw [← ksD, ha]
    simp [trim_same]
  · intro d hd
    obtain ⟨k, hk, rfl⟩ := List.mem_map.mp hd
    exact ⟨_, rfl, by simp [wipeA, r_is_kind (K.kind k hk)]⟩
  · simp
    omega
theorem r_is_kinds (K : Kinds ks) : f_is_kinds [ksD ks] h = .ok (.bl true) h := by
  rw [e_is_kinds]
  simp [m_is_kinds, r_is_kind_row K, trim_same]
end P

namespace P
open PySem PySem.Spec PyProof.Rows L2 Q G
variable {h : AH} {i j k : Int} {s t : Str} {b : Bool} {ds : List Q.D} {ks os : List Str}
/-! ### terms, sentences -/
abbrev Tm := Str × Bool
def tmD (t : Tm) : Q.D := .tup [.str t.1, .bl t.2]
def flp (t : Tm) : Tm := (t.1, !t.2)
structure Sen where
  w : Str
  a : Tm
  b : Tm
  deriving DecidableEq
def snD (s : Sen) : Q.D := .tup [.str s.w, tmD s.a, tmD s.b]
def WD : List Str := ["all", "many", "more", "some"]
@[simp] theorem w_all_some : ((("all" : Str) = "some") ↔ False) := by decide
@[simp] theorem w_all_more : ((("all" : Str) = "more") ↔ False) := by decide
@[simp] theorem w_all_many : ((("all" : Str) = "many") ↔ False) := by decide
@[simp] theorem w_some_all : ((("some" : Str) = "all") ↔ False) := by decide
@[simp] theorem w_some_more : ((("some" : Str) = "more") ↔ False) := by decide
@[simp] theorem w_some_many : ((("some" : Str) = "many") ↔ False) := by decide
@[simp] theorem w_more_all : ((("more" : Str) = "all") ↔ False) := by decide
@[simp] theorem w_more_some : ((("more" : Str) = "some") ↔ False) := by decide
@[simp] theorem w_more_many : ((("more" : Str) = "many") ↔ False) := by decide
@[simp] theorem w_many_all : ((("many" : Str) = "all") ↔ False) := by decide
@[simp] theorem w_many_some : ((("many" : Str) = "some") ↔ False) := by decide
@[simp] theorem w_many_more : ((("many" : Str) = "more") ↔ False) := by decide
/-- a sentence over the kinds -/
structure Over (ks : List Str) (s : Sen) : Prop where
  w : s.w ∈ WD
  a : s.a.1 ∈ ks
  b : s.b.1 ∈ ks
/-- .. about any kinds -/
structure Free (s : Sen) : Prop where
  w : s.w ∈ WD
  a : Kind s.a.1
  b : Kind s.b.1
theorem Over.free {s : Sen} (o : Over ks s) (K : ∀ k ∈ ks, Kind k) : Free s := ⟨o.w, K _ o.a, K _ o.b⟩
section
variable {t : Tm} {s : Sen}
@[simp] theorem ix_tm0 : dIx (tmD t) (.int 0) h = some (.str t.1, h) := by simp [tmD]
@[simp] theorem ix_tm1 : dIx (tmD t) (.int 1) h = some (.bl t.2, h) := by simp [tmD]
@[simp] theorem ix_sn0 : dIx (snD s) (.int 0) h = some (.str s.w, h) := by simp [snD]
@[simp] theorem ix_sn1 : dIx (snD s) (.int 1) h = some (tmD s.a, h) := by simp [snD]
@[simp] theorem ix_sn2 : dIx (snD s) (.int 2) h = some (tmD s.b, h) := by simp [snD]
theorem pd_tm : pd (tmD t) = some (.tuple [.str t.1, .bool t.2]) := rfl
theorem eqv_tm {u : Tm} : PyData.eqv (.tuple [.str t.1, .bool t.2]) (.tuple [.str u.1, .bool u.2]) = decide (t = u) := by
  simp only [PyData.eqv, PyData.eqvAll]
  rw [beq_dec, beq_dec, Bool.eq_iff_iff]
  simp [Prod.ext_iff]
@[simp] theorem eq_tm {u : Tm} : dEq (tmD t) (tmD u) h = some (.bl (decide (t = u)), h) :=
  cmp_is (p := .tuple [.str t.1, .bool t.2]) (q := .tuple [.str u.1, .bool u.2]) rfl rfl rfl (by simp [PyData.depth, PyData.depthAll]) eqv_tm
end
theorem r_is_tuple_tm {t : Tm} : f_is_tuple_of [tmD t, .int 2, .int 2] h = .ok (.bl true) h := by
  simp [tmD, r_is_tuple_of]
theorem r_is_term_over {t : Tm} (K : t.1 ∈ ks) : f_is_term_over [ksD ks, tmD t] h = .ok (.bl true) h := by
  rw [e_is_term_over]
  simp [m_is_term_over, ksD, r_is_tuple_tm, r_is_bit, trim_same, in_tup, K]
theorem K_WORDS_eq : K_WORDS = .tup (WD.map .str) := rfl
theorem r_is_word_and {s : Sen} (hw : s.w ∈ WD) : f_is_word_and [snD s, .int 3] h = .ok (.bl true) h := by
  have e : f_is_tuple_of [snD s, .int 3, .int 3] h = .ok (.bl true) h := by simp [snD, r_is_tuple_of]
  rw [e_is_word_and]
  simp [m_is_word_and, e, trim_same, K_WORDS_eq, in_tup, hw]
theorem r_is_word_not {ss : List Sen} : f_is_word_and [.tup (ss.map snD), .int 3] h = .ok (.bl false) h := by
  rw [e_is_word_and]
  simp [m_is_word_and, r_is_tuple_of]
  by_cases hl : ss.length = 3
  · match ss, hl with
    | [a, b, c], _ => simp [snD, trim_same]
  · have hn : ¬ ((3 : Int) ≤ ss.length ∧ (ss.length : Int) ≤ 3) := by omega
    simp [hn, trim_same]
theorem r_is_sentence_over {s : Sen} (O : Over ks s) : f_is_sentence_over [ksD ks, snD s] h = .ok (.bl true) h := by
  rw [e_is_sentence_over]
  simp [m_is_sentence_over, r_is_word_and O.w, r_is_term_over O.a, r_is_term_over O.b, trim_same]
theorem r_is_sentence_not {ss : List Sen} {x : Q.D} : f_is_sentence_over [x, .tup (ss.map snD)] h = .ok (.bl false) h := by
  rw [e_is_sentence_over]
  simp [m_is_sentence_over, r_is_word_not, trim_same]
/-! ### questions -/
inductive Qn where
  | one (s : Sen) | many (ss : List Sen)
def qnD : Qn → Q.D
  | .one s => snD s
  | .many ss => .tup (ss.map snD)
def OverQ (ks : List Str) : Qn → Prop
  | .one s => Over ks s
  | .many ss => 1 ≤ ss.length ∧ ss.length ≤ 40 ∧ ∀ s ∈ ss, Over ks s
/-! ### contrary, mirror, by_itself -/
def cont (s : Sen) : Sen := if s.w = "all" then ⟨"some", s.a, flp s.b⟩ else if s.w = "some" then ⟨"all", s.a, flp s.b⟩ else ⟨if s.w = "more" then "many" else "more", s.b, s.a⟩
def mir (s : Sen) : Sen := if s.w = "some" then ⟨s.w, s.b, s.a⟩ else ⟨s.w, flp s.b, flp s.a⟩
def alw (s : Sen) : Bool := decide (s.a = s.b) && (decide (s.w = "all") || decide (s.w = "many"))
def its (s : Sen) : Str := if alw s = true then "always" else if alw (cont s) = true then "never" else "open"
end P

namespace P
open PySem PySem.Spec PyProof.Rows L2 Q G
variable {h : AH} {i j k : Int} {s t : Str} {b : Bool} {ds : List Q.D} {ks os : List Str}
/-! ### entries as keys -/
abbrev En := Int × Sen
def enD (e : En) : Q.D := .tup [.int e.1, snD e.2]
def tmK (t : Tm) : NestedKey := .tup [.text t.1, .num (if t.2 = true then 1 else 0)]
def snK (s : Sen) : NestedKey := .tup [.text s.w, tmK s.a, tmK s.b]
def enK (e : En) : NestedKey := .tup [.num e.1, snK e.2]
theorem nk_tm (t : Tm) : nk (tmD t) = some (tmK t) := rfl
theorem nk_sn (s : Sen) : nk (snD s) = some (snK s) := rfl
theorem nk_en (e : En) : nk (enD e) = some (enK e) := rfl
theorem tmK_inj {t u : Tm} (e : tmK t = tmK u) : t = u := by
  obtain ⟨a, b⟩ := t
  obtain ⟨c, d⟩ := u
  simp only [tmK, NestedKey.tup.injEq, List.cons.injEq, NestedKey.text.injEq, NestedKey.num.injEq, and_true] at e
  obtain ⟨rfl, e⟩ := e
  cases b <;> cases d <;> simp_all
theorem snK_inj {t u : Sen} (e : snK t = snK u) : t = u := by
  obtain ⟨a, b, c⟩ := t
  obtain ⟨a', b', c'⟩ := u
  simp only [snK, NestedKey.tup.injEq, List.cons.injEq, NestedKey.text.injEq, and_true] at e
  obtain ⟨rfl, e1, e2⟩ := e
  rw [tmK_inj e1, tmK_inj e2]
theorem enK_inj {t u : En} (e : enK t = enK u) : t = u := by
  obtain ⟨a, b⟩ := t
  obtain ⟨a', b'⟩ := u
  simp only [enK, NestedKey.tup.injEq, List.cons.injEq, NestedKey.num.injEq, and_true] at e
  obtain ⟨rfl, e1⟩ := e
  rw [snK_inj e1]
@[simp] theorem clo_tm {n : Nat} {t : Tm} : closed n (tmD t) = true := rfl
@[simp] theorem clo_sn {n : Nat} {s : Sen} : closed n (snD s) = true := rfl
@[simp] theorem clo_en {n : Nat} {e : En} : closed n (enD e) = true := rfl
def EN : KeyEnc En where
  enc := enD
  key := enK
  nk := nk_en
  dep := fun e => by simp [enK, snK, tmK, NestedKey.depth, NestedKey.depthAll]
  inj := fun _ _ => enK_inj
  tup := fun e => ⟨_, rfl⟩
  clo := fun _ _ => rfl
/-! ### without_doubles -/
theorem r_without_doubles {α : Type} [DecidableEq α] (E : KeyEnc α) {x : Q.D} (xs : List α) (hx : seqK x h = .ok (xs.map E.enc, fun _ => True) h) (hx2 : ∀ g, seqK x (h ++ g) = .ok (xs.map E.enc, fun _ => True) (h ++ g)) (hl : xs.length ≤ 10000) : f_without_doubles [x] h = .ok (.fro ((ddp [] xs).map E.enc)) h := by
  rw [e_without_doubles]
  simp [m_without_doubles, hx2]
  have key := forL_inv (G := fun _ => True) (g := gSlot 2) (body := b_without_doubles_1)
    (R := fun o => ∃ σ', o = .nx σ' (h ++ [.dt (E.set (ddp [] xs))]) ∧ σ'[1]? = some (some (.ref h.length)))
    (fun ds σ h' => ∃ ys acc y, ds = ys.map E.enc ∧ ddp acc ys = ddp [] xs ∧ acc.length + ys.length ≤ 10000 ∧ σ = [some x, some (.ref h.length), y] ∧ h' = h ++ [.dt (E.set acc)])
    (fun σ h' ⟨ys, acc, y, e1, e2, e3, e4, e5⟩ => by
      cases ys with
      | cons _ _ => cases e1
      | nil =>
        refine ⟨trivial, σ, ?_, by rw [e4]; rfl⟩
        rw [e5, ← e2]
        rfl)
    (fun d ds σ h' ⟨ys, acc, y, e1, e2, e3, e4, e5⟩ => by
      cases ys with
      | nil => cases e1
      | cons a ys =>
        cases e1
        refine ⟨trivial, _, _, rfl, ?_⟩
        subst e4 e5
        rw [List.length_cons] at e3
        simp [b_without_doubles_1, gSubD, set_set E (as := acc) (a := a) (by omega)]
        refine ⟨ys, rfl, add acc a, e2, ?_, rfl⟩
        have := len_add (as := acc) (a := a)
        omega)
    (xs.map E.enc) [some x, some (.ref h.length), none] (h ++ [.dt []]) ⟨xs, [], none, rfl, rfl, by simpa using hl, rfl, rfl⟩
  obtain ⟨σ', e, e1⟩ := key
  rw [e]
  have ev : ∀ h', eVar 1 σ' h' = .ok (.ref h.length) h' := fun h' => by
    unfold eVar
    rw [e1]
  simp [ev, list_set E]
  exact trim_drop rfl okT_app (by rw [closed]; exact closeds_map E _)
end P

namespace P
open PySem PySem.Spec PyProof.Rows L2 Q G
variable {h : AH} {i j k : Int} {s t : Str} {b : Bool} {ds : List Q.D} {ks os : List Str}
/-! ### books -/
structure Entry (ks : List Str) (e : En) : Prop where
  lo : 0 ≤ e.1
  hi : e.1 ≤ 5
  ov : Over ks e.2
@[simp] theorem ix_en0 {e : En} : dIx (enD e) (.int 0) h = some (.int e.1, h) := by simp [enD]
@[simp] theorem ix_en1 {e : En} : dIx (enD e) (.int 1) h = some (snD e.2, h) := by simp [enD]
theorem r_is_source (h0 : 0 ≤ i) (h1 : i ≤ 5) : f_is_source [.int i] h = .ok (.bl true) h := by
  rw [e_is_source]
  simp [m_is_source, K_MOST_SOURCE, r_is_from_to, trim_same, h0, h1]
theorem r_is_entry {e : En} (E : Entry ks e) : f_is_entry [ksD ks, enD e] h = .ok (.bl true) h := by
  have ht : f_is_tuple_of [enD e, .int 2, .int 2] h = .ok (.bl true) h := by simp [enD, r_is_tuple_of]
  rw [e_is_entry]
  simp [m_is_entry, ht, r_is_source E.lo E.hi, r_is_sentence_over E.ov, trim_same]
def bkD (ks : List Str) (es : List En) : Q.D := .tup [ksD ks, .tup (es.map enD)]
structure Book (ks : List Str) (es : List En) : Prop where
  kinds : Kinds ks
  ent : ∀ e ∈ es, Entry ks e
  most : es.length ≤ 150
  nodup : es.Nodup
@[simp] theorem ix_bk0 {es : List En} : dIx (bkD ks es) (.int 0) h = some (ksD ks, h) := by simp [bkD]
@[simp] theorem ix_bk1 {es : List En} : dIx (bkD ks es) (.int 1) h = some (.tup (es.map enD), h) := by simp [bkD]
theorem r_wd_ens {es : List En} (hl : es.length ≤ 10000) : f_without_doubles [.tup (es.map enD)] h = .ok (.fro ((ddp [] es).map enD)) h := r_without_doubles EN es rfl (fun _ => rfl) hl
theorem r_wd_enf {es : List En} (hl : es.length ≤ 10000) : f_without_doubles [.fro (es.map enD)] h = .ok (.fro ((ddp [] es).map enD)) h := r_without_doubles EN es rfl (fun _ => rfl) hl
theorem r_is_book {es : List En} (B : Book ks es) : f_is_book [bkD ks es] h = .ok (.bl true) h := by
  have hb := B.most
  have ht : f_is_tuple_of [bkD ks es, .int 2, .int 2] h = .ok (.bl true) h := by simp [bkD, r_is_tuple_of]
  have ht2 : f_is_tuple_of [.tup (es.map enD), .int 0, .int 150] h = .ok (.bl true) h := by
    rw [r_is_tuple_of]
    simp
    omega
  rw [e_is_book]
  simp [m_is_book, ht, r_is_kinds B.kinds]
  unfold bkD
  simp [ht2, K_MOST_ENTRIES]
  rw [lc_all trivial]
  · simp [r_wd_ens (es := es) (h := h) (by omega), ddp_id es [] (by simpa using B.nodup), trim_same]
  · intro d hd
    obtain ⟨e, he, rfl⟩ := List.mem_map.mp hd
    exact ⟨_, rfl, by simp [wipeA, r_is_entry (B.ent e he)]⟩
  · simp
    omega
theorem r_check_book {es : List En} (B : Book ks es) {x : Q.D} : f_check_book [bkD ks es, x] h = .ok .non h := by
  rw [e_check_book]
  simp [m_check_book, r_is_book B, trim_same]
/-! ### translations -/
def tsD (ts : List Tm) : Q.D := .tup (ts.map tmD)
/-- terms over the kinds os, one for each of ks -/
structure Terms (ks os : List Str) (ts : List Tm) : Prop where
  len : ts.length = ks.length
  ov : ∀ t ∈ ts, t.1 ∈ os
/-- the term for a kind -/
def lk : List Str → List Tm → Str → Tm
  | k :: ks, t :: ts, x => if k = x then t else lk ks ts x
  | _, _, x => (x, true)
def tr (ks : List Str) (ts : List Tm) (t : Tm) : Tm := if t.2 = true then lk ks ts t.1 else flp (lk ks ts t.1)
def trS (ks : List Str) (ts : List Tm) (s : Sen) : Sen := ⟨s.w, tr ks ts s.a, tr ks ts s.b⟩
def trQ (ks : List Str) (ts : List Tm) : Qn → Qn
  | .one s => .one (trS ks ts s)
  | .many ss => .many (ss.map (trS ks ts))
/-- the table of the translations -/
def Tab (ks : List Str) (ts : List Tm) (tab : List (Q.D × Q.D)) : Prop := ∀ t : Tm, t.1 ∈ ks → dtGet tab (tmK t) = some (tmD (tr ks ts t))
theorem tkey_tm {t : Tm} : tkey (tmD t) = some (tmK t) := by
  unfold tkey tmD
  dsimp only
  exact if_pos (by simp [tmK, NestedKey.depth, NestedKey.depthAll])
theorem set_tm {tab : List (Q.D × Q.D)} {t : Tm} {v : Q.D} (hl : tab.length < 16777216) : dSet (.ref h.length) (tmD t) v (h ++ [.dt tab]) = some (h ++ [.dt (dtPut tab (tmD t) (tmK t) v)]) := by
  unfold dSet
  dsimp only
  rw [last_get]
  dsimp only
  rw [tkey_tm]
  dsimp only
  rw [if_pos hl, last_set]
theorem trim_dt {tab : List (Q.D × Q.D)} {bb : Bool} : trimR h bb (.ok (.ref h.length) (h ++ [.dt tab])) = .ok (.ref h.length) (h ++ [.dt tab]) := by
  rw [trimR_ok]
  have h1 : ¬ (h ++ [O.dt tab]).length = h.length := by simp
  have h2 : ¬ (okT h (h ++ [.dt tab]) ∧ closed h.length (.ref h.length) = true) := fun z => by simp [closed] at z
  rw [if_neg h1, if_neg h2]
  have h3 : froOf bb h.length (h ++ [.dt tab]) (.ref h.length) = none := by
    unfold froOf
    dsimp only
    split
    · unfold Q.listAt
      rw [last_get]
      rfl
    · rfl
  rw [h3]
end P

namespace P
open PySem PySem.Spec PyProof.Rows L2 Q G
variable {h : AH} {i j k : Int} {s t : Str} {b : Bool} {ds : List Q.D} {ks os : List Str}
/-! ### translated -/
theorem ix_tab {tab : List (Q.D × Q.D)} {ts : List Tm} (T : Tab ks ts tab) {t : Tm} (m : t.1 ∈ ks) {g : AH} (n : Nat) (e : objAt g (.ref n) = some (.dt tab)) : dIx (.ref n) (tmD t) g = some (tmD (tr ks ts t), g) := by
  unfold dIx
  rw [e]
  dsimp only
  rw [tkey_tm]
  dsimp only
  rw [T t m]
  rfl
theorem clo_sns {n : Nat} : ∀ ss : List Sen, closeds n (ss.map snD) = true
  | [] => rfl
  | s :: ss => by rw [List.map_cons, closeds, clo_sn, clo_sns ss]; rfl
@[simp] theorem clo_qn {n : Nat} {q : Qn} : closed n (qnD q) = true := by
  cases q with
  | one s => rfl
  | many ss => rw [qnD, closed]; exact clo_sns ss
@[simp] theorem isi_tup_sn {s : Sen} : isiK "tuple" h (snD s) = .ok (.bl true) h := by simp [snD]
@[simp] theorem isi_str_sn {s : Sen} : isiK "str" h (snD s) = .ok (.bl false) h := by simp [snD]
/-! ### what comes out is over the other kinds -/
theorem lk_mem : ∀ {ks : List Str} {ts : List Tm} {x : Str}, x ∈ ks → ts.length = ks.length → lk ks ts x ∈ ts
  | [], _, _, m, _ => by cases m
  | k :: ks, [], _, _, l => by cases l
  | k :: ks, t :: ts, x, m, l => by
    rw [lk]
    split
    · exact List.mem_cons_self
    · rename_i hn
      rcases List.mem_cons.mp m with e | m
      · exact absurd e.symm hn
      · exact List.mem_cons_of_mem _ (lk_mem m (by simpa using l))
theorem tr_over {ts : List Tm} (T : Terms ks os ts) {t : Tm} (m : t.1 ∈ ks) : (tr ks ts t).1 ∈ os := by
  have h1 := T.ov _ (lk_mem m T.len)
  unfold tr flp
  split <;> exact h1
theorem trS_over {ts : List Tm} (T : Terms ks os ts) {s : Sen} (O : Over ks s) : Over os (trS ks ts s) := ⟨O.w, tr_over T O.a, tr_over T O.b⟩
theorem trQ_over {ts : List Tm} (T : Terms ks os ts) {q : Qn} (O : OverQ ks q) : OverQ os (trQ ks ts q) := by
  cases q with
  | one s => exact trS_over T O
  | many ss =>
    obtain ⟨o1, o2, o3⟩ := O
    refine ⟨by simpa using o1, by simpa using o2, fun s hs => ?_⟩
    obtain ⟨s', hs', rfl⟩ := List.mem_map.mp hs
    exact trS_over T (o3 s' hs')
/-! ### books translated -/
def trE (ks : List Str) (ts : List Tm) (e : En) : En := (e.1, trS ks ts e.2)
theorem clo_ens {n : Nat} : ∀ es : List En, closeds n (es.map enD) = true
  | [] => rfl
  | s :: ss => by rw [List.map_cons, closeds, clo_en, clo_ens ss]; rfl
theorem clo_ks {n : Nat} : closed n (ksD ks) = true := by
  have : ∀ ks : List Str, closeds n (ks.map .str) = true := fun ks => by
    induction ks with
    | nil => rfl
    | cons k ks ih => rw [List.map_cons, closeds, ih]; rfl
  rw [ksD, closed]; exact this ks
theorem clo_bk {n : Nat} {es : List En} : closed n (bkD ks es) = true := by
  rw [bkD, closed, closeds, closeds, closeds, clo_ks, closed, clo_ens]; rfl
end P

namespace P
open PySem PySem.Spec PyProof.Rows L2 Q G
variable {h : AH} {i j k : Int} {s t : Str} {b : Bool} {ds : List Q.D} {ks os : List Str}
/-! ### _law_same -/
mutual
/-- its parts, if it is plain -/
def sz : Q.D → Nat
  | .tup ds => szs ds + 1
  | .fro ds => szs ds + 1
  | .scr ds => 1
  | .ref _ => 1
  | .non => 1
  | .bl _ => 1
  | .int _ => 1
  | .str _ => 1
  | .exn _ _ _ _ _ => 1
def szs : List Q.D → Nat
  | [] => 0
  | d :: ds => sz d + szs ds
end
mutual
def pln : Q.D → Bool
  | .tup ds => plns ds
  | .fro ds => plns ds
  | .scr ds => false
  | .ref _ => false
  | .non => true
  | .bl _ => true
  | .int _ => true
  | .str _ => true
  | .exn _ _ _ _ _ => false
def plns : List Q.D → Bool
  | [] => true
  | d :: ds => pln d && plns ds
end
theorem sz_pos (d : Q.D) : 1 ≤ sz d := by cases d <;> simp [sz]
theorem szs_app : ∀ (as bs : List Q.D), szs (as ++ bs) = szs as + szs bs
  | [], bs => by simp [szs]
  | a :: as, bs => by rw [List.cons_append, szs, szs, szs_app as bs]; omega
theorem plns_app : ∀ (as bs : List Q.D), plns (as ++ bs) = (plns as && plns bs)
  | [], bs => by simp [plns]
  | a :: as, bs => by rw [List.cons_append, plns, plns, plns_app as bs, Bool.and_assoc]
theorem szs_len : ∀ (as : List Q.D), as.length ≤ szs as
  | [] => by simp [szs]
  | a :: as => by
    have := szs_len as
    have := sz_pos a
    rw [szs, List.length_cons]; omega
def dup (d : Q.D) : Q.D := .tup [d, d]
theorem range_dup {es : List Q.D} : (List.range es.length).map (fun i => match es[i]? with | some d => dup d | none => .non) = es.map dup := by
  apply List.ext_getElem?
  intro i
  by_cases hi : i < es.length
  · simp [hi]
  · simp [hi]
theorem dups_get {es : List Q.D} {i : Nat} : (es.map dup)[i]? = (es[i]?).map dup := by simp
@[simp] theorem run_dup {gs : List Q.D → AS → AH → Option (AS × AH)} {d : Q.D} {σ : AS} : gTupD 2 gs (dup d) σ h = gs [d, d] σ h := rfl
theorem r_law_same_go {a c : Q.D} (N : Nat) (hN : N ≤ 2000000) (ds0 : List Q.D) (h0 : szs ds0 < N) (hp : plns ds0 = true) : ∃ σ', forL (fun _ => True) (gSlot 3) b_n__law_same_1 (rangeD 0 N) [some a, some c, some (.ref h.length), none, none, none, none] (h ++ [.lst (ds0.map dup)]) = .rt (.bl true) (h ++ [.lst []]) ∧ σ' = (0 : Nat) := by
  refine ⟨0, ?_, rfl⟩
  refine forL_inv (R := fun o => o = .rt (.bl true) (h ++ [.lst []]))
    (fun ds σ h' => ∃ (stk : List Q.D) (x1 x2 x3 x4 : Option Q.D), szs stk < ds.length ∧ ds.length ≤ 2000000 ∧ plns stk = true ∧ σ = [some a, some c, some (.ref h.length), x1, x2, x3, x4] ∧ h' = h ++ [.lst (stk.map dup)])
    (fun σ h' ⟨stk, x1, x2, x3, x4, e1, _⟩ => by simp at e1) (fun d ds σ h' ⟨stk, x1, x2, x3, x4, e1, e2, e3, e4, e5⟩ => ?_) _ _ _ ⟨ds0, none, none, none, none, by simpa using h0, by simpa using hN, hp, rfl, rfl⟩
  subst e4 e5
  refine ⟨trivial, [some a, some c, some (.ref h.length), some d, x2, x3, x4], h ++ [.lst (stk.map dup)], rfl, ?_⟩
  rw [List.length_cons] at e1 e2
  rcases List.eq_nil_or_concat stk with rfl | ⟨init, e, rfl⟩
  · simp [b_n__law_same_1, len_ref last_list]
  · rw [List.concat_eq_append] at e1 e3 ⊢
    rw [szs_app, szs, szs] at e1
    rw [plns_app, plns, plns, Bool.and_true, Bool.and_eq_true] at e3
    have hpop : mPop (.ref h.length) [] (h ++ [.lst ((init ++ [e]).map dup)]) = some (dup e, h ++ [.lst (init.map dup)]) := by
      unfold mPop
      simp
    have hist : isT "list" (h ++ [.lst ((init ++ [e]).map dup)]) (.ref h.length) = true := by
      simp [isT, lsq]
    have hlen := len_ref (h := h ++ [.lst ((init ++ [e]).map dup)]) (n := h.length) last_list
    have hne : ¬ ((init.length : Int) + 1 = 0) := by omega
    simp only [List.map_append, List.map_cons, List.map_nil] at hpop hist hlen ⊢
    have hs := szs_len init
    have hse := sz_pos e
    have fin : ∀ o : Out, o = .nx [some a, some c, some (.ref h.length), some d, some e, some e, x4] (h ++ [.lst (init.map dup)]) → (match o with
      | .nx σ2 h2 => ∃ (stk : List Q.D) (x1 x2 x3 x4 : Option Q.D), szs stk < ds.length ∧ ds.length ≤ 2000000 ∧ plns stk = true ∧ σ2 = [some a, some c, some (.ref h.length), x1, x2, x3, x4] ∧ h2 = h ++ [.lst (stk.map dup)]
      | .ct σ2 h2 => ∃ (stk : List Q.D) (x1 x2 x3 x4 : Option Q.D), szs stk < ds.length ∧ ds.length ≤ 2000000 ∧ plns stk = true ∧ σ2 = [some a, some c, some (.ref h.length), x1, x2, x3, x4] ∧ h2 = h ++ [.lst (stk.map dup)]
      | .bk σ2 h2 => Out.nx σ2 h2 = .rt (.bl true) (h ++ [.lst []])
      | r => r = .rt (.bl true) (h ++ [.lst []])) := fun o eo => by
      rw [eo]
      exact ⟨init, some d, some e, some e, x4, by omega, by omega, e3.1, rfl, rfl⟩
    cases e with
    | ref _ => exact absurd e3.2 (by simp [pln])
    | scr _ => exact absurd e3.2 (by simp [pln])
    | exn _ _ _ _ _ => exact absurd e3.2 (by simp [pln])
    | non => exact fin _ (by simp [b_n__law_same_1, hlen, hne, hist, hpop, isNonD])
    | bl b => exact fin _ (by simp [b_n__law_same_1, hlen, hne, hist, hpop])
    | int b => exact fin _ (by simp [b_n__law_same_1, hlen, hne, hist, hpop])
    | str b => exact fin _ (by simp [b_n__law_same_1, hlen, hne, hist, hpop])
    | tup es =>
      rw [sz] at e1
      rw [pln] at e3
      have hl2 := szs_len es
      have hext : mExtend (.ref h.length) [.fro (es.map dup)] (h ++ [.lst (init.map dup)]) = some (.non, h ++ [.lst ((init ++ es).map dup)]) := by
        unfold mExtend
        dsimp only
        rw [last_list, show lchg (h ++ [.lst (init.map dup)]) (.fro (es.map dup)) = some (es.map dup) from rfl]
        dsimp only
        rw [if_pos (by simp; omega), last_set, List.map_append]
      have hist2 : isT "list" (h ++ [.lst (init.map dup)]) (.ref h.length) = true := by
        simp [isT, lsq]
      have hb : b_n__law_same_1 [some a, some c, some (.ref h.length), some d, x2, x3, x4] (h ++ [.lst (init.map dup ++ [dup (.tup es)])]) = .nx [some a, some c, some (.ref h.length), some d, some (.tup es), some (.tup es), x4] (h ++ [.lst ((init ++ es).map dup)]) := by
        have hr : rngK (.int (es.length : Int)) (h ++ [.lst (init.map dup)]) = .ok (rangeD 0 es.length, fun _ => True) (h ++ [.lst (init.map dup)]) := rngK_of (by omega) (by omega)
        simp -implicitDefEqProofs [b_n__law_same_1, hlen, hne, hist, hpop, hist2, hr]
        rw [rangeD, lc_enc (fun i : Nat => .int (0 + (i : Int))) (fun i => match es[i]? with | some d => dup d | none => .non) trivial]
        · rw [range_dup]
          have hlt : (es.length : Int) < 4611686018427387904 := by omega
          simp [hext, hlt]
        · intro i hi
          have hi' : i < es.length := List.mem_range.mp hi
          refine ⟨_, rfl, ?_⟩
          have ha : atI es (i : Int) = some es[i] := atI_n (List.getElem?_eq_getElem hi')
          simp [wipeA, ha, hi']
          rfl
        · simp
          omega
      rw [hb]
      exact ⟨init ++ es, some d, some (.tup es), some (.tup es), x4, by rw [szs_app]; omega, by omega, by rw [plns_app, e3.1, e3.2]; rfl, rfl, rfl⟩
    | fro es =>
      rw [sz] at e1
      rw [pln] at e3
      have hl2 := szs_len es
      have hext : mExtend (.ref h.length) [.fro (es.map dup)] (h ++ [.lst (init.map dup)]) = some (.non, h ++ [.lst ((init ++ es).map dup)]) := by
        unfold mExtend
        dsimp only
        rw [last_list, show lchg (h ++ [.lst (init.map dup)]) (.fro (es.map dup)) = some (es.map dup) from rfl]
        dsimp only
        rw [if_pos (by simp; omega), last_set, List.map_append]
      have hist2 : isT "list" (h ++ [.lst (init.map dup)]) (.ref h.length) = true := by
        simp [isT, lsq]
      have hb : b_n__law_same_1 [some a, some c, some (.ref h.length), some d, x2, x3, x4] (h ++ [.lst (init.map dup ++ [dup (.fro es)])]) = .nx [some a, some c, some (.ref h.length), some d, some (.fro es), some (.fro es), x4] (h ++ [.lst ((init ++ es).map dup)]) := by
        have hr : rngK (.int (es.length : Int)) (h ++ [.lst (init.map dup)]) = .ok (rangeD 0 es.length, fun _ => True) (h ++ [.lst (init.map dup)]) := rngK_of (by omega) (by omega)
        simp -implicitDefEqProofs [b_n__law_same_1, hlen, hne, hist, hpop, hist2, hr]
        rw [rangeD, lc_enc (fun i : Nat => .int (0 + (i : Int))) (fun i => match es[i]? with | some d => dup d | none => .non) trivial]
        · rw [range_dup]
          have hlt : (es.length : Int) < 4611686018427387904 := by omega
          simp [hext, hlt]
        · intro i hi
          have hi' : i < es.length := List.mem_range.mp hi
          refine ⟨_, rfl, ?_⟩
          have ha : atI es (i : Int) = some es[i] := atI_n (List.getElem?_eq_getElem hi')
          simp [wipeA, ha, hi']
          rfl
        · simp
          omega
      rw [hb]
      exact ⟨init ++ es, some d, some (.fro es), some (.fro es), x4, by rw [szs_app]; omega, by omega, by rw [plns_app, e3.1, e3.2]; rfl, rfl, rfl⟩
theorem r_law_same {d : Q.D} (h0 : sz d < 2000000) (hp : pln d = true) : f_n__law_same [d, d] h = .ok (.bl true) h := by
  obtain ⟨N, hr, hN⟩ : ∃ N : Nat, (∀ g, rngK (.int 2000000) g = .ok (rangeD 0 N, fun _ => True) g) ∧ N = 2000000 := ⟨Int.toNat 2000000, fun g => rngK_of (by decide) (by decide), rfl⟩
  obtain ⟨_, e, _⟩ := r_law_same_go (h := h) (a := d) (c := d) N (by omega) [d] (by rw [szs, szs]; omega) (by simpa [plns] using hp)
  rw [e_n__law_same]
  simp only [List.map_cons, List.map_nil] at e
  have e' : forL (fun _ => True) (gSlot 3) b_n__law_same_1 (rangeD 0 N) [some d, some d, some (.ref h.length), none, none, none, none] (h ++ [.lst [.tup [d, d]]]) = .rt (.bl true) (h ++ [.lst []]) := e
  clear hN
  simp -implicitDefEqProofs [m_n__law_same, hr, e']
  exact trim_drop rfl okT_app rfl
end P

namespace P
open PySem PySem.Spec PyProof.Rows L2 Q G
variable {h g : AH} {i j k : Int} {s t : Str} {b : Bool} {ds : List Q.D} {ks os : List Str}
/-! ### the stream -/
def So (cells : List Int) (c k : Int) : O := .lst [.fro (cells.map .int), .int c, .int k]
def Ok (N : Nat) (o : O) : Prop := ∃ cells c k, o = So cells c k ∧ 0 ≤ c ∧ c < 10 ^ 62 ∧ 0 ≤ k ∧ k + N ≤ 1000000000
theorem Ok.mono {N M : Nat} {o : O} (h : Ok N o) (l : M ≤ N) : Ok M o := by
  obtain ⟨cells, c, k, e, a1, a2, a3, a4⟩ := h
  exact ⟨cells, c, k, e, a1, a2, a3, by omega⟩
theorem small_pow {i : Int} (h0 : 0 ≤ i) (h1 : i < 10 ^ 70) : i.natAbs < 2 ^ 4000 := by
  have h2 : i.natAbs < 2 ^ 250 := by omega
  exact Nat.lt_of_lt_of_le h2 (Nat.pow_le_pow_right (by omega) (by omega))
theorem mul_ok (h0 : 0 ≤ i) (h1 : i < 10 ^ 70) (h2 : 0 ≤ j) (h3 : j < 10 ^ 70) : dMul (.int i) (.int j) h = some (.int (i * j), h) := if_pos ⟨small_pow h0 h1, small_pow h2 h3⟩
theorem div_ok (h2 : 0 < j) (h3 : j < 10 ^ 70) : dDiv (.int i) (.int j) h = some (.int (i / j), h) := if_pos ⟨h2, small_pow (by omega) h3⟩
theorem mod_ok (h2 : 0 < j) : dMod (.int i) (.int j) h = some (.int (i % j), h) := if_pos h2
theorem pow_ok {n : Nat} (h1 : n ≤ 1000) : dPow (.int 10) (.int n) h = some (.int (10 ^ n), h) := by
  have : dPow (.int 10) (.int n) h = some (.int (10 ^ (n : Int).toNat), h) := if_pos ⟨by omega, by omega, by decide⟩
  rw [this, Int.toNat_natCast]
theorem ix_so {cells : List Int} {c k : Int} {n : Int} : dIx (.ref 0) (.int n) (So cells c k :: g) = (atI [Q.D.fro (cells.map .int), .int c, .int k] n).map fun d => (d, So cells c k :: g) := ix_ref rfl
theorem set_so1 {cells : List Int} {c k : Int} {v : Q.D} : dSet (.ref 0) (.int 1) v (So cells c k :: g) = some (.lst [.fro (cells.map .int), v, .int k] :: g) := rfl
theorem set_so2 {cells : List Int} {c k : Int} {v : Q.D} : dSet (.ref 0) (.int 2) v (So cells c k :: g) = some (.lst [.fro (cells.map .int), .int c, v] :: g) := rfl
theorem eq_so {cells : List Int} {c k : Int} : O.lst [.fro (cells.map .int), .int c, .int k] = So cells c k := rfl
/-- numbers mixed -/
def mix (x k : Int) : Int := let y := (x * 48271 + k * 69621 + 11) % 2147483647
  (y * 16807 + 13) % 2147483647 * 65537 + y
theorem mix_lo {x k : Int} : 0 ≤ mix x k := by
  unfold mix
  have h1 := Int.emod_nonneg (x * 48271 + k * 69621 + 11) (b := 2147483647) (by omega)
  have h2 := Int.emod_nonneg ((x * 48271 + k * 69621 + 11) % 2147483647 * 16807 + 13) (b := 2147483647) (by omega)
  dsimp only
  omega
theorem mix_hi {x k : Int} : mix x k < 10 ^ 62 := by
  unfold mix
  have h1 := Int.emod_lt_of_pos (x * 48271 + k * 69621 + 11) (b := 2147483647) (by omega)
  have h2 := Int.emod_lt_of_pos ((x * 48271 + k * 69621 + 11) % 2147483647 * 16807 + 13) (b := 2147483647) (by omega)
  dsimp only
  omega
theorem r_next {N : Nat} {o : O} {m : Int} (O : Ok (N + 1) o) (hm : 0 < m) (hm2 : m < 10 ^ 70) : ∃ r o', f_n__law_next [.ref 0, .int m] (o :: g) = .ok (.int r) (o' :: g) ∧ 0 ≤ r ∧ r < m ∧ Ok N o' := by
  obtain ⟨cells, c, k, rfl, a1, a2, a3, a4⟩ := O
  rw [e_n__law_next]
  have fin : ∀ c' k' : Int, 0 ≤ c' → c' < 10 ^ 62 → 0 ≤ k' → k' + (N : Int) ≤ 1000000000 → ∃ r o', (Res.ok (.int (c' % m)) (So cells (c' / m) k' :: g) : Res Q.D) = .ok (.int r) (o' :: g) ∧ 0 ≤ r ∧ r < m ∧ Ok N o' := fun c' k' b1 b2 b3 b4 => by
    refine ⟨c' % m, So cells (c' / m) k', rfl, Int.emod_nonneg _ (by omega), Int.emod_lt_of_pos _ hm, cells, c' / m, k', rfl, Int.ediv_nonneg b1 (by omega), ?_, b3, b4⟩
    have := Int.ediv_le_self m b1
    omega
  by_cases hc : c = 0
  · subst hc
    obtain ⟨P60, hP⟩ : ∃ P : Int, P = 10 ^ 60 := ⟨_, rfl⟩
    obtain ⟨P18, hQ⟩ : ∃ P : Int, P = 10 ^ 18 := ⟨_, rfl⟩
    have p60 : ∀ g, dPow (.int 10) (.int 60) g = some (.int P60, g) := fun g => hP ▸ pow_ok (n := 60) (by omega)
    have p18 : ∀ g, dPow (.int 10) (.int 18) g = some (.int P18, g) := fun g => hQ ▸ pow_ok (n := 18) (by omega)
    have pp : 0 < P60 := by omega
    have mk : ∀ g, dMul (.int k) (.int 69621) g = some (.int (k * 69621), g) := fun g => mul_ok a3 (by omega) (by omega) (by omega)
    have big : (0 : Int) < 2147483647 := by omega
    by_cases hl : k < cells.length
    · obtain ⟨d, ed, at1⟩ := atI_i (xs := cells.map Q.D.int) a3 (by simpa using hl)
      obtain ⟨x, hx, rfl⟩ : ∃ x, cells[k.toNat]? = some x ∧ d = .int x := by
        rw [List.getElem?_map] at ed
        obtain ⟨x, h1, h2⟩ := Option.map_eq_some_iff.mp ed
        exact ⟨x, h1, h2.symm⟩
      obtain ⟨z, hz⟩ : ∃ z : Int, z = (if x < 0 then -x else x) := ⟨_, rfl⟩
      have habs : ∀ g, gAbs [.int x] g = some (.int z, g) := fun g => hz ▸ abs_int
      obtain ⟨y, hy⟩ : ∃ y : Int, y = z % P60 := ⟨_, rfl⟩
      have hmod : ∀ g, dMod (.int z) (.int P60) g = some (.int y, g) := fun g => hy ▸ mod_ok pp
      have y0 : 0 ≤ y := hy ▸ Int.emod_nonneg _ (by omega)
      have y1 : y < 10 ^ 60 := by
        have := Int.emod_lt_of_pos z pp
        omega
      clear hy hz
      have my : ∀ g, dMul (.int y) (.int 48271) g = some (.int (y * 48271), g) := fun g => mul_ok y0 (by omega) (by omega) (by omega)
      by_cases hs : y < P18
      · obtain ⟨w, hw⟩ : ∃ w : Int, w = (y * 48271 + k * 69621 + 11) % 2147483647 := ⟨_, rfl⟩
        have hwm : ∀ g, dMod (.int (y * 48271 + k * 69621 + 11)) (.int 2147483647) g = some (.int w, g) := fun g => hw ▸ mod_ok big
        have w0 : 0 ≤ w := hw ▸ Int.emod_nonneg _ (by omega)
        have w1 : w < 2147483647 := hw ▸ Int.emod_lt_of_pos _ big
        clear hw
        obtain ⟨u, hu⟩ : ∃ u : Int, u = (w * 16807 + 13) % 2147483647 := ⟨_, rfl⟩
        have hum : ∀ g, dMod (.int (w * 16807 + 13)) (.int 2147483647) g = some (.int u, g) := fun g => hu ▸ mod_ok big
        have u0 : 0 ≤ u := hu ▸ Int.emod_nonneg _ (by omega)
        have u1 : u < 2147483647 := hu ▸ Int.emod_lt_of_pos _ big
        clear hu
        have mw : ∀ g, dMul (.int w) (.int 16807) g = some (.int (w * 16807), g) := fun g => mul_ok w0 (by omega) (by omega) (by omega)
        have mu : ∀ g, dMul (.int u) (.int 65537) g = some (.int (u * 65537), g) := fun g => mul_ok u0 (by omega) (by omega) (by omega)
        have e : trimR (So cells 0 k :: g) true (retOf (m_n__law_next [some (.ref 0), some (.int m), none, none, none] (So cells 0 k :: g))) = .ok (.int ((u * 65537 + w) % m)) (So cells ((u * 65537 + w) / m) (k + 1) :: g) := by
          simp -implicitDefEqProofs [-abs_int, -run_dInt, m_n__law_next, ix_so, mod_ok hm, div_ok hm hm2, gSubD, set_so1, set_so2, p60, p18, hl, at1, habs, hmod, hs, eq_so, my, mk, hwm, hum, mw, mu]
          exact trim_same rfl
        rw [e]
        exact fin (u * 65537 + w) (k + 1) (by omega) (by omega) (by omega) (by omega)
      · have e : trimR (So cells 0 k :: g) true (retOf (m_n__law_next [some (.ref 0), some (.int m), none, none, none] (So cells 0 k :: g))) = .ok (.int (y % m)) (So cells (y / m) (k + 1) :: g) := by
          simp -implicitDefEqProofs [-abs_int, -run_dInt, m_n__law_next, ix_so, mod_ok hm, div_ok hm hm2, gSubD, set_so1, set_so2, p60, p18, hl, at1, habs, hmod, hs, eq_so]
          exact trim_same rfl
        rw [e]
        exact fin y (k + 1) y0 (by omega) (by omega) (by omega)
    · obtain ⟨y, hy⟩ : ∃ y : Int, y = 7 + k := ⟨_, rfl⟩
      have hplus : ∀ g, dPlus (.int 7) (.int k) g = some (.int y, g) := fun g => hy ▸ plus_int
      have y0 : 0 ≤ y := by omega
      have y1 : y < 10 ^ 60 := by omega
      clear hy
      have my : ∀ g, dMul (.int y) (.int 48271) g = some (.int (y * 48271), g) := fun g => mul_ok y0 (by omega) (by omega) (by omega)
      by_cases hs : y < P18
      · obtain ⟨w, hw⟩ : ∃ w : Int, w = (y * 48271 + k * 69621 + 11) % 2147483647 := ⟨_, rfl⟩
        have hwm : ∀ g, dMod (.int (y * 48271 + k * 69621 + 11)) (.int 2147483647) g = some (.int w, g) := fun g => hw ▸ mod_ok big
        have w0 : 0 ≤ w := hw ▸ Int.emod_nonneg _ (by omega)
        have w1 : w < 2147483647 := hw ▸ Int.emod_lt_of_pos _ big
        clear hw
        obtain ⟨u, hu⟩ : ∃ u : Int, u = (w * 16807 + 13) % 2147483647 := ⟨_, rfl⟩
        have hum : ∀ g, dMod (.int (w * 16807 + 13)) (.int 2147483647) g = some (.int u, g) := fun g => hu ▸ mod_ok big
        have u0 : 0 ≤ u := hu ▸ Int.emod_nonneg _ (by omega)
        have u1 : u < 2147483647 := hu ▸ Int.emod_lt_of_pos _ big
        clear hu
        have mw : ∀ g, dMul (.int w) (.int 16807) g = some (.int (w * 16807), g) := fun g => mul_ok w0 (by omega) (by omega) (by omega)
        have mu : ∀ g, dMul (.int u) (.int 65537) g = some (.int (u * 65537), g) := fun g => mul_ok u0 (by omega) (by omega) (by omega)
        have e : trimR (So cells 0 k :: g) true (retOf (m_n__law_next [some (.ref 0), some (.int m), none, none, none] (So cells 0 k :: g))) = .ok (.int ((u * 65537 + w) % m)) (So cells ((u * 65537 + w) / m) (k + 1) :: g) := by
          simp -implicitDefEqProofs [-abs_int, -run_dInt, m_n__law_next, ix_so, mod_ok hm, div_ok hm hm2, gSubD, set_so1, set_so2, p60, p18, hl, hplus, hs, eq_so, my, mk, hwm, hum, mw, mu]
          exact trim_same rfl
        rw [e]
        exact fin (u * 65537 + w) (k + 1) (by omega) (by omega) (by omega) (by omega)
      · have e : trimR (So cells 0 k :: g) true (retOf (m_n__law_next [some (.ref 0), some (.int m), none, none, none] (So cells 0 k :: g))) = .ok (.int (y % m)) (So cells (y / m) (k + 1) :: g) := by
          simp -implicitDefEqProofs [-abs_int, -run_dInt, m_n__law_next, ix_so, mod_ok hm, div_ok hm hm2, gSubD, set_so1, set_so2, p60, p18, hl, hplus, hs, eq_so]
          exact trim_same rfl
        rw [e]
        exact fin y (k + 1) y0 (by omega) (by omega) (by omega)
  · have e : trimR (So cells c k :: g) true (retOf (m_n__law_next [some (.ref 0), some (.int m), none, none, none] (So cells c k :: g))) = .ok (.int (c % m)) (So cells (c / m) k :: g) := by
      simp -implicitDefEqProofs [m_n__law_next, ix_so, hc, mod_ok hm, div_ok hm hm2, gSubD, set_so1]
      exact trim_same rfl
    rw [e]
    exact fin c k a1 a2 a3 (by omega)
end P

namespace P
open PySem PySem.Spec PyProof.Rows L2 Q G
variable {h g : AH} {i j k : Int} {s t : Str} {b : Bool} {ds : List Q.D} {ks os : List Str} {N : Nat} {o : O}
theorem r_stream {ns : List Int} (hl : ns.length ≤ 63) : f_n__law_stream [.scr (ns.map .int)] [] = .ok (.ref 0) [So ns 0 0] := by
  rw [e_n__law_stream]
  simp -implicitDefEqProofs [m_n__law_stream]
  exact trim_keep rfl
theorem ok_start {ns : List Int} : Ok 1000000000 (So ns 0 0) := ⟨ns, 0, 0, rfl, by omega, by omega, by omega, by omega⟩
/-- rows that can be picked from -/
structure Rows (g : AH) (x : Q.D) (ds : List Q.D) : Prop where
  len : ∀ o, gLen [x] (o :: g) = some (.int ds.length, o :: g)
  ix : ∀ o i, dIx x (.int i) (o :: g) = (atI ds i).map fun d => (d, o :: g)
  pos : 0 < ds.length
  most : ds.length ≤ 1000000
theorem Rows.tup (h0 : 0 < ds.length) (h1 : ds.length ≤ 1000000) : Rows g (.tup ds) ds := ⟨fun _ => rfl, fun _ _ => rfl, h0, h1⟩
theorem Rows.fro (h0 : 0 < ds.length) (h1 : ds.length ≤ 1000000) : Rows g (.fro ds) ds := ⟨fun _ => rfl, fun _ _ => rfl, h0, h1⟩
theorem r_pick {x : Q.D} (R : Rows g x ds) (O : Ok (N + 1) o) : ∃ d o', f_n__law_pick [.ref 0, x] (o :: g) = .ok d (o' :: g) ∧ d ∈ ds ∧ Ok N o' := by
  have h0 := R.pos
  have h1 := R.most
  obtain ⟨r, o', e, r0, r1, O'⟩ := r_next (g := g) O (m := (ds.length : Int)) (by omega) (by omega)
  obtain ⟨d, ed, at1⟩ := atI_i (xs := ds) r0 r1
  refine ⟨d, o', ?_, List.mem_of_getElem? ed, O'⟩
  rw [e_n__law_pick]
  simp -implicitDefEqProofs [m_n__law_pick, R.len, e, R.ix, at1]
  exact trim_same rfl
theorem r_bit (O : Ok (N + 1) o) : ∃ b o', f_n__law_bit [.ref 0] (o :: g) = .ok (.bl b) (o' :: g) ∧ Ok N o' := by
  obtain ⟨r, o', e, r0, r1, O'⟩ := r_next (g := g) O (m := 2) (by omega) (by omega)
  refine ⟨decide (r = 1), o', ?_, O'⟩
  rw [e_n__law_bit]
  simp -implicitDefEqProofs [m_n__law_bit, e]
  exact trim_same rfl
/-! ### sentences drawn -/
theorem r_sentence (hk : 0 < ks.length) (hk2 : ks.length ≤ 1000) (O : Ok (N + 8) o) : ∃ s o', f_n__law_sentence [.ref 0, ksD ks] (o :: g) = .ok (snD s) (o' :: g) ∧ Over ks s ∧ Ok N o' := by
  rw [e_n__law_sentence]
  obtain ⟨d1, o1, e1, m1, O1⟩ := r_pick (g := g) (ds := [.str "all", .str "some", .str "more", .str "many"]) (Rows.fro (by simp) (by simp)) O
  obtain ⟨w, hw, rfl⟩ : ∃ w ∈ WD, d1 = .str w := by
    simp only [List.mem_cons, List.not_mem_nil, or_false] at m1
    rcases m1 with rfl | rfl | rfl | rfl
    · exact ⟨_, by simp [WD], rfl⟩
    · exact ⟨_, by simp [WD], rfl⟩
    · exact ⟨_, by simp [WD], rfl⟩
    · exact ⟨_, by simp [WD], rfl⟩
  have RK : Rows g (ksD ks) (ks.map .str) := Rows.tup (by simpa using hk) (by simp; omega)
  obtain ⟨d2, o2, e2, m2, O2⟩ := r_pick RK O1
  obtain ⟨a, ha, rfl⟩ := List.mem_map.mp m2
  obtain ⟨a2, o3, e3, O3⟩ := r_bit (g := g) O2
  obtain ⟨d4, o4, e4, m4, O4⟩ := r_pick RK O3
  obtain ⟨c, hc, rfl⟩ := List.mem_map.mp m4
  obtain ⟨c2, o5, e5, O5⟩ := r_bit (g := g) O4
  obtain ⟨r, o6, e6, _, _, O6⟩ := r_next (g := g) O5 (m := 5) (by omega) (by omega)
  obtain ⟨c3, o7, e7, O7⟩ := r_bit (g := g) O6
  by_cases hr : r = 0
  · refine ⟨⟨w, (a, a2), (a, c3)⟩, o7, ?_, ⟨hw, ha, ha⟩, O7.mono (by omega)⟩
    simp -implicitDefEqProofs [m_n__law_sentence, e1, e2, e3, e4, e5, e6, e7, hr]
    exact trim_same rfl
  · refine ⟨⟨w, (a, a2), (c, c2)⟩, o6, ?_, ⟨hw, ha, hc⟩, O6.mono (by omega)⟩
    simp -implicitDefEqProofs [m_n__law_sentence, e1, e2, e3, e4, e5, e6, hr]
    exact trim_same rfl
end P

namespace P
open PySem PySem.Spec PyProof.Rows L2 Q G
variable {h g : AH} {i j k : Int} {s t : Str} {b : Bool} {ds : List Q.D} {ks os : List Str} {N : Nat} {o : O}
/-! ### kinds drawn -/
def lowB (c : Nat) : Bool := decide (97 ≤ c) && decide (c ≤ 122)
def digB (c : Nat) : Bool := decide (48 ≤ c) && decide (c ≤ 57)
theorem lowB_ok {c : Nat} (h : lowB c = true) : low c := by
  simp only [lowB, Bool.and_eq_true, decide_eq_true_eq] at h; exact h
theorem digB_ok {c : Nat} (h : digB c = true) : dig c := by
  simp only [digB, Bool.and_eq_true, decide_eq_true_eq] at h; exact h
def kindB (s : Str) : Bool := decide (s.cps.size ≤ 12) && (match s.cps.toList with
  | c :: _ => lowB c
  | [] => false) && s.cps.toList.all fun c => lowB c || digB c
theorem kindB_ok (h : kindB s = true) : Kind s := by
  unfold kindB at h
  rw [Bool.and_eq_true, Bool.and_eq_true] at h
  obtain ⟨⟨h1, h2⟩, h3⟩ := h
  refine ⟨of_decide_eq_true h1, ?_, fun c hc => ?_⟩
  · split at h2
    · rename_i c r e
      exact ⟨c, r, e, lowB_ok h2⟩
    · cases h2
  · have := List.all_eq_true.mp h3 c hc
    rw [Bool.or_eq_true] at this
    exact this.imp lowB_ok digB_ok
theorem cps_app {s t : Str} : (s ++ t).cps.toList = s.cps.toList ++ t.cps.toList := by
  show (s.cps ++ t.cps).toList = _
  simp
theorem size_app {s t : Str} : (s ++ t).cps.size = s.cps.size + t.cps.size := by
  rw [← Array.length_toList, cps_app, List.length_append, Array.length_toList, Array.length_toList]
def AZ : Str := "abcdefghijklmnopqrstuvwxyz"
def AZ9 : Str := "abcdefghijklmnopqrstuvwxyz0123456789"
theorem az_low : ∀ c ∈ AZ.cps.toList, low c := fun c hc => lowB_ok (List.all_eq_true.mp (show AZ.cps.toList.all lowB = true by decide +kernel) c hc)
theorem az9_ok : ∀ c ∈ AZ9.cps.toList, low c ∨ dig c := fun c hc => by
  have := List.all_eq_true.mp (show (AZ9.cps.toList.all fun c => lowB c || digB c) = true by decide +kernel) c hc
  rw [Bool.or_eq_true] at this
  exact this.imp lowB_ok digB_ok
theorem az_len : AZ.cps.toList.length = 26 := by decide +kernel
theorem az9_len : AZ9.cps.toList.length = 36 := by decide +kernel
theorem ix_az (h0 : 0 ≤ i) (h1 : i < 26) : ∃ c, low c ∧ ∀ h, dIx (.str "abcdefghijklmnopqrstuvwxyz") (.int i) h = some (.str ⟨#[c]⟩, h) := by
  obtain ⟨c, ec, at1⟩ := atI_i (xs := AZ.cps.toList) h0 (by rw [az_len]; omega)
  refine ⟨c, az_low c (List.mem_of_getElem? ec), fun h => ?_⟩
  show dIx (.str AZ) (.int i) h = _
  rw [ix_str'' (by decide +kernel), at1]
  rfl
theorem ix_az9 (h0 : 0 ≤ i) (h1 : i < 36) : ∃ c, (low c ∨ dig c) ∧ ∀ h, dIx (.str "abcdefghijklmnopqrstuvwxyz0123456789") (.int i) h = some (.str ⟨#[c]⟩, h) := by
  obtain ⟨c, ec, at1⟩ := atI_i (xs := AZ9.cps.toList) h0 (by rw [az9_len]; omega)
  refine ⟨c, az9_ok c (List.mem_of_getElem? ec), fun h => ?_⟩
  show dIx (.str AZ9) (.int i) h = _
  rw [ix_str'' (by decide +kernel), at1]
  rfl
theorem Kind.snoc (K : Kind s) {c : Nat} (hc : low c ∨ dig c) (hl : s.cps.size < 12) : Kind (s ++ ⟨#[c]⟩) := by
  obtain ⟨d, r, e, hd⟩ := K.fst
  refine ⟨by rw [size_app]; show s.cps.size + 1 ≤ 12; omega, ⟨d, r ++ [c], by rw [cps_app, e]; rfl, hd⟩, fun x hx => ?_⟩
  rw [cps_app] at hx
  rcases List.mem_append.mp hx with hx | hx
  · exact K.all x hx
  · rw [show x = c by simpa using hx]; exact hc
theorem Kind.one {c : Nat} (hc : low c) : Kind ⟨#[c]⟩ := ⟨by show 1 ≤ 12; omega, ⟨c, [], rfl, hc⟩, fun x hx => .inl (by rw [show x = c by simpa using hx]; exact hc)⟩
def TX : Str := "all some more many none half only not than equal world sort kinds plain a b z a0 az"
theorem tx_kinds : ∀ s ∈ Txt.split TX " ", Kind s := fun s hs => kindB_ok (List.all_eq_true.mp (show (Txt.split TX " ").all kindB = true by decide +kernel) s hs)
theorem tx_len : (Txt.split TX " ").length = 19 := by decide +kernel
theorem split_of {a b : Str} (hb : (b.length == 0) = false) (ha : a.length + 2 ≤ 16777216) : mSplit (.str a) [.str b] h = some (.fro ((Txt.split a b).map .str), h) := by
  unfold mSplit
  exact if_pos ⟨hb, ha⟩
theorem split_tx : mSplit (.str "all some more many none half only not than equal world sort kinds plain a b z a0 az") [.str " "] h = some (.fro ((Txt.split TX " ").map .str), h) := split_of (by decide +kernel) (by decide +kernel)
theorem r_kind (O : Ok (N + 14) o) : ∃ s o', f_n__law_kind [.ref 0] (o :: g) = .ok (.str s) (o' :: g) ∧ Kind s ∧ Ok N o' := by
  rw [e_n__law_kind]
  obtain ⟨r, o1, e1, _, _, O1⟩ := r_next (g := g) O (m := 5) (by omega) (by omega)
  by_cases hr : r = 0
  · obtain ⟨d, o2, e2, m2, O2⟩ := r_pick (g := g) (ds := (Txt.split TX " ").map .str) (Rows.fro (by rw [List.length_map, tx_len]; omega) (by rw [List.length_map, tx_len]; omega)) O1
    obtain ⟨s, hs, rfl⟩ := List.mem_map.mp m2
    refine ⟨s, o2, ?_, tx_kinds s hs, O2.mono (by omega)⟩
    have hi : ∀ h x, isT "str" h (.str x) = true := fun _ _ => rfl
    simp -implicitDefEqProofs [m_n__law_kind, e1, hr, split_tx, e2, hi]
    exact trim_same rfl
  · obtain ⟨r2, o2, e2, r20, r21, O2⟩ := r_next (g := g) O1 (m := 26) (by omega) (by omega)
    obtain ⟨c, hc, hix⟩ := ix_az r20 r21
    obtain ⟨d3, o3, e3, m3, O3⟩ := r_pick (g := g) (ds := [.int 0, .int 1, .int 2, .int 5, .int 11]) (Rows.fro (by simp) (by simp)) O2
    obtain ⟨n, hn, rfl⟩ : ∃ n : Nat, n ≤ 11 ∧ d3 = .int n := by
      simp only [List.mem_cons, List.not_mem_nil, or_false] at m3
      rcases m3 with rfl | rfl | rfl | rfl | rfl
      · exact ⟨0, by omega, rfl⟩
      · exact ⟨1, by omega, rfl⟩
      · exact ⟨2, by omega, rfl⟩
      · exact ⟨5, by omega, rfl⟩
      · exact ⟨11, by omega, rfl⟩
    have hr2 : ∀ g, rngK (.int (n : Int)) g = .ok (rangeD 0 n, fun _ => True) g := fun g => rngK_of (by omega) (by omega)
    obtain ⟨s, x, o4, e4, K4, O4⟩ := forL_inv (G := fun _ => True) (g := gSlot 2) (body := b_n__law_kind_1)
      (R := fun r => ∃ s x o', r = .nx [some (.ref 0), some (.str s), x, none] (o' :: g) ∧ Kind s ∧ Ok N o')
      (fun ds σ h' => ∃ s x o', σ = [some (.ref 0), some (.str s), x, none] ∧ h' = o' :: g ∧ Kind s ∧ s.cps.size + ds.length ≤ 12 ∧ Ok (N + ds.length) o')
      (fun σ h' ⟨s, x, o', e1, e2, K, l, O⟩ => ⟨trivial, s, x, o', by rw [e1, e2], K, O⟩)
      (fun d ds σ h' ⟨s, x, o', e1, e2, K, l, O⟩ => by
        subst e1 e2
        refine ⟨trivial, [some (.ref 0), some (.str s), some d, none], o' :: g, rfl, ?_⟩
        rw [List.length_cons] at l
        obtain ⟨r, o'', e, r0, r1, O''⟩ := r_next (g := g) (N := N + ds.length) O (m := 36) (by omega) (by omega)
        obtain ⟨c, hc, hix⟩ := ix_az9 r0 r1
        have hp : ∀ h, dPlus (.str s) (.str ⟨#[c]⟩) h = some (.str (s ++ ⟨#[c]⟩), h) := fun h => plus_str (by show s.cps.size + 1 ≤ _; omega)
        have hb : b_n__law_kind_1 [some (.ref 0), some (.str s), some d, none] (o' :: g) = .nx [some (.ref 0), some (.str (s ++ ⟨#[c]⟩)), some d, none] (o'' :: g) := by
          simp -implicitDefEqProofs [b_n__law_kind_1, e, hix, hp]
        rw [hb]
        exact ⟨_, _, o'', rfl, rfl, K.snoc hc (by omega), by rw [size_app]; show s.cps.size + 1 + ds.length ≤ 12; omega, O''⟩)
      (rangeD 0 n) [some (.ref 0), some (.str ⟨#[c]⟩), none, none] (o3 :: g) ⟨_, none, o3, rfl, rfl, Kind.one hc, by rw [rangeD_len]; show 1 + n ≤ 12; omega, O3.mono (by rw [rangeD_len]; omega)⟩
    refine ⟨s, o4, ?_, K4, O4⟩
    simp -implicitDefEqProofs [m_n__law_kind, e1, hr, e2, hix, e3, hr2, e4, -rngK_int]
    exact trim_same rfl
end P

namespace P
open PySem PySem.Spec PyProof.Rows L2 Q G
variable {h g : AH} {i j k : Int} {s t : Str} {b : Bool} {ds : List Q.D} {ks os : List Str} {N : Nat} {o : O}
/-! ### sorted texts -/
def leS (a b : Str) : Bool := !strLt b a
theorem leD_str {a b : Str} : leD (.str a) (.str b) = leS a b := by
  unfold leD leS
  rw [show pdG (.str a) = .str a from rfl, show pdG (.str b) = .str b from rfl, PySem.W.dataLt_str]
  rfl
theorem sortable_strs (hl : ks.length ≤ 16777216) : sortable (ks.map .str) = true := by
  unfold sortable
  simp only [Bool.and_eq_true, Bool.or_eq_true, List.all_eq_true, decide_eq_true_eq, List.length_map]
  refine ⟨⟨⟨⟨fun d hd => ?_, ?_⟩, .inr fun d hd => ?_⟩, hl⟩, fun d hd => ?_⟩
  · obtain ⟨s, _, rfl⟩ := List.mem_map.mp hd
    rfl
  · unfold alikeB
    rw [List.all_eq_true]
    intro p hp
    rw [List.all_eq_true]
    intro q hq
    rw [List.map_map] at hp hq
    obtain ⟨s, _, rfl⟩ := List.mem_map.mp hp
    obtain ⟨t, _, rfl⟩ := List.mem_map.mp hq
    show PySem.W.alike (.str s) (.str t) = true
    rw [PySem.W.alike]
  · rw [List.map_map] at hd
    obtain ⟨s, _, rfl⟩ := List.mem_map.mp hd
    rfl
  · obtain ⟨s, _, rfl⟩ := List.mem_map.mp hd
    show PyData.depth (.str s) ≤ 60
    simp [PyData.depth]
theorem sort_strs {n : Nat} (e : listAt h n = some (ks.map .str)) (hl : ks.length ≤ 16777216) : gSortF [.ref n] h = some (.fro ((ks.mergeSort leS).map .str), h) := by
  have e2 := listAt_some e
  unfold gSortF
  dsimp only
  rw [show lsq h (.ref n) = some (ks.map .str) from by unfold lsq; dsimp only; rw [e2]]
  dsimp only
  rw [if_pos (sortable_strs hl)]
  rw [← List.map_mergeSort (r := leS) (s := leD) (f := Q.D.str) (fun a _ b _ => leD_str.symm)]
theorem strLt_trans {a b c : Str} (h1 : strLt a b = true) (h2 : strLt b c = true) : strLt a c = true := decide_eq_true (List.lt_trans (of_decide_eq_true h1) (of_decide_eq_true h2))
theorem str_ext {a b : Str} (h : a.cps.toList = b.cps.toList) : a = b := by
  cases a; cases b
  simp only at h
  rw [Array.toList_inj.mp h]
theorem strLt_tri {a b : Str} (h1 : strLt a b = false) (h2 : strLt b a = false) : a = b := by
  refine str_ext (List.le_antisymm ?_ ?_)
  · exact List.not_lt.mp (of_decide_eq_false h2)
  · exact List.not_lt.mp (of_decide_eq_false h1)
theorem strLt_asymm {a b : Str} (h1 : strLt a b = true) (h2 : strLt b a = true) : False := List.lt_asymm (of_decide_eq_true h1) (of_decide_eq_true h2)
theorem asc_sort (nd : ks.Nodup) : Asc (ks.mergeSort leS) := by
  have hp : (ks.mergeSort leS).Pairwise fun a b => leS a b = true := List.pairwise_mergeSort (fun a b c h1 h2 => by
      unfold leS at *
      cases e : strLt c a with
      | false => rfl
      | true =>
        cases e2 : strLt b a with
        | true => rw [e2] at h1; cases h1
        | false =>
          cases e3 : strLt c b with
          | true => rw [e3] at h2; cases h2
          | false =>
            cases e4 : strLt a b with
            | true => rw [strLt_trans e e4] at e3; cases e3
            | false =>
              have := strLt_tri e4 e2
              subst this
              rw [e] at e3; cases e3)
    (fun a b => by
      unfold leS
      cases e : strLt b a with
      | false => rfl
      | true =>
        cases e2 : strLt a b with
        | false => rfl
        | true => exact (strLt_asymm e e2).elim) ks
  have hn : (ks.mergeSort leS).Nodup := (List.mergeSort_perm ks leS).nodup_iff.mpr nd
  refine (hp.and hn).imp fun {a b} hab => ?_
  obtain ⟨h1, h2⟩ := hab
  cases e : strLt a b with
  | true => rfl
  | false =>
    unfold leS at h1
    cases e2 : strLt b a with
    | true => rw [e2] at h1; cases h1
    | false => exact (h2 (strLt_tri e e2)).elim
end P

namespace P
open PySem PySem.Spec PyProof.Rows L2 Q G
variable {h g : AH} {i j k : Int} {s t : Str} {b : Bool} {ds : List Q.D} {ks os : List Str} {N : Nat} {o : O}
/-! ### kinds drawn: all of them -/
theorem sIx_some {l d : Nat} {n : Int} (h0 : 0 ≤ n) : HT.sIx l d (some n) = min n.toNat l := by
  have := HT.sIx_nat l d n.toNat
  rw [Int.toNat_of_nonneg h0] at this
  exact this
theorem cut_to {z : Str} {n : Int} (h0 : 0 ≤ n) : (cutS z none (some n)).cps.toList = z.cps.toList.take n.toNat := by
  have hl : z.cps.toList.length = z.length := Array.length_toList
  show ((z.cps.toList.drop (HT.sIx z.length 0 none)).take (HT.sIx z.length z.length (some n) - HT.sIx z.length 0 none)) = _
  rw [sIx_some h0, HT.sIx_none, List.drop_zero, Nat.sub_zero, ← hl]
  by_cases hn : n.toNat ≤ z.cps.toList.length
  · rw [Nat.min_eq_left hn]
  · rw [Nat.min_eq_right (by omega), List.take_length, List.take_of_length_le (by omega)]
theorem cut_from {z : Str} {n : Int} (h0 : 0 ≤ n) : (cutS z (some n) none).cps.toList = z.cps.toList.drop n.toNat := by
  have hl : z.cps.toList.length = z.length := Array.length_toList
  show ((z.cps.toList.drop (HT.sIx z.length 0 (some n))).take (HT.sIx z.length z.length none - HT.sIx z.length 0 (some n))) = _
  rw [sIx_some h0, HT.sIx_none, ← hl]
  by_cases hn : n.toNat ≤ z.cps.toList.length
  · rw [Nat.min_eq_left hn, List.take_of_length_le (by rw [List.length_drop]; omega)]
  · rw [Nat.min_eq_right (by omega), List.drop_length, List.drop_of_length_le (by omega), List.take_nil]
/-- a beginning of a kind -/
structure Stem (s : Str) : Prop where
  len : s.cps.size ≤ 10
  fst : ∃ c r, s.cps.toList = c :: r ∧ low c
  all : ∀ c ∈ s.cps.toList, low c ∨ dig c
theorem Kind.stem (K : Kind s) : Stem (cutS s none (some 10)) := by
  have e := cut_to (z := s) (n := 10) (by omega)
  obtain ⟨c, r, e1, hc⟩ := K.fst
  refine ⟨?_, ?_, fun x hx => ?_⟩
  · rw [← Array.length_toList, e, List.length_take]; show min 10 _ ≤ 10; omega
  · rw [e, e1]
    exact ⟨c, r.take 9, rfl, hc⟩
  · rw [e] at hx
    exact K.all x (List.mem_of_mem_take hx)
theorem size_of {s : Str} : s.cps.size = s.cps.toList.length := Array.length_toList.symm
theorem Stem.kind (S : Stem s) {n : Int} (h0 : 0 ≤ n) (h1 : n ≤ s.cps.size) {c d : Nat} (hc : low c) (hd : low d ∨ dig d) : Kind (((cutS s none (some n) ++ ⟨#[c]⟩) ++ ⟨#[d]⟩) ++ cutS s (some n) none) := by
  have e : (((cutS s none (some n) ++ ⟨#[c]⟩) ++ ⟨#[d]⟩) ++ cutS s (some n) none).cps.toList = s.cps.toList.take n.toNat ++ [c] ++ [d] ++ s.cps.toList.drop n.toNat := by
    rw [cps_app, cps_app, cps_app, cut_to h0, cut_from h0]
  have hl := S.len
  rw [size_of] at hl h1
  refine ⟨?_, ?_, fun x hx => ?_⟩
  · rw [size_of, e]
    simp only [List.length_append, List.length_take, List.length_drop, List.length_cons, List.length_nil]
    omega
  · rw [e]
    obtain ⟨a, r, ea, ha⟩ := S.fst
    rw [ea]
    cases hn : n.toNat with
    | zero => exact ⟨c, _, rfl, hc⟩
    | succ m => exact ⟨a, _, rfl, ha⟩
  · rw [e] at hx
    simp only [List.mem_append, List.mem_singleton] at hx
    rcases hx with ((hx | rfl) | rfl) | hx
    · exact S.all x (List.mem_of_mem_take hx)
    · exact .inl hc
    · exact hd
    · exact S.all x (List.mem_of_mem_drop hx)
theorem kind_a : Kind ("a" : Str) := kindB_ok (by decide +kernel)
theorem clo_ints {n : Nat} : ∀ ns : List Int, closeds n (ns.map Q.D.int) = true
  | [] => rfl
  | k :: ns => by rw [List.map_cons, closeds, clo_ints ns]; rfl
theorem ok_clo {n : Nat} (O : Ok N o) : closedO n o = true := by
  obtain ⟨cells, c, k, rfl, _⟩ := O
  show closeds n [.fro (cells.map .int), .int c, .int k] = true
  rw [closeds, closed, clo_ints]
  rfl
/-- what is forgotten behind the stream -/
theorem trim_str {o' : O} {x : AH} {d : Q.D} {bb : Bool} {N : Nat} (O : Ok N o') (hd : closed (g.length + 1) d = true) : trimR (o :: g) bb (.ok d (o' :: (g ++ x))) = .ok d (o' :: g) :=
  trim_drop (h := o :: g) (h1 := o' :: g) (g := x) rfl (fun y m => by
    rcases List.mem_cons.mp m with rfl | m
    · exact .inr (ok_clo O)
    · exact .inl (List.mem_cons_of_mem _ m)) hd
theorem la_last {o' : O} {xs : List Q.D} : Q.listAt (o' :: (g ++ [.lst xs])) (g.length + 1) = some xs := listAt_eq (by simp)
theorem app_last {o' : O} {xs : List Q.D} {d : Q.D} (hl : xs.length < 16777216) : mAppend (.ref (g.length + 1)) [d] (o' :: (g ++ [.lst xs])) = some (.non, o' :: (g ++ [.lst (xs ++ [d])])) := by
  unfold mAppend
  dsimp only
  rw [la_last]
  dsimp only
  rw [if_pos hl, List.set_cons_succ, last_set]
theorem isT_last {o' : O} {xs : List Q.D} : isT "list" (o' :: (g ++ [.lst xs])) (.ref (g.length + 1)) = true := by
  simp [isT, lsq]
/-! the numbered names -/
def azc (n : Int) : Nat := AZ.cps.toList.getD n.toNat 0
def azd (n : Int) : Nat := AZ9.cps.toList.getD n.toNat 0
theorem getD_inj {l : List Nat} (nd : l.Nodup) {i j : Nat} (hi : i < l.length) (hj : j < l.length) (e : l.getD i 0 = l.getD j 0) : i = j := by
  rw [List.getD_eq_getElem?_getD, List.getD_eq_getElem?_getD, List.getElem?_eq_getElem hi, List.getElem?_eq_getElem hj, Option.getD_some, Option.getD_some] at e
  exact (List.getElem_inj nd).mp e
theorem azc_inj {i j : Int} (i0 : 0 ≤ i) (i1 : i < 26) (j0 : 0 ≤ j) (j1 : j < 26) (e : azc i = azc j) : i = j := by
  have := getD_inj (l := AZ.cps.toList) (by decide +kernel) (by rw [az_len]; omega) (by rw [az_len]; omega) e
  omega
theorem azd_inj {i j : Int} (i0 : 0 ≤ i) (i1 : i < 36) (j0 : 0 ≤ j) (j1 : j < 36) (e : azd i = azd j) : i = j := by
  have := getD_inj (l := AZ9.cps.toList) (by decide +kernel) (by rw [az9_len]; omega) (by rw [az9_len]; omega) e
  omega
theorem ix_azc {i : Int} (h0 : 0 ≤ i) (h1 : i < 26) : low (azc i) ∧ ∀ h, dIx (.str "abcdefghijklmnopqrstuvwxyz") (.int i) h = some (.str ⟨#[azc i]⟩, h) := by
  have hl : i.toNat < AZ.cps.toList.length := by rw [az_len]; omega
  have e : AZ.cps.toList[i.toNat]? = some (azc i) := by rw [azc, List.getD_eq_getElem?_getD, List.getElem?_eq_getElem hl, Option.getD_some]
  refine ⟨az_low _ (List.mem_of_getElem? e), fun h => ?_⟩
  obtain ⟨c, ec, at1⟩ := atI_i (xs := AZ.cps.toList) h0 (by rw [az_len]; omega)
  rw [e] at ec
  cases ec
  show dIx (.str AZ) (.int i) h = _
  rw [ix_str'' (by decide +kernel), at1]
  rfl
theorem ix_azd {i : Int} (h0 : 0 ≤ i) (h1 : i < 36) : (low (azd i) ∨ dig (azd i)) ∧ ∀ h, dIx (.str "abcdefghijklmnopqrstuvwxyz0123456789") (.int i) h = some (.str ⟨#[azd i]⟩, h) := by
  have hl : i.toNat < AZ9.cps.toList.length := by rw [az9_len]; omega
  have e : AZ9.cps.toList[i.toNat]? = some (azd i) := by rw [azd, List.getD_eq_getElem?_getD, List.getElem?_eq_getElem hl, Option.getD_some]
  refine ⟨az9_ok _ (List.mem_of_getElem? e), fun h => ?_⟩
  obtain ⟨c, ec, at1⟩ := atI_i (xs := AZ9.cps.toList) h0 (by rw [az9_len]; omega)
  rw [e] at ec
  cases ec
  show dIx (.str AZ9) (.int i) h = _
  rw [ix_str'' (by decide +kernel), at1]
  rfl
def nmd (sa sb : Str) (n : Int) : Str := ((sa ++ ⟨#[azc (n / 36)]⟩) ++ ⟨#[azd (n % 36)]⟩) ++ sb
theorem nmd_inj {sa sb : Str} {n m : Int} (n0 : 0 ≤ n) (n1 : n < 936) (m0 : 0 ≤ m) (m1 : m < 936) (e : nmd sa sb n = nmd sa sb m) : n = m := by
  have e2 := congrArg (fun s : Str => s.cps.toList) e
  simp only [nmd, cps_app] at e2
  rw [List.append_left_inj] at e2
  have e3 := List.append_inj' e2 rfl
  have e4 := List.append_inj' e3.1 rfl
  have q1 : azc (n / 36) = azc (m / 36) := by simpa using e4.2
  have q2 : azd (n % 36) = azd (m % 36) := by simpa using e3.2
  have h1 := azc_inj (by omega) (by omega) (by omega) (by omega) q1
  have h2 := azd_inj (by omega) (by omega) (by omega) (by omega) q2
  omega
theorem len_cover {fs gs : List Str} (nd : gs.Nodup) (h : ∀ x ∈ gs, x ∈ fs) : gs.length ≤ fs.length := nd.length_le_of_subset h
/-- the numbered names from s on are there -/
def Cov (sa sb : Str) (fi : Int) (st : Nat) (fs : List Str) (i : Nat) : Prop := ∀ j : Nat, st ≤ j → j < i → nmd sa sb ((fi + (j : Int) * 7) % 936) ∈ fs
theorem cov_len {sa sb : Str} {fi : Int} {st : Nat} {fs : List Str} (h : Cov sa sb fi st fs 2000) (hs : st ≤ 93) : 31 ≤ fs.length := by
  have := len_cover (fs := fs) (gs := (List.range 31).map fun t => nmd sa sb ((fi + ((st + t : Nat) : Int) * 7) % 936)) ?_ ?_
  · simpa using this
  · refine List.Pairwise.map _ (R := fun a c => a < c ∧ c < 31) (fun a c hac e => ?_) ?_
    · have := nmd_inj (Int.emod_nonneg _ (by omega)) (Int.emod_lt_of_pos _ (by omega)) (Int.emod_nonneg _ (by omega)) (Int.emod_lt_of_pos _ (by omega)) e
      omega
    · exact List.Pairwise.imp_of_mem (fun {a c} ha hc hlt => ⟨hlt, List.mem_range.mp hc⟩) List.pairwise_lt_range
  · intro x hx
    obtain ⟨t, ht, rfl⟩ := List.mem_map.mp hx
    have := List.mem_range.mp ht
    exact h (st + t) (by omega) (by omega)
theorem rangeD_cons {lo : Int} {n : Nat} : rangeD lo (n + 1) = .int lo :: rangeD (lo + 1) n := by
  simp only [rangeD, List.range_succ_eq_map, List.map_cons, List.map_map]
  congr 1
  · simp
  · apply List.map_congr_left
    intro a _
    simp only [Function.comp]
    congr 1
    omega
/-- exactly so many kinds, ascending -/
theorem r_kindsN {many : Int} (m1 : 1 ≤ many) (m2 : many ≤ 31) (O : Ok (N + 40000) o) : ∃ ks o', f_n__law_kinds [.ref 0, .int many] (o :: g) = .ok (ksD ks) (o' :: g) ∧ (∀ k ∈ ks, Kind k) ∧ Asc ks ∧ (ks.length : Int) = many ∧ Ok N o' := by
  rw [e_n__law_kinds]
  obtain ⟨s0, o1, e1, K1, O1⟩ := r_kind (N := N + 39900) (g := g ++ [.lst []]) (O.mono (by omega))
  have S := K1.stem
  generalize hst : cutS s0 none (some 10) = st at S
  have hS := S.len
  obtain ⟨at', o2, e2, a0, a1, O2⟩ := r_next (N := N + 39800) (g := g ++ [.lst []]) (m := (st.cps.size : Int) + 1) (O1.mono (by omega)) (by omega) (by omega)
  obtain ⟨fi, o3, e3, f0, f1, O3⟩ := r_next (N := N + 39700) (g := g ++ [.lst []]) (m := 936) (O2.mono (by omega)) (by omega) (by omega)
  obtain ⟨cl, o4, e4, c0, c1, O4⟩ := r_next (N := N + 39600) (g := g ++ [.lst []]) (m := 2) (O3.mono (by omega)) (by omega) (by omega)
  obtain ⟨M, hr, hM⟩ : ∃ M : Nat, (∀ g, rngK (.int 2000) g = .ok (rangeD 0 M, fun _ => True) g) ∧ M = 2000 := ⟨Int.toNat 2000, fun g => rngK_of (by decide) (by decide), rfl⟩
  have n1 := g.length + 1
  obtain ⟨s, hs1, hs2, hs3⟩ : ∃ s : Nat, (cl = 1 → s = 0) ∧ (cl = 0 → (s : Int) = 3 * many) ∧ s ≤ 93 := by
    by_cases hc : cl = 1
    · exact ⟨0, fun _ => rfl, fun z => by omega, by omega⟩
    · exact ⟨(3 * many).toNat, fun z => absurd z hc, fun _ => by omega, by omega⟩
  obtain ⟨x7, x8, x9, fs, o5, e5, nd, kk, l1, O5⟩ := forL_inv (G := fun _ => True) (g := gSlot 7) (body := b_n__law_kinds_1)
    (R := fun r => ∃ (x7 x8 x9 : Option Q.D) (fs : List Str) (o' : Q.O), r = .nx [some (.ref 0), some (.int many), some (.ref (g.length + 1)), some (.str st), some (.int at'), some (.int fi), some (.int cl), x7, x8, x9] (o' :: (g ++ [.lst (fs.map .str)])) ∧ fs.Nodup ∧ (∀ k ∈ fs, Kind k) ∧ (fs.length : Int) = many ∧ Ok N o')
    (fun ds σ h' => ∃ (x7 x8 x9 : Option Q.D) (fs : List Str) (o' : Q.O), σ = [some (.ref 0), some (.int many), some (.ref (g.length + 1)), some (.str st), some (.int at'), some (.int fi), some (.int cl), x7, x8, x9] ∧ h' = o' :: (g ++ [.lst (fs.map .str)]) ∧ fs.Nodup ∧ (∀ k ∈ fs, Kind k) ∧ Cov (cutS st none (some at')) (cutS st (some at') none) fi s fs (M - ds.length) ∧ fs.length ≤ many ∧ Ok (N + 15 * ds.length) o' ∧ ds = rangeD ((M - ds.length : Nat) : Int) ds.length ∧ ds.length ≤ M)
    (fun σ h' ⟨x7, x8, x9, fs, o', e1, e2, nd, kk, l1, l2, O, _⟩ => ⟨trivial, x7, x8, x9, fs, o', by rw [e1, e2], nd, kk, by
      rw [List.length_nil, Nat.sub_zero, hM] at l1
      have := cov_len l1 hs3
      omega, O.mono (by omega)⟩)
    (fun d ds σ h' ⟨x7, x8, x9, fs, o', e1, e2, nd, kk, l1, l2, O, hd⟩ => by
      subst e1 e2
      rw [List.length_cons] at hd
      obtain ⟨hd, hdl⟩ := hd
      rw [rangeD_cons] at hd
      obtain ⟨i, hii, hi⟩ : ∃ i : Nat, i = M - (ds.length + 1) ∧ i < 2000 := ⟨_, rfl, by omega⟩
      rw [← hii] at hd
      have hds : ds = rangeD ((M - ds.length : Nat) : Int) ds.length := by
        have := (List.cons.inj hd).2
        rw [show ((M - ds.length : Nat) : Int) = (i : Int) + 1 by omega]
        exact this
      obtain rfl := (List.cons.inj hd).1
      refine ⟨trivial, [some (.ref 0), some (.int many), some (.ref (g.length + 1)), some (.str st), some (.int at'), some (.int fi), some (.int cl), some (.int i), x8, x9], o' :: (g ++ [.lst (fs.map .str)]), rfl, ?_⟩
      have hlen := len_ref (h := o' :: (g ++ [.lst (fs.map .str)])) (n := g.length + 1) la_last
      rw [List.length_map] at hlen
      by_cases hm : (fs.length : Int) = many
      · have hb : b_n__law_kinds_1 [some (.ref 0), some (.int many), some (.ref (g.length + 1)), some (.str st), some (.int at'), some (.int fi), some (.int cl), some (.int i), x8, x9] (o' :: (g ++ [.lst (fs.map .str)])) = .bk [some (.ref 0), some (.int many), some (.ref (g.length + 1)), some (.str st), some (.int at'), some (.int fi), some (.int cl), some (.int i), x8, x9] (o' :: (g ++ [.lst (fs.map .str)])) := by
          simp -implicitDefEqProofs [b_n__law_kinds_1, hlen, hm]
        rw [hb]
        exact ⟨some (.int i), x8, x9, fs, o', rfl, nd, kk, hm, O.mono (by omega)⟩
      · rw [List.length_cons] at O l1
        -- the name is put down if it is new
        have fin : ∀ (nm : Str) (o2 : Q.O) (x9' : Option Q.D) (r : Out), (s ≤ i → nm = nmd (cutS st none (some at')) (cutS st (some at') none) ((fi + (i : Int) * 7) % 936)) → Kind nm → Ok (N + 15 * ds.length) o2 →
            r = (if nm ∈ fs then .nx [some (.ref 0), some (.int many), some (.ref (g.length + 1)), some (.str st), some (.int at'), some (.int fi), some (.int cl), some (.int i), some (.str nm), x9'] (o2 :: (g ++ [.lst (fs.map .str)]))
              else .nx [some (.ref 0), some (.int many), some (.ref (g.length + 1)), some (.str st), some (.int at'), some (.int fi), some (.int cl), some (.int i), some (.str nm), x9'] (o2 :: (g ++ [.lst ((fs ++ [nm]).map .str)]))) →
            (match r with
              | .nx σ2 h2 => ∃ (x7 x8 x9 : Option Q.D) (fs : List Str) (o' : Q.O), σ2 = [some (.ref 0), some (.int many), some (.ref (g.length + 1)), some (.str st), some (.int at'), some (.int fi), some (.int cl), x7, x8, x9] ∧ h2 = o' :: (g ++ [.lst (fs.map .str)]) ∧ fs.Nodup ∧ (∀ k ∈ fs, Kind k) ∧ Cov (cutS st none (some at')) (cutS st (some at') none) fi s fs (M - ds.length) ∧ fs.length ≤ many ∧ Ok (N + 15 * ds.length) o' ∧ ds = rangeD ((M - ds.length : Nat) : Int) ds.length ∧ ds.length ≤ M
              | .ct σ2 h2 => ∃ (x7 x8 x9 : Option Q.D) (fs : List Str) (o' : Q.O), σ2 = [some (.ref 0), some (.int many), some (.ref (g.length + 1)), some (.str st), some (.int at'), some (.int fi), some (.int cl), x7, x8, x9] ∧ h2 = o' :: (g ++ [.lst (fs.map .str)]) ∧ fs.Nodup ∧ (∀ k ∈ fs, Kind k) ∧ Cov (cutS st none (some at')) (cutS st (some at') none) fi s fs (M - ds.length) ∧ fs.length ≤ many ∧ Ok (N + 15 * ds.length) o' ∧ ds = rangeD ((M - ds.length : Nat) : Int) ds.length ∧ ds.length ≤ M
              | .bk σ2 h2 => ∃ (x7 x8 x9 : Option Q.D) (fs : List Str) (o' : Q.O), Out.nx σ2 h2 = .nx [some (.ref 0), some (.int many), some (.ref (g.length + 1)), some (.str st), some (.int at'), some (.int fi), some (.int cl), x7, x8, x9] (o' :: (g ++ [.lst (fs.map .str)])) ∧ fs.Nodup ∧ (∀ k ∈ fs, Kind k) ∧ (fs.length : Int) = many ∧ Ok N o'
              | r => ∃ (x7 x8 x9 : Option Q.D) (fs : List Str) (o' : Q.O), r = .nx [some (.ref 0), some (.int many), some (.ref (g.length + 1)), some (.str st), some (.int at'), some (.int fi), some (.int cl), x7, x8, x9] (o' :: (g ++ [.lst (fs.map .str)])) ∧ fs.Nodup ∧ (∀ k ∈ fs, Kind k) ∧ (fs.length : Int) = many ∧ Ok N o') := fun nm o2 x9' r hcv kn O2 er => by
          have cov2 : ∀ fs', (∀ x ∈ fs, x ∈ fs') → nm ∈ fs' → Cov (cutS st none (some at')) (cutS st (some at') none) fi s fs' (M - ds.length) := fun fs' h1 h2 j j0 j1 => by
            by_cases hj : j = i
            · rw [hj, ← hcv (by omega)]; exact h2
            · exact h1 _ (l1 j j0 (by omega))
          by_cases hin : nm ∈ fs
          · rw [if_pos hin] at er
            subst er
            exact ⟨some (.int i), some (.str nm), x9', fs, o2, rfl, rfl, nd, kk, cov2 fs (fun _ h => h) hin, l2, O2, hds, by omega⟩
          · rw [if_neg hin] at er
            subst er
            refine ⟨some (.int i), some (.str nm), x9', fs ++ [nm], o2, rfl, rfl, ?_, fun k m => ?_, cov2 _ (fun _ h => List.mem_append_left _ h) (by simp), by rw [List.length_append, List.length_singleton]; omega, O2, hds, by omega⟩
            · rw [List.nodup_append]
              exact ⟨nd, by simp, fun a ha c hc => by rw [List.mem_singleton.mp hc]; exact fun z => hin (z ▸ ha)⟩
            · rcases List.mem_append.mp m with m | m
              · exact kk k m
              · rw [List.mem_singleton.mp m]; exact kn
        have hfs : (fs.map Q.D.str).length < 16777216 := by rw [List.length_map]; omega
        have m3 : ∀ g, dMul (.int 3) (.int many) g = some (.int (3 * many), g) := fun g => mul_ok (by omega) (by omega) (by omega) (by omega)
        have m7 : ∀ g, dMul (.int i) (.int 7) g = some (.int ((i : Int) * 7), g) := fun g => mul_ok (by omega) (by omega) (by omega) (by omega)
        by_cases hA : cl = 0 ∧ (i : Int) < 3 * many
        · obtain ⟨nm, o2, en, kn, O2⟩ := r_kind (N := N + 15 * ds.length) (g := g ++ [.lst (fs.map .str)]) (O.mono (by omega))
          refine fin nm o2 x9 _ (fun z => by have := hs2 hA.1; omega) kn O2 ?_
          obtain ⟨hA1, hA2⟩ := hA
          have hB : ¬ 3 * many ≤ (i : Int) := by omega
          by_cases hin : nm ∈ fs
          · simp -implicitDefEqProofs [b_n__law_kinds_1, hlen, hm, hA1, hA2, m3, en, in_ref (ks := fs) (n := g.length + 1) la_last, hin, hB, -run_dInt]
          · simp -implicitDefEqProofs [b_n__law_kinds_1, hlen, hm, hA1, hA2, m3, en, in_ref (ks := fs) (n := g.length + 1) la_last, hin, hB, app_last hfs, isT_last, -run_dInt]
        · have hB : (cl = 0 ∧ 3 * many ≤ (i : Int)) ∨ cl = 1 := by omega
          obtain ⟨num, hnum⟩ : ∃ num : Int, num = (fi + (i : Int) * 7) % 936 := ⟨_, rfl⟩
          have hmod : ∀ g, dMod (.int (fi + (i : Int) * 7)) (.int 936) g = some (.int num, g) := fun g => hnum ▸ mod_ok (by omega)
          have u0 : 0 ≤ num := hnum ▸ Int.emod_nonneg _ (by omega)
          have u1 : num < 936 := hnum ▸ Int.emod_lt_of_pos _ (by omega)
          have hdiv : ∀ g, dDiv (.int num) (.int 36) g = some (.int (num / 36), g) := fun g => div_ok (by omega) (by omega)
          have hmod2 : ∀ g, dMod (.int num) (.int 36) g = some (.int (num % 36), g) := fun g => mod_ok (by omega)
          obtain ⟨hc, hix⟩ := ix_azc (i := num / 36) (by omega) (by omega)
          obtain ⟨hc', hix'⟩ := ix_azd (i := num % 36) (by omega) (by omega)
          have hcv0 : nmd (cutS st none (some at')) (cutS st (some at') none) num = (((cutS st none (some at') ++ ⟨#[azc (num / 36)]⟩) ++ ⟨#[azd (num % 36)]⟩) ++ cutS st (some at') none) := rfl
          rw [hnum] at hcv0
          rw [← hnum] at hcv0
          generalize azc (num / 36) = c at *
          generalize azd (num % 36) = c' at *
          have kn := S.kind a0 (by omega) hc hc'
          have sl1 : ∀ g, dSl (.str st) none (some at') g = some (.str (cutS st none (some at')), g) := fun g => if_pos (by show st.cps.size ≤ _; omega)
          have sl2 : ∀ g, dSl (.str st) (some at') none g = some (.str (cutS st (some at') none), g) := fun g => if_pos (by show st.cps.size ≤ _; omega)
          have z1 := kn.len
          generalize cutS st none (some at') = sa at *
          generalize cutS st (some at') none = sb at *
          rw [size_app, size_app, size_app] at z1
          have p1 : ∀ h, dPlus (.str sa) (.str ⟨#[c]⟩) h = some (.str (sa ++ ⟨#[c]⟩), h) := fun h => plus_str (by show sa.cps.size + 1 ≤ _; omega)
          have p2 : ∀ h, dPlus (.str (sa ++ ⟨#[c]⟩)) (.str ⟨#[c']⟩) h = some (.str ((sa ++ ⟨#[c]⟩) ++ ⟨#[c']⟩), h) := fun h => plus_str (by show (sa ++ ⟨#[c]⟩ : Str).cps.size + 1 ≤ _; rw [size_app]; show sa.cps.size + 1 + 1 ≤ _; omega)
          have p3 : ∀ h, dPlus (.str ((sa ++ ⟨#[c]⟩) ++ ⟨#[c']⟩)) (.str sb) h = some (.str (((sa ++ ⟨#[c]⟩) ++ ⟨#[c']⟩) ++ sb), h) := fun h => plus_str (by show ((sa ++ ⟨#[c]⟩) ++ ⟨#[c']⟩ : Str).cps.size + sb.cps.size ≤ _; rw [size_app, size_app]; omega)
          generalize (((sa ++ ⟨#[c]⟩) ++ ⟨#[c']⟩) ++ sb : Str) = nm at *
          refine fin nm o' (some (.int num)) _ (fun _ => by rw [← hnum]; exact hcv0.symm) kn (O.mono (by omega)) ?_
          clear hnum hcv0
          rcases hB with ⟨q1, q2⟩ | q1
          · have q3 : ¬ (i : Int) < 3 * many := by omega
            by_cases hin : nm ∈ fs
            · simp -implicitDefEqProofs [b_n__law_kinds_1, hlen, hm, q1, q2, q3, m3, m7, hmod, hdiv, hmod2, hix, hix', sl1, sl2, p1, p2, p3, in_ref (ks := fs) (n := g.length + 1) la_last, hin, -run_dInt]
            · simp -implicitDefEqProofs [b_n__law_kinds_1, hlen, hm, q1, q2, q3, m3, m7, hmod, hdiv, hmod2, hix, hix', sl1, sl2, p1, p2, p3, in_ref (ks := fs) (n := g.length + 1) la_last, hin, app_last hfs, isT_last, -run_dInt]
          · by_cases hin : nm ∈ fs
            · simp -implicitDefEqProofs [b_n__law_kinds_1, hlen, hm, q1, m3, m7, hmod, hdiv, hmod2, hix, hix', sl1, sl2, p1, p2, p3, in_ref (ks := fs) (n := g.length + 1) la_last, hin, -run_dInt]
            · simp -implicitDefEqProofs [b_n__law_kinds_1, hlen, hm, q1, m3, m7, hmod, hdiv, hmod2, hix, hix', sl1, sl2, p1, p2, p3, in_ref (ks := fs) (n := g.length + 1) la_last, hin, app_last hfs, isT_last, -run_dInt])
    (rangeD 0 M) [some (.ref 0), some (.int many), some (.ref (g.length + 1)), some (.str st), some (.int at'), some (.int fi), some (.int cl), none, none, none] (o4 :: (g ++ [.lst []]))
    ⟨none, none, none, [], o4, rfl, rfl, List.nodup_nil, (fun _ m => nomatch m), (fun j _ j1 => by rw [rangeD_len] at j1; omega), by simp; omega, O4.mono (by rw [rangeD_len]; omega), by rw [rangeD_len, Nat.sub_self]; rfl, by rw [rangeD_len]; omega⟩
  have srt := sort_strs (h := o5 :: (g ++ [.lst (fs.map .str)])) (n := g.length + 1) (ks := fs) la_last (by omega)
  have pm := List.mergeSort_perm fs leS
  refine ⟨fs.mergeSort leS, o5, ?_, fun k m => kk k (pm.mem_iff.mp m), asc_sort nd, by rw [pm.length_eq]; exact l1, O5⟩
  have sl0 : ∀ g, dSl (.str s0) none (some 10) g = some (.str st, g) := fun g => hst ▸ if_pos (by have := K1.len; show s0.cps.size ≤ _; omega)
  have ln : ∀ g, gLen [.str st] g = some (.int (st.cps.size : Int), g) := fun g => len_str' (by show st.cps.size ≤ _; omega)
  simp -implicitDefEqProofs [m_n__law_kinds, e1, sl0, ln, e2, e3, e4, hr, e5, srt, -rngK_int]
  exact trim_str O5 clo_ks
theorem r_kinds {many : Int} (m1 : 1 ≤ many) (m2 : many ≤ 30) (O : Ok (N + 40000) o) : ∃ ks o', f_n__law_kinds [.ref 0, .int many] (o :: g) = .ok (ksD ks) (o' :: g) ∧ Kinds ks ∧ Ok N o' := by
  obtain ⟨ks, o', e, h1, h2, h3, O'⟩ := r_kindsN m1 (by omega) O
  exact ⟨ks, o', e, ⟨h1, h2, by omega, by omega⟩, O'⟩
end P

namespace P
open PySem PySem.Spec PyProof.Rows L2 Q G
variable {h g : AH} {i j k : Int} {s t : Str} {b : Bool} {ds : List Q.D} {ks os : List Str} {N : Nat} {o : O}
/-! ### the law's own translation -/
theorem lk_get : ∀ {ks : List Str} {ts : List Tm} {x : Str} {n : Nat}, ts.length = ks.length → ks.Nodup → ks[n]? = some x → ts[n]? = some (lk ks ts x)
  | [], _, _, _, _, _, e => by simp at e
  | k :: ks, [], _, _, l, _, _ => by cases l
  | k :: ks, t :: ts, x, 0, l, nd, e => by
    simp at e
    subst e
    simp [lk]
  | k :: ks, t :: ts, x, n + 1, l, nd, e => by
    rw [List.nodup_cons] at nd
    have e' : ks[n]? = some x := by simpa using e
    have ne : ¬ k = x := fun z => nd.1 (z ▸ List.mem_of_getElem? e')
    simp only [lk, ne, if_false]
    simpa using lk_get (by simpa using l) nd.2 e'
theorem Kinds.nodup (K : Kinds ks) : ks.Nodup := K.asc.imp fun {a b} hab e => by
  subst e
  exact List.lt_irrefl _ (of_decide_eq_true hab)
theorem filter_one {ks : List Str} {x : Str} (nd : ks.Nodup) {n : Nat} (e : ks[n]? = some x) : (List.range ks.length).filter (fun i => decide (ks[i]? = some x)) = [n] := by
  have hn := (List.getElem?_eq_some_iff.mp e).1
  have : ∀ m, m ≤ ks.length → (List.range m).filter (fun i => decide (ks[i]? = some x)) = if n < m then [n] else [] := by
    intro m
    induction m with
    | zero => intro _; simp
    | succ m ih =>
      intro hm
      rw [List.range_succ, List.filter_append, ih (by omega)]
      by_cases hmn : m = n
      · subst hmn
        simp [e]
      · have : ¬ ks[m]? = some x := fun z => hmn ((List.getElem?_inj (by omega) nd).mp (z.trans e.symm))
        simp [this]
        by_cases h1 : n < m
        · simp [h1, show n < m + 1 by omega]
        · simp [h1, show ¬ n < m + 1 by omega]
  rw [this _ (Nat.le_refl _), if_pos hn]
end P

namespace P
open PySem PySem.Spec PyProof.Rows L2 Q G
variable {h g : AH} {i j k : Int} {s t : Str} {b : Bool} {ds : List Q.D} {ks os : List Str} {N : Nat} {o : O}
/-! ### terms drawn -/
/-- what a comprehension that draws keeps -/
def Sh (g : AH) (P : O → Prop) (h : AH) : Prop := ∃ o, h = o :: g ∧ P o
theorem Rows.kinds (K : Kinds ks) : Rows g (ksD ks) (ks.map .str) := Rows.tup (by have := K.pos; rw [List.length_map]; omega) (by have := K.most; simp; omega)
theorem terms_of {ys : List Q.D} (h : ∀ y ∈ ys, ∃ t : Tm, y = tmD t ∧ t.1 ∈ os) : ∃ ts : List Tm, ys = ts.map tmD ∧ ∀ t ∈ ts, t.1 ∈ os := by
  induction ys with
  | nil => exact ⟨[], rfl, fun _ m => nomatch m⟩
  | cons y ys ih =>
    obtain ⟨t, rfl, ht⟩ := h y List.mem_cons_self
    obtain ⟨ts, rfl, hts⟩ := ih fun z hz => h z (List.mem_cons_of_mem _ hz)
    refine ⟨t :: ts, rfl, fun u hu => ?_⟩
    rcases List.mem_cons.mp hu with rfl | hu
    · exact ht
    · exact hts u hu
/-- a comprehension that draws: what holds of the heap by the turns that are left, and of each item -/
theorem lc_draw {G : AH → Prop} {g : MG} {m : M} {σ : AS} {J : Nat → AH → Prop} {T : Q.D → Prop} (hG : ∀ n h, J n h → G h) : ∀ (ds acc : List Q.D) (h : AH), J ds.length h → (∀ d ∈ ds, ∀ n h, J (n + 1) h → ∃ σ1 y h2, g d σ h = some (σ1, h) ∧ m σ1 h = .ok y h2 ∧ J n h2 ∧ T y) → acc.length + ds.length ≤ 16777216 →
    ∃ ys h', lcL G g tYesM m σ ds acc h = .ok (acc ++ ys) h' ∧ J 0 h' ∧ ys.length = ds.length ∧ ∀ y ∈ ys, T y
  | [], acc, h, j, _, _ => ⟨[], h, by rw [lcL, if_pos (hG _ h j)]; simp, j, rfl, by simp⟩
  | d :: ds, acc, h, j, hd, hl => by
    obtain ⟨σ1, y, h2, a, b, j2, ty⟩ := hd d List.mem_cons_self _ h j
    rw [List.length_cons] at hl
    obtain ⟨ys, h', e, j', l, tys⟩ := lc_draw hG ds (acc ++ [y]) h2 j2 (fun x hx => hd x (List.mem_cons_of_mem _ hx)) (by simp; omega)
    refine ⟨y :: ys, h', ?_, j', by rw [List.length_cons, List.length_cons, l], fun z hz => ?_⟩
    · rw [lcL, if_pos (hG _ h j), a]
      dsimp only
      rw [run_tYes]
      dsimp only
      rw [b]
      dsimp only
      rw [if_pos (by omega), e]
      simp
    · rcases List.mem_cons.mp hz with rfl | hz
      · exact ty
      · exact tys z hz
/-- the draws of a comprehension over the stream -/
theorem lc_terms {g : AH} {mg : MG} {m : M} {σ : AS} (ds : List Q.D) (c : Nat) {o : Q.O} (O : Ok (N + c * ds.length) o) (hl : ds.length ≤ 30)
    (hd : ∀ d ∈ ds, ∀ n o, Ok (N + c * (n + 1)) o → ∃ (σ1 : AS) (t : Tm) (o2 : Q.O), mg d σ (o :: g) = some (σ1, o :: g) ∧ m σ1 (o :: g) = .ok (tmD t) (o2 :: g) ∧ Ok (N + c * n) o2 ∧ t.1 ∈ os) :
    ∃ (ts : List Tm) (o' : Q.O), lcL (fun _ => True) mg tYesM m σ ds [] (o :: g) = .ok (ts.map tmD) (o' :: g) ∧ Ok N o' ∧ ts.length = ds.length ∧ ∀ t ∈ ts, t.1 ∈ os := by
  obtain ⟨ys, h', e, ⟨o', rfl, O'⟩, l, ty⟩ := lc_draw (G := fun _ => True) (J := fun n h => ∃ o, h = o :: g ∧ Ok (N + c * n) o) (T := fun y => ∃ t : Tm, y = tmD t ∧ t.1 ∈ os) (fun _ _ _ => trivial) ds [] (o :: g) ⟨o, rfl, O⟩
    (fun d hdm n h ⟨o1, eh, O1⟩ => by
      subst eh
      obtain ⟨σ1, t, o2, a, b, O2, ht⟩ := hd d hdm n o1 O1
      exact ⟨σ1, tmD t, o2 :: g, a, b, ⟨o2, rfl, O2⟩, t, rfl, ht⟩) (by simp; omega)
  obtain ⟨ts, rfl, hts⟩ := terms_of ty
  exact ⟨ts, o', by simpa using e, by simpa using O', by simpa using l, hts⟩
end P

namespace P
open PySem PySem.Spec PyProof.Rows L2 Q G
variable {h g : AH} {i j k : Int} {s t : Str} {b : Bool} {ds : List Q.D} {ks os : List Str} {N : Nat} {o : O}
/-! ### questions drawn -/
theorem rows_last {xs : List Q.D} (h0 : 0 < xs.length) (h1 : xs.length ≤ 1000000) : Rows (g ++ [.lst xs]) (.ref (g.length + 1)) xs :=
  ⟨fun o => len_ref la_last, fun o i => ix_ref la_last, h0, h1⟩
theorem tup_last {o' : O} {xs : List Q.D} : gTuple [.ref (g.length + 1)] (o' :: (g ++ [.lst xs])) = some (.tup xs, o' :: (g ++ [.lst xs])) := tuple_ref la_last
end P

namespace P
open PySem PySem.Spec PyProof.Rows L2 Q G
variable {h g : AH} {i j k : Int} {s t : Str} {b : Bool} {ds : List Q.D} {ks os : List Str} {N : Nat} {o : O}
/-! ### a list and a dict of what stands in it -/
section
variable {α : Type} [DecidableEq α] (E : KeyEnc α)
def H2 (h : AH) (fs : List Q.D) (as : List α) : AH := h ++ [.lst fs, .dt (E.set as)]
theorem h2_list {fs : List Q.D} {as : List α} : Q.listAt (H2 E h fs as) h.length = some fs := listAt_eq (by simp [H2])
theorem h2_obj {fs : List Q.D} {as : List α} : objAt (H2 E h fs as) (.ref (h.length + 1)) = some (.dt (E.set as)) := by
  show (h ++ [O.lst fs, .dt (E.set as)])[h.length + 1]? = _
  rw [List.getElem?_append_right (by omega)]
  simp
theorem h2_in {fs : List Q.D} {as : List α} {a : α} {neg : Bool} : dIn neg (E.enc a) (.ref (h.length + 1)) (H2 E h fs as) = some (.bl (neg != decide (a ∈ as)), H2 E h fs as) := in_set E (h2_obj E)
theorem h2_put {fs : List Q.D} {as : List α} {a : α} (hl : as.length < 16777216) : dSet (.ref (h.length + 1)) (E.enc a) (.bl true) (H2 E h fs as) = some (H2 E h fs (add as a)) := by
  have := set_set E (h := h ++ [.lst fs]) (as := as) (a := a) hl
  rw [List.length_append, List.length_singleton, List.append_assoc, List.append_assoc] at this
  exact this
theorem h2_app {fs : List Q.D} {as : List α} {d : Q.D} (hl : fs.length < 16777216) : mAppend (.ref h.length) [d] (H2 E h fs as) = some (.non, H2 E h (fs ++ [d]) as) := by
  unfold mAppend
  dsimp only
  rw [h2_list]
  dsimp only
  rw [if_pos hl]
  simp [H2]
theorem h2_isT {fs : List Q.D} {as : List α} : isT "list" (H2 E h fs as) (.ref h.length) = true := by
  have := listAt_some (h2_list E (h := h) (fs := fs) (as := as))
  simp [isT, lsq, this]
theorem h2_len {fs : List Q.D} {as : List α} : gLen [.ref h.length] (H2 E h fs as) = some (.int fs.length, H2 E h fs as) := len_ref (h2_list E)
end
section
variable {α : Type} [DecidableEq α] (E : KeyEnc α)
theorem trim_h2 {fs : List Q.D} {as : List α} (hd : closeds h.length fs = true) : trimR h true (.ok (.ref h.length) (H2 E h fs as)) = .ok (.fro fs) h :=
  trim_fro (h1 := h) (g := [.lst fs, .dt (E.set as)]) (k := 0) rfl okT_app rfl hd
theorem r_differentE {es : List α} (hl : es.length ≤ 1000) : f_n__law_different [.fro (es.map E.enc)] h = .ok (.fro ((ddp [] es).map E.enc)) h := by
  rw [e_n__law_different]
  obtain ⟨x, e1⟩ := forL_inv (G := fun _ => True) (g := gSlot 3) (body := b_n__law_different_1)
    (R := fun r => ∃ (x : Option Q.D), r = .nx [some (.fro (es.map E.enc)), some (.ref h.length), some (.ref (h.length + 1)), x] (H2 E h ((ddp [] es).map E.enc) (ddp [] es)))
    (fun ds σ h' => ∃ (ys acc : List α) (x : Option Q.D), ds = ys.map E.enc ∧ ddp acc ys = ddp [] es ∧ acc.length + ys.length ≤ 1000 ∧ σ = [some (.fro (es.map E.enc)), some (.ref h.length), some (.ref (h.length + 1)), x] ∧ h' = H2 E h (acc.map E.enc) acc)
    (fun σ h' ⟨ys, acc, x, e1, e2, e3, e4, e5⟩ => by
      cases ys with
      | cons _ _ => cases e1
      | nil =>
        refine ⟨trivial, x, ?_⟩
        rw [e4, e5, ← e2]
        rfl)
    (fun d ds σ h' ⟨ys, acc, x, e1, e2, e3, e4, e5⟩ => by
      cases ys with
      | nil => cases e1
      | cons y ys =>
        cases e1
        subst e4 e5
        rw [List.length_cons] at e3
        refine ⟨trivial, [some (.fro (es.map E.enc)), some (.ref h.length), some (.ref (h.length + 1)), some (E.enc y)], H2 E h (acc.map E.enc) acc, rfl, ?_⟩
        have hin : ∀ neg, dIn neg (E.enc y) (.ref (h.length + 1)) (H2 E h (acc.map E.enc) acc) = some (.bl (neg != decide (y ∈ acc)), H2 E h (acc.map E.enc) acc) := fun neg => (h2_in E (a := y)).trans (by congr)
        have hput : dSet (.ref (h.length + 1)) (E.enc y) (.bl true) (H2 E h (acc.map E.enc) acc) = some (H2 E h (acc.map E.enc) (add acc y)) := h2_put E (by omega)
        have happ : mAppend (.ref h.length) [E.enc y] (H2 E h (acc.map E.enc) (add acc y)) = some (.non, H2 E h (acc.map E.enc ++ [E.enc y]) (add acc y)) := h2_app E (by rw [List.length_map]; omega)
        have hist := h2_isT E (h := h) (fs := acc.map E.enc) (as := add acc y)
        by_cases hy : y ∈ acc
        · have hb : b_n__law_different_1 [some (.fro (es.map E.enc)), some (.ref h.length), some (.ref (h.length + 1)), some (E.enc y)] (H2 E h (acc.map E.enc) acc) = .nx [some (.fro (es.map E.enc)), some (.ref h.length), some (.ref (h.length + 1)), some (E.enc y)] (H2 E h (acc.map E.enc) acc) := by
            simp -implicitDefEqProofs [b_n__law_different_1, hin, hy]
          rw [hb]
          refine ⟨ys, acc, _, rfl, ?_, by omega, rfl, rfl⟩
          rw [← e2, ddp, add, if_pos hy]
        · have hb : b_n__law_different_1 [some (.fro (es.map E.enc)), some (.ref h.length), some (.ref (h.length + 1)), some (E.enc y)] (H2 E h (acc.map E.enc) acc) = .nx [some (.fro (es.map E.enc)), some (.ref h.length), some (.ref (h.length + 1)), some (E.enc y)] (H2 E h (acc.map E.enc ++ [E.enc y]) (add acc y)) := by
            simp -implicitDefEqProofs [b_n__law_different_1, hin, hy, gSubD, hput, happ, hist]
          rw [hb]
          refine ⟨ys, add acc y, _, rfl, by rw [← e2]; rfl, by have := len_add (as := acc) (a := y); omega, rfl, ?_⟩
          rw [add, if_neg hy, List.map_append]
          rfl)
    (es.map E.enc) [some (.fro (es.map E.enc)), some (.ref h.length), some (.ref (h.length + 1)), none] (H2 E h [] []) ⟨es, [], none, rfl, rfl, by simpa using hl, rfl, rfl⟩
  have e1' : forL (fun _ => True) (gSlot 3) b_n__law_different_1 (es.map E.enc) [some (.fro (es.map E.enc)), some (.ref h.length), some (.ref (h.length + 1)), none] (h ++ [.lst [], .dt []]) = .nx [some (.fro (es.map E.enc)), some (.ref h.length), some (.ref (h.length + 1)), x] (H2 E h ((ddp [] es).map E.enc) (ddp [] es)) := e1
  simp -implicitDefEqProofs [m_n__law_different, e1']
  exact trim_h2 E (closeds_map E _)
end
theorem r_different {es : List En} (hl : es.length ≤ 1000) : f_n__law_different [.fro (es.map enD)] h = .ok (.fro ((ddp [] es).map enD)) h := r_differentE EN hl
end P

namespace P
open PySem PySem.Spec PyProof.Rows L2 Q G
variable {h g : AH} {i j k : Int} {s t : Str} {b : Bool} {ds : List Q.D} {ks os : List Str} {N : Nat} {o : O}
/-! ### numbered sentences -/
theorem ix_ks {n : Int} (h0 : 0 ≤ n) (h1 : n < ks.length) : ∃ k ∈ ks, ∀ h, dIx (ksD ks) (.int n) h = some (.str k, h) := by
  obtain ⟨d, ed, at1⟩ := atI_i (xs := ks.map Q.D.str) h0 (by rw [List.length_map]; exact h1)
  obtain ⟨k, hk, rfl⟩ := List.mem_map.mp (List.mem_of_getElem? ed)
  exact ⟨k, hk, fun h => by rw [ksD, ix_tup', at1]; rfl⟩
theorem ln_ks : gLen [ksD ks] h = some (.int ks.length, h) := by rw [ksD, len_tup', List.length_map]
/-- so many kinds as are ever drawn -/
structure Few (ks : List Str) : Prop where
  pos : 1 ≤ ks.length
  most : ks.length ≤ 31
theorem Kinds.few (K : Kinds ks) : Few ks := ⟨K.pos, by have := K.most; omega⟩
theorem r_numberedF (K : Few ks) {n : Int} (h0 : 0 ≤ n) (h1 : n < 10 ^ 60) : ∃ s, f_n__law_numbered [ksD ks, .int n] h = .ok (snD s) h ∧ Over ks s := by
  have kp := K.pos
  have k30 := K.most
  have ln : ∀ h, gLen [ksD ks] h = some (.int ks.length, h) := fun h => ln_ks
  have hT : ∀ h, dMul (.int 2) (.int (ks.length : Int)) h = some (.int (2 * (ks.length : Int)), h) := fun h => mul_ok (by omega) (by omega) (by omega) (by omega)
  obtain ⟨T, hTe⟩ : ∃ T : Int, T = 2 * (ks.length : Int) := ⟨_, rfl⟩
  rw [← hTe] at hT
  have m4 : ∀ h, dMod (.int n) (.int 4) h = some (.int (n % 4), h) := fun h => mod_ok (by omega)
  have d4 : ∀ h, dDiv (.int n) (.int 4) h = some (.int (n / 4), h) := fun h => div_ok (by omega) (by omega)
  have hq : ∀ h, dMul (.int 4) (.int T) h = some (.int (4 * T), h) := fun h => mul_ok (by omega) (by omega) (by omega) (by omega)
  have ma : ∀ x h, dMod (.int x) (.int T) h = some (.int (x % T), h) := fun x h => mod_ok (by omega)
  have dq : ∀ h, dDiv (.int n) (.int (4 * T)) h = some (.int (n / (4 * T)), h) := fun h => div_ok (by omega) (by omega)
  obtain ⟨a, ha⟩ : ∃ a : Int, a = n / 4 % T := ⟨_, rfl⟩
  obtain ⟨c, hc⟩ : ∃ c : Int, c = n / (4 * T) % T := ⟨_, rfl⟩
  have ma1 : ∀ h, dMod (.int (n / 4)) (.int T) h = some (.int a, h) := fun h => ha ▸ ma _ h
  have mc1 : ∀ h, dMod (.int (n / (4 * T))) (.int T) h = some (.int c, h) := fun h => hc ▸ ma _ h
  have a0 : 0 ≤ a := ha ▸ Int.emod_nonneg _ (by omega)
  have a1 : a < T := ha ▸ Int.emod_lt_of_pos _ (by omega)
  have c0 : 0 ≤ c := hc ▸ Int.emod_nonneg _ (by omega)
  have c1 : c < T := hc ▸ Int.emod_lt_of_pos _ (by omega)
  have a2 : ∀ h, dDiv (.int a) (.int 2) h = some (.int (a / 2), h) := fun h => div_ok (by omega) (by omega)
  have c2 : ∀ h, dDiv (.int c) (.int 2) h = some (.int (c / 2), h) := fun h => div_ok (by omega) (by omega)
  have am : ∀ h, dMod (.int a) (.int 2) h = some (.int (a % 2), h) := fun h => mod_ok (by omega)
  have cm : ∀ h, dMod (.int c) (.int 2) h = some (.int (c % 2), h) := fun h => mod_ok (by omega)
  obtain ⟨x, hx, ix⟩ := ix_ks (ks := ks) (n := a / 2) (by omega) (by omega)
  obtain ⟨y, hy, iy⟩ := ix_ks (ks := ks) (n := c / 2) (by omega) (by omega)
  have w0 : 0 ≤ n % 4 := Int.emod_nonneg _ (by omega)
  have w1 : n % 4 < 4 := Int.emod_lt_of_pos _ (by omega)
  obtain ⟨d, ed, at1⟩ := atI_i (xs := [Q.D.str "all", .str "some", .str "more", .str "many"]) w0 (by simpa using w1)
  obtain ⟨w, hw, rfl⟩ : ∃ w ∈ WD, d = .str w := by
    have m1 := List.mem_of_getElem? ed
    simp only [List.mem_cons, List.not_mem_nil, or_false] at m1
    rcases m1 with rfl | rfl | rfl | rfl
    · exact ⟨_, by simp [WD], rfl⟩
    · exact ⟨_, by simp [WD], rfl⟩
    · exact ⟨_, by simp [WD], rfl⟩
    · exact ⟨_, by simp [WD], rfl⟩
  refine ⟨⟨w, (x, decide (a % 2 = 1)), (y, decide (c % 2 = 1))⟩, ?_, ⟨hw, hx, hy⟩⟩
  rw [e_n__law_numbered]
  simp -implicitDefEqProofs [m_n__law_numbered, ln, hT, m4, d4, hq, ma1, mc1, dq, a2, c2, am, cm, ix, iy, at1, -run_dInt]
  exact trim_same rfl
theorem r_numbered (K : Kinds ks) {n : Int} (h0 : 0 ≤ n) (h1 : n < 10 ^ 60) : ∃ s, f_n__law_numbered [ksD ks, .int n] h = .ok (snD s) h ∧ Over ks s := r_numberedF K.few h0 h1
end P

namespace P
open PySem PySem.Spec PyProof.Rows L2 Q G
variable {h g : AH} {i j k : Int} {s t : Str} {b : Bool} {ds : List Q.D} {ks os : List Str} {N : Nat} {o : O} {ts : List Tm}
/-! ### translation goes with contraries and mirrors -/
@[simp] theorem flp_flp {t : Tm} : flp (flp t) = t := by simp [flp]
theorem tr_flp {t : Tm} : tr ks ts (flp t) = flp (tr ks ts t) := by
  unfold tr
  cases h : t.2 <;> simp [flp, h]
theorem cont_tr {s : Sen} : cont (trS ks ts s) = trS ks ts (cont s) := by
  unfold cont
  by_cases h1 : s.w = "all"
  · simp [trS, h1, tr_flp]
  · by_cases h2 : s.w = "some"
    · simp [trS, h1, h2, tr_flp]
    · by_cases h3 : s.w = "more" <;> simp [trS, h1, h2, h3]
theorem mir_tr {s : Sen} : mir (trS ks ts s) = trS ks ts (mir s) := by
  unfold mir
  by_cases h1 : s.w = "some" <;> simp [trS, h1, tr_flp]
theorem alw_tr {s : Sen} (h : alw s = true) : alw (trS ks ts s) = true := by
  unfold alw at *
  simp only [Bool.and_eq_true, decide_eq_true_eq] at h
  simp [trS, h.1, h.2]
theorem alw_cont {s : Sen} (h : alw (cont s) = true) : alw (trS ks ts s) = false := by
  unfold alw cont at *
  by_cases h1 : s.w = "all"
  · simp [h1] at h
  · by_cases h2 : s.w = "some"
    · simp [trS, h2]
    · by_cases h3 : s.w = "more"
      · simp [trS, h3]
      · simp [h1, h2, h3] at h
theorem its_tr {s : Sen} : its s = "open" ∨ its (trS ks ts s) = its s := by
  unfold its
  by_cases h1 : alw s = true
  · rw [if_pos h1, if_pos (alw_tr h1)]; exact .inr rfl
  · rw [if_neg h1]
    by_cases h2 : alw (cont s) = true
    · rw [if_pos h2, if_neg (by rw [alw_cont h2]; simp), cont_tr, if_pos (alw_tr h2)]; exact .inr rfl
    · rw [if_neg h2]; exact .inl rfl
end P

namespace P
open PySem PySem.Spec PyProof.Rows L2 Q G
variable {h g : AH} {i j k : Int} {s : Sen} {b : Bool} {ds : List Q.D} {ks os : List Str} {N : Nat} {o : O} {ts : List Tm}
theorem over_cont (O : Over ks s) : Over ks (cont s) := by
  unfold cont
  by_cases h1 : s.w = "all"
  · rw [if_pos h1]; exact ⟨show ("some" : Str) ∈ WD by decide, O.a, O.b⟩
  · rw [if_neg h1]
    by_cases h2 : s.w = "some"
    · rw [if_pos h2]; exact ⟨show ("all" : Str) ∈ WD by decide, O.a, O.b⟩
    · rw [if_neg h2]
      refine ⟨?_, O.b, O.a⟩
      show (if s.w = "more" then ("many" : Str) else "more") ∈ WD
      split <;> decide
theorem over_mir (O : Over ks s) : Over ks (mir s) := by
  unfold mir
  split
  · exact ⟨O.w, O.b, O.a⟩
  · exact ⟨O.w, O.b, O.a⟩
theorem sz_sn : sz (snD s) < 2000000 := by simp [snD, tmD, sz, szs]
theorem pln_sn : pln (snD s) = true := by simp [snD, tmD, pln, plns]
end P

namespace P
open PySem PySem.Spec PyProof.Rows L2 Q G
variable {h g : AH} {i j k : Int} {s : Sen} {b : Bool} {ds : List Q.D} {ks os : List Str} {N : Nat} {o : O} {ts ms : List Tm}
theorem lk_map {f : Tm → Tm} : ∀ {ks : List Str} {ts : List Tm} {x : Str}, x ∈ ks → ts.length = ks.length → lk ks (ts.map f) x = f (lk ks ts x)
  | [], _, _, m, _ => by cases m
  | k :: ks, [], _, _, l => by cases l
  | k :: ks, t :: ts, x, m, l => by
    rw [List.map_cons, lk, lk]
    by_cases e : k = x
    · rw [if_pos e, if_pos e]
    · rw [if_neg e, if_neg e]
      rcases List.mem_cons.mp m with z | z
      · exact absurd z.symm e
      · exact lk_map z (by simpa using l)
theorem tr_tr {t : Tm} (hl : ts.length = ks.length) (m : t.1 ∈ ks) : tr os ms (tr ks ts t) = tr ks (ts.map (tr os ms)) t := by
  unfold tr
  cases h : t.2 with
  | true => simp [lk_map m hl, tr]
  | false =>
    simp only [Bool.false_eq_true, if_false, lk_map m hl]
    exact tr_flp
theorem trS_trS (hl : ts.length = ks.length) (O : Over ks s) : trS os ms (trS ks ts s) = trS ks (ts.map (tr os ms)) s := by
  unfold trS
  rw [tr_tr hl O.a, tr_tr hl O.b]
theorem trQ_trQ {q : Qn} (hl : ts.length = ks.length) (O : OverQ ks q) : trQ os ms (trQ ks ts q) = trQ ks (ts.map (tr os ms)) q := by
  cases q with
  | one s => simp only [trQ]; rw [trS_trS hl O]
  | many ss =>
    simp only [trQ, List.map_map]
    congr 1
    exact List.map_congr_left fun s hs => trS_trS hl (O.2.2 s hs)
end P

namespace P
open PySem PySem.Spec PyProof.Rows L2 Q G
variable {h g : AH} {i j k : Int} {s : Sen} {b : Bool} {ds : List Q.D} {ks os : List Str} {N : Nat} {o : O} {ts ms : List Tm}
theorem szs_sns : ∀ ss : List Sen, szs (ss.map snD) = 8 * ss.length
  | [] => rfl
  | s :: ss => by
    rw [List.map_cons, szs, szs_sns ss, List.length_cons]
    simp [snD, tmD, sz, szs]
    omega
theorem plns_sns : ∀ ss : List Sen, plns (ss.map snD) = true
  | [] => rfl
  | s :: ss => by rw [List.map_cons, plns, pln_sn, plns_sns ss]; rfl
theorem sz_qn {q : Qn} (O : OverQ ks q) : sz (qnD q) < 2000000 := by
  cases q with
  | one s => exact sz_sn
  | many ss =>
    have := O.2.1
    rw [qnD, sz, szs_sns]
    omega
theorem pln_qn {q : Qn} : pln (qnD q) = true := by
  cases q with
  | one s => exact pln_sn
  | many ss => rw [qnD, pln]; exact plns_sns ss
theorem terms_map (T : Terms ks os ts) {xs : List Str} (M : Terms os xs ms) : Terms ks xs (ts.map (tr os ms)) := by
  refine ⟨by rw [List.length_map]; exact T.len, fun t ht => ?_⟩
  obtain ⟨u, hu, rfl⟩ := List.mem_map.mp ht
  exact tr_over M (T.ov u hu)
end P

namespace P
open PySem PySem.Spec PyProof.Rows L2 Q G
variable {h g : AH} {i j k : Int} {b : Bool} {ds : List Q.D} {ks os : List Str} {N : Nat} {o : O} {ts ms : List Tm}
/-! ### entries drawn -/
/-- what is found so far -/
structure Fnd (ks : List Str) (most : Int) (es : List En) : Prop where
  nd : es.Nodup
  ent : ∀ e ∈ es, Entry ks e
  len : es.length ≤ most
abbrev σe (most : Int) (ks : List Str) (n : Nat) (x5 x6 x7 x8 x9 x10 x11 : Option Q.D) : AS := [some (.ref 0), some (ksD ks), some (.int most), some (.ref n), some (.ref (n + 1)), x5, x6, x7, x8, x9, x10, x11]
theorem Fnd.add {most : Int} {es : List En} (F : Fnd ks most es) {e : En} (E : Entry ks e) (hn : e ∉ es) (hl : (es.length : Int) < most) : Fnd ks most (es ++ [e]) := by
  refine ⟨?_, fun x hx => ?_, by rw [List.length_append, List.length_singleton]; omega⟩
  · rw [List.nodup_append]
    exact ⟨F.nd, by simp, fun a ha c hc => by rw [List.mem_singleton.mp hc]; exact fun z => hn (z ▸ ha)⟩
  · rcases List.mem_append.mp hx with hx | hx
    · exact F.ent x hx
    · rw [List.mem_singleton.mp hx]; exact E
section
variable {es : List En} {e : En}
abbrev HH (g : AH) (o : O) (fs as : List En) : AH := o :: (g ++ [.lst (fs.map enD), .dt (EN.set as)])
theorem hh_in {neg : Bool} {fs as : List En} : dIn neg (enD e) (.ref (g.length + 2)) (HH g o fs as) = some (.bl (neg != decide (e ∈ as)), HH g o fs as) := (h2_in EN (h := o :: g) (a := e)).trans (by congr)
theorem hh_put {fs as : List En} (hn : e ∉ as) (hl : as.length < 16777216) : dSet (.ref (g.length + 2)) (enD e) (.bl true) (HH g o fs as) = some (HH g o fs (as ++ [e])) := by
  have := h2_put EN (h := o :: g) (fs := fs.map enD) (as := as) (a := e) hl
  unfold Q.add at this
  rw [if_neg hn] at this
  exact this
theorem hh_app {fs as : List En} (hl : fs.length < 16777216) : mAppend (.ref (g.length + 1)) [enD e] (HH g o fs as) = some (.non, HH g o (fs ++ [e]) as) := by
  have := h2_app EN (h := o :: g) (fs := fs.map enD) (as := as) (d := enD e) (by rw [List.length_map]; exact hl)
  rw [show fs.map enD ++ [enD e] = (fs ++ [e]).map enD by rw [List.map_append]; rfl] at this
  exact this
theorem hh_isT {fs as : List En} : isT "list" (HH g o fs as) (.ref (g.length + 1)) = true := h2_isT EN (h := o :: g)
theorem hh_len {fs as : List En} : gLen [.ref (g.length + 1)] (HH g o fs as) = some (.int fs.length, HH g o fs as) := by
  have := h2_len EN (h := o :: g) (fs := fs.map enD) (as := as)
  rw [List.length_map] at this
  exact this
end
/-- a new entry, if there is room: the first loop's turn -/
theorem ent_turn1 (K : Few ks) {most : Int} {es : List En} (F : Fnd ks most es) (hm : most ≤ 151) {x5 x6 x7 x8 x9 x10 x11 : Option Q.D} (O : Ok (N + 9) o) :
    ∃ es' o' y, b_n__law_entries_1 (σe most ks (g.length + 1) x5 x6 x7 x8 x9 x10 x11) (HH g o es es) = .nx (σe most ks (g.length + 1) x5 x6 x7 x8 x9 y x11) (HH g o' es' es') ∧ Fnd ks most es' ∧ Ok N o' := by
  have kp := K.pos
  have k30 := K.most
  have fl := F.len
  obtain ⟨r, o1, e1, r0, r1, O1⟩ := r_next (N := N + 8) (g := g ++ [.lst (es.map enD), .dt (EN.set es)]) (m := 6) O (by omega) (by omega)
  obtain ⟨s, o2, e2, S2, O2⟩ := r_sentence (N := N) (g := g ++ [.lst (es.map enD), .dt (EN.set es)]) (ks := ks) (by omega) (by omega) O1
  have E : Entry ks (r, s) := ⟨r0, by show r ≤ 5; omega, S2⟩
  have hin : dIn true (.tup [.int r, snD s]) (.ref (g.length + 2)) (HH g o2 es es) = some (.bl (true != decide ((r, s) ∈ es)), HH g o2 es es) := hh_in (e := (r, s))
  have hlen := hh_len (g := g) (o := o2) (fs := es) (as := es)
  by_cases hc : (r, s) ∉ es ∧ (es.length : Int) < most
  · obtain ⟨hn, hl⟩ := hc
    have hput : dSet (.ref (g.length + 2)) (.tup [.int r, snD s]) (.bl true) (HH g o2 es es) = some (HH g o2 es (es ++ [(r, s)])) := hh_put (e := (r, s)) hn (by omega)
    have happ : mAppend (.ref (g.length + 1)) [.tup [.int r, snD s]] (HH g o2 es (es ++ [(r, s)])) = some (.non, HH g o2 (es ++ [(r, s)]) (es ++ [(r, s)])) := hh_app (e := (r, s)) (by omega)
    refine ⟨es ++ [(r, s)], o2, some (.tup [.int r, snD s]), ?_, F.add E hn hl, O2⟩
    simp -implicitDefEqProofs [b_n__law_entries_1, σe, HH] at *
    simp -implicitDefEqProofs [b_n__law_entries_1, σe, e1, e2, hin, hn, hlen, hl, gSubD, hput, happ, hh_isT]
  · refine ⟨es, o2, some (.tup [.int r, snD s]), ?_, F, O2⟩
    by_cases hn : (r, s) ∈ es
    · simp -implicitDefEqProofs [b_n__law_entries_1, σe, HH] at *
      simp -implicitDefEqProofs [b_n__law_entries_1, σe, e1, e2, hin, hn]
    · have hl : ¬ (es.length : Int) < most := fun z => hc ⟨hn, z⟩
      simp -implicitDefEqProofs [b_n__law_entries_1, σe, HH] at *
      have hl' : ¬ (es.length : Int) < most := by omega
      simp -implicitDefEqProofs [b_n__law_entries_1, σe, e1, e2, hin, hn, hlen, hl']
/-- the second loop's turn -/
theorem ent_turn2 (K : Few ks) {most : Int} {es : List En} (F : Fnd ks most es) (hm : most ≤ 151) {T nu kk : Int} (T0 : 0 < T) (T1 : T < 10 ^ 40) {x5 x9 x10 x11 : Option Q.D} :
    (b_n__law_entries_2 (σe most ks (g.length + 1) x5 (some (.int T)) (some (.int nu)) (some (.int kk)) x9 x10 x11) (HH g o es es) = .bk (σe most ks (g.length + 1) x5 (some (.int T)) (some (.int nu)) (some (.int kk)) x9 x10 x11) (HH g o es es)) ∨
    ∃ es' y z, b_n__law_entries_2 (σe most ks (g.length + 1) x5 (some (.int T)) (some (.int nu)) (some (.int kk)) x9 x10 x11) (HH g o es es) = .nx (σe most ks (g.length + 1) x5 (some (.int T)) (some (.int nu)) (some (.int kk)) x9 y z) (HH g o es' es') ∧ Fnd ks most es' := by
  have fl := F.len
  have hlen := hh_len (g := g) (o := o) (fs := es) (as := es)
  by_cases hc : most ≤ (es.length : Int) ∨ 2000 < kk
  · refine .inl ?_
    simp -implicitDefEqProofs [b_n__law_entries_2, σe, HH] at *
    rcases hc with hc | hc
    · simp -implicitDefEqProofs [b_n__law_entries_2, σe, hlen, hc]
    · by_cases h2 : most ≤ (es.length : Int)
      · simp -implicitDefEqProofs [b_n__law_entries_2, σe, hlen, h2]
      · simp -implicitDefEqProofs [b_n__law_entries_2, σe, hlen, h2, hc]
  · refine .inr ?_
    have hc1 : ¬ most ≤ (es.length : Int) := fun z => hc (.inl z)
    have hc2 : ¬ 2000 < kk := fun z => hc (.inr z)
    obtain ⟨he, hhe⟩ : ∃ he : Int, he = (nu + kk) % T := ⟨_, rfl⟩
    have m1 : ∀ h, dMod (.int (nu + kk)) (.int T) h = some (.int he, h) := fun h => hhe ▸ mod_ok T0
    have b0 : 0 ≤ he := hhe ▸ Int.emod_nonneg _ (by omega)
    have b1 : he < T := hhe ▸ Int.emod_lt_of_pos _ T0
    clear hhe
    have m2 : ∀ h, dMod (.int he) (.int 6) h = some (.int (he % 6), h) := fun h => mod_ok (by omega)
    have d2 : ∀ h, dDiv (.int he) (.int 6) h = some (.int (he / 6), h) := fun h => div_ok (by omega) (by omega)
    obtain ⟨s, e2, S2⟩ := r_numberedF (h := HH g o es es) K (n := he / 6) (by omega) (by omega)
    have E : Entry ks (he % 6, s) := ⟨by show 0 ≤ he % 6; omega, by show he % 6 ≤ 5; omega, S2⟩
    have hin : dIn true (.tup [.int (he % 6), snD s]) (.ref (g.length + 2)) (HH g o es es) = some (.bl (true != decide ((he % 6, s) ∈ es)), HH g o es es) := hh_in (e := (he % 6, s))
    by_cases hn : (he % 6, s) ∈ es
    · refine ⟨es, some (.tup [.int (he % 6), snD s]), some (.int he), ?_, F⟩
      simp -implicitDefEqProofs only [HH] at hlen hin e2 ⊢
      have q1 : ¬ most ≤ (es.length : Int) := by omega
      have q2 : ¬ 2000 < kk := by omega
      simp -implicitDefEqProofs [-run_dInt, b_n__law_entries_2, σe, hlen, q1, q2, m1, m2, d2, e2, hin, hn]
    · have hput : dSet (.ref (g.length + 2)) (.tup [.int (he % 6), snD s]) (.bl true) (HH g o es es) = some (HH g o es (es ++ [(he % 6, s)])) := hh_put (e := (he % 6, s)) hn (by omega)
      have happ : mAppend (.ref (g.length + 1)) [.tup [.int (he % 6), snD s]] (HH g o es (es ++ [(he % 6, s)])) = some (.non, HH g o (es ++ [(he % 6, s)]) (es ++ [(he % 6, s)])) := hh_app (e := (he % 6, s)) (by omega)
      refine ⟨es ++ [(he % 6, s)], some (.tup [.int (he % 6), snD s]), some (.int he), ?_, F.add E hn (by omega)⟩
      simp -implicitDefEqProofs only [HH] at hlen hin e2 hput happ ⊢
      have q1 : ¬ most ≤ (es.length : Int) := by omega
      have q2 : ¬ 2000 < kk := by omega
      simp -implicitDefEqProofs [-run_dInt, b_n__law_entries_2, σe, hlen, q1, q2, m1, m2, d2, e2, hin, hn, gSubD, hput, happ, hh_isT]
end P

namespace P
open PySem PySem.Spec PyProof.Rows L2 Q G
variable {h g : AH} {i j k : Int} {b : Bool} {ds : List Q.D} {ks os : List Str} {N : Nat} {o : O} {ts ms : List Tm}
theorem cutD_from {xs : List Q.D} {n : Int} (h0 : 0 ≤ n) : cutD xs (some n) none = xs.drop n.toNat := by
  unfold Q.cutD
  rw [sIx_some h0, HT.sIx_none]
  by_cases hn : n.toNat ≤ xs.length
  · rw [Nat.min_eq_left hn, List.take_of_length_le (by rw [List.length_drop]; omega)]
  · rw [Nat.min_eq_right (by omega), List.drop_length, List.drop_of_length_le (by omega), List.take_nil]
theorem cutD_to {xs : List Q.D} {n : Int} (h0 : 0 ≤ n) : cutD xs none (some n) = xs.take n.toNat := by
  unfold Q.cutD
  rw [sIx_some h0, HT.sIx_none, List.drop_zero, Nat.sub_zero]
  by_cases hn : n.toNat ≤ xs.length
  · rw [Nat.min_eq_left hn]
  · rw [Nat.min_eq_right (by omega), List.take_length, List.take_of_length_le (by omega)]
theorem sl_ref {n : Nat} {xs : List Q.D} {lo hi : Option Int} (e : Q.listAt h n = some xs) : dSl (.ref n) lo hi h = some (.fro (Q.cutD xs lo hi), h) := by
  have e2 := listAt_some e
  simp [dSl, Q.lsq, e2]
theorem Fnd.turn {most : Int} {es : List En} (F : Fnd ks most es) (n : Nat) : Fnd ks most (es.drop n ++ es.take n) := by
  have p : (es.drop n ++ es.take n).Perm es := by
    have := List.perm_append_comm (l₁ := es.drop n) (l₂ := es.take n)
    rw [List.take_append_drop] at this
    exact this
  exact ⟨p.nodup_iff.mpr F.nd, fun e he => F.ent e (p.mem_iff.mp he), by rw [p.length_eq]; exact F.len⟩
theorem r_entriesF (K : Few ks) {most : Int} (m0 : 0 ≤ most) (m1 : most ≤ 151) (O : Ok (N + 400) o) : ∃ es o', f_n__law_entries [.ref 0, ksD ks, .int most] (o :: g) = .ok (.fro (es.map enD)) (o' :: g) ∧ Fnd ks most es ∧ Ok N o' := by
  have kp := K.pos
  have k30 := K.most
  rw [e_n__law_entries]
  obtain ⟨d1, o1, e1, mm, O1⟩ := r_pick (N := N + 399) (g := g ++ [.lst [], .dt []]) (ds := [.int 0, .int 2, .int 6, .int 20]) (Rows.fro (by simp) (by simp)) O
  obtain ⟨n, hn1, rfl⟩ : ∃ n : Nat, n ≤ 20 ∧ d1 = .int n := by
    simp only [List.mem_cons, List.not_mem_nil, or_false] at mm
    rcases mm with rfl | rfl | rfl | rfl
    · exact ⟨0, by omega, rfl⟩
    · exact ⟨2, by omega, rfl⟩
    · exact ⟨6, by omega, rfl⟩
    · exact ⟨20, by omega, rfl⟩
  have hr : ∀ g, rngK (.int (n : Int)) g = .ok (rangeD 0 n, fun _ => True) g := fun g => rngK_of (by omega) (by omega)
  -- the first loop
  obtain ⟨x5, x10, es1, o2, e2, F2, O2⟩ := forL_inv (G := fun _ => True) (g := gSlot 5) (body := b_n__law_entries_1)
    (R := fun r => ∃ (x5 x10 : Option Q.D) (es : List En) (o' : Q.O), r = .nx (σe most ks (g.length + 1) x5 none none none none x10 none) (HH g o' es es) ∧ Fnd ks most es ∧ Ok (N + 10) o')
    (fun ds σ h' => ∃ (x5 x10 : Option Q.D) (es : List En) (o' : Q.O), σ = σe most ks (g.length + 1) x5 none none none none x10 none ∧ h' = HH g o' es es ∧ Fnd ks most es ∧ Ok (N + 10 + 9 * ds.length) o')
    (fun σ h' ⟨x5, x10, es, o', a, c, F, O⟩ => ⟨trivial, x5, x10, es, o', by rw [a, c], F, O.mono (by omega)⟩)
    (fun d ds σ h' ⟨x5, x10, es, o', a, c, F, O⟩ => by
      subst a c
      rw [List.length_cons] at O
      refine ⟨trivial, σe most ks (g.length + 1) (some d) none none none none x10 none, HH g o' es es, rfl, ?_⟩
      obtain ⟨es', o'', y, eb, F', O'⟩ := ent_turn1 (g := g) (x5 := some d) (x6 := none) (x7 := none) (x8 := none) (x9 := none) (x10 := x10) (x11 := none) (N := N + 10 + 9 * ds.length) K F m1 (O.mono (by omega))
      rw [eb]
      exact ⟨some d, y, es', o'', rfl, rfl, F', O'⟩)
    (rangeD 0 n) (σe most ks (g.length + 1) none none none none none none none) (HH g o1 [] []) ⟨none, none, [], o1, rfl, rfl, ⟨List.nodup_nil, (fun _ m => nomatch m), by simpa using m0⟩, O1.mono (by rw [rangeD_len]; omega)⟩
  have l1 := F2.len
  obtain ⟨T, hT⟩ : ∃ T : Int, T = 96 * (ks.length : Int) * (ks.length : Int) := ⟨_, rfl⟩
  have T0 : 0 < T := by rw [hT]; exact Int.mul_pos (by omega) (by omega)
  have T1 : T ≤ 92256 := by
    rw [hT]
    have : (ks.length : Int) * ks.length ≤ 31 * 31 := Int.mul_le_mul (by omega) (by omega) (by omega) (by omega)
    rw [Int.mul_assoc]; omega
  have t1 : ∀ h, dMul (.int 96) (.int (ks.length : Int)) h = some (.int (96 * (ks.length : Int)), h) := fun h => mul_ok (by omega) (by omega) (by omega) (by omega)
  have t2 : ∀ h, dMul (.int (96 * (ks.length : Int))) (.int (ks.length : Int)) h = some (.int T, h) := fun h => hT ▸ mul_ok (by omega) (by omega) (by omega) (by omega)
  clear hT
  obtain ⟨nu, o3, e3, n0, n1, O3⟩ := r_next (N := N + 9) (g := g ++ [.lst (es1.map enD), .dt (EN.set es1)]) (m := T) O2 T0 (by omega)
  have hT2 : ∀ g, rngK (.int T) g = .ok (rangeD 0 T.toNat, fun _ => True) g := fun g => rngK_of (by omega) (by omega)
  obtain ⟨y8, y10, y11, es2, e4, F4⟩ := forL_inv (G := fun _ => True) (g := gSlot 8) (body := b_n__law_entries_2)
    (R := fun r => ∃ (x8 x10 x11 : Option Q.D) (es : List En), r = .nx (σe most ks (g.length + 1) x5 (some (.int T)) (some (.int nu)) x8 none x10 x11) (HH g o3 es es) ∧ Fnd ks most es)
    (fun ds σ h' => (∀ d ∈ ds, ∃ k : Int, d = .int k) ∧ ∃ (x8 x10 x11 : Option Q.D) (es : List En), σ = σe most ks (g.length + 1) x5 (some (.int T)) (some (.int nu)) x8 none x10 x11 ∧ h' = HH g o3 es es ∧ Fnd ks most es)
    (fun σ h' ⟨_, x8, x10, x11, es, a, c, F⟩ => ⟨trivial, x8, x10, x11, es, by rw [a, c], F⟩)
    (fun d ds σ h' ⟨hd, x8, x10, x11, es, a, c, F⟩ => by
      subst a c
      obtain ⟨kk, rfl⟩ := hd d List.mem_cons_self
      refine ⟨trivial, σe most ks (g.length + 1) x5 (some (.int T)) (some (.int nu)) (some (.int kk)) none x10 x11, HH g o3 es es, rfl, ?_⟩
      rcases ent_turn2 (g := g) (o := o3) (x5 := x5) (x9 := none) (x10 := x10) (x11 := x11) (nu := nu) (kk := kk) K F m1 T0 (by omega) with eb | ⟨es', y, z, eb, F'⟩
      · rw [eb]
        exact ⟨_, _, _, es, rfl, F⟩
      · rw [eb]
        exact ⟨fun x hx => hd x (List.mem_cons_of_mem _ hx), _, _, _, es', rfl, rfl, F'⟩)
    (rangeD 0 T.toNat) (σe most ks (g.length + 1) x5 (some (.int T)) (some (.int nu)) none none x10 none) (HH g o3 es1 es1) ⟨fun d hd => (let ⟨i, _, e⟩ := mem_rangeD hd; ⟨_, e⟩), none, x10, none, es1, rfl, rfl, F2⟩
  have l2 := F4.len
  have hlen := hh_len (g := g) (o := o3) (fs := es2) (as := es2)
  obtain ⟨st, o4, e5, s0, s1, O4⟩ := r_next (N := N) (g := g ++ [.lst (es2.map enD), .dt (EN.set es2)]) (m := (es2.length : Int) + 1) (O3.mono (by omega)) (by omega) (by omega)
  have la : Q.listAt (HH g o4 es2 es2) (g.length + 1) = some (es2.map enD) := h2_list EN (h := o4 :: g)
  have c1 : dSl (.ref (g.length + 1)) (some st) none (HH g o4 es2 es2) = some (.fro ((es2.drop st.toNat).map enD), HH g o4 es2 es2) := by
    rw [List.map_drop, ← cutD_from s0]
    exact sl_ref la
  have c2 : dSl (.ref (g.length + 1)) none (some st) (HH g o4 es2 es2) = some (.fro ((es2.take st.toNat).map enD), HH g o4 es2 es2) := by
    rw [List.map_take, ← cutD_to s0]
    exact sl_ref la
  refine ⟨es2.drop st.toNat ++ es2.take st.toNat, o4, ?_, F4.turn _, O4⟩
  have es0 : EN.set ([] : List En) = [] := rfl
  simp -implicitDefEqProofs only [HH, σe, List.map_nil, es0] at hlen c1 c2 e2 e4 ⊢
  simp -implicitDefEqProofs [-rngK_int, -run_dInt, m_n__law_entries, e1, hr, e2, ln_ks, t1, t2, e3, hT2, e4, hlen, e5, c1, c2]
  rw [plus_fro (by rw [List.length_drop, List.length_take, List.length_map]; omega)]
  have cl : closed (g.length + 1) (.fro (List.drop st.toNat (List.map enD es2) ++ List.take st.toNat (List.map enD es2))) = true := by
    rw [← List.map_drop, ← List.map_take, ← List.map_append]
    exact clo_ens _
  exact trim_str O4 cl
theorem r_entries (K : Kinds ks) {most : Int} (m0 : 0 ≤ most) (m1 : most ≤ 150) (O : Ok (N + 400) o) : ∃ es o', f_n__law_entries [.ref 0, ksD ks, .int most] (o :: g) = .ok (.fro (es.map enD)) (o' :: g) ∧ Fnd ks most es ∧ Ok N o' := r_entriesF K.few m0 (by omega) O
end P

namespace P
open PySem PySem.Spec PyProof.Rows L2 Q G
variable {h g : AH} {i j k : Int} {b : Bool} {ds : List Q.D} {ks os : List Str} {N : Nat} {o : O} {d : Q.D}
/-! ### the error in the suite -/
theorem FS_bad : G.FS "BadValue" = [("name" : Str)] := by decide +kernel
theorem CK_bad : CK "BadValue" "BadValue" = some true ∧ CK "NotPossible" "BadValue" = some false ∧ CK "TooLarge" "BadValue" = some false ∧ CK "TextError" "BadValue" = some false ∧ CK "MoreError" "BadValue" = some true ∧ CK "ValueError" "BadValue" = some true := by decide +kernel
theorem bads {xa xd : Addr} {w : Str} {T : Str} {bb : Bool} (h1 : CK T "BadValue" = some bb) : isxK FS (CK T) xa xd "BadValue" (.exn xa xd "BadValue" ["name"] [.str w]) h = .ok (.bl bb) h := isxK_exn (by rw [FS_bad]; simp) h1
theorem badf {xa xd : Addr} {w : Str} : fldK FS xa xd "BadValue" "name" (.exn xa xd "BadValue" ["name"] [.str w]) h = .ok (.str w) h := fldK_exn (by rw [FS_bad]; simp) rfl
theorem r_one_class {xa xd : Addr} {w : Str} : fh_n__law_one_class xa xd "BadValue" [.exn xa xd "BadValue" ["name"] [.str w], .int 0] h = .ok (.bl true) h := by
  rw [eh_n__law_one_class]
  obtain ⟨c1, c2, c3, c4, c5, c6⟩ := CK_bad
  have ee : dEq (.fro [.bl true, .bl false, .bl false, .bl false]) (.fro [.bl true, .bl false, .bl false, .bl false]) h = some (.bl true, h) := rfl
  have lc : lcL (fun _ => True) (gSlot 3) tYesM (eOp dEq (eVar 1) (eVar 3)) (wipeA [some (.exn xa xd "BadValue" ["name"] [.str w]), some (.int 0), some (.fro [.bl true, .bl false, .bl false, .bl false]), none] [3]) (rangeD 0 4) [] h = .ok [.bl true, .bl false, .bl false, .bl false] h := by
    rw [rangeD, lc_enc (fun i : Nat => .int (0 + (i : Int))) (fun i => .bl (decide ((0 : Int) = 0 + (i : Int)))) trivial]
    · rfl
    · intro i hi
      exact ⟨_, rfl, by simp [wipeA]⟩
    · simp
  simp -implicitDefEqProofs [mh_n__law_one_class, bads c1, bads c2, bads c3, bads c4, bads c5, bads c6, lc, ee]
  exact trim_same rfl
theorem r_law_bad {xa xd : Addr} {w v : Str} : fh_n__law_bad xa xd "BadValue" [.exn xa xd "BadValue" ["name"] [.str w], .str v] h = .ok (.bl (decide (w = v))) h := by
  rw [eh_n__law_bad]
  simp -implicitDefEqProofs [mh_n__law_bad, r_one_class, badf]
  exact trim_same rfl
/-! ### a value that is no book -/
theorem r_check_bad {x : Q.D} {w : Str} (e : f_is_book [x] h = .ok (.bl false) h) : f_check_book [x, .str w] h = .ex ⟨"BadValue", ["name"], [.str w]⟩ h := by
  rw [e_check_book]
  simp -implicitDefEqProofs [m_check_book, e]
  rfl
theorem r_check_good {x : Q.D} {w : Str} (e : f_is_book [x] h = .ok (.bl true) h) : f_check_book [x, .str w] h = .ok .non h := by
  rw [e_check_book]
  simp -implicitDefEqProofs [m_check_book, e]
  exact trim_same rfl
theorem r_told_bad {x : Q.D} (e : f_is_book [x] h = .ok (.bl false) h) : f_n__law_told [x, .non] h = .ok (.bl true) h := by
  rw [e_n__law_told]
  have c := r_check_bad (w := "book") e
  have e1 : f_sizes_of [x] h = .ex ⟨"BadValue", ["name"], [.str "book"]⟩ h := by
    rw [e_sizes_of]
    simp -implicitDefEqProofs [m_sizes_of, c]
    rfl
  have e2 : f_told_sentences [x] h = .ex ⟨"BadValue", ["name"], [.str "book"]⟩ h := by
    rw [e_told_sentences]
    simp -implicitDefEqProofs [m_told_sentences, c]
    rfl
  have ck : CK "MoreError" "BadValue" = some true := CK_bad.2.2.2.2.1
  simp -implicitDefEqProofs [m_n__law_told, b_n__law_told_1, u_n__law_told_2, b_n__law_told_3, u_n__law_told_4, e1, e2, tryK_ex ck, r_law_bad, isNonD]

  exact trim_same rfl
end P

namespace P
open PySem PySem.Spec PyProof.Rows L2 Q G
variable {h g : AH} {i j k : Int} {b : Bool} {ds : List Q.D} {ks os : List Str} {N : Nat} {o : O} {d : Q.D}
/-! ### the tests, of any plain value -/
def fromB : Q.D → Int → Int → Bool
  | .int i, j, k => decide (j ≤ i) && decide (i ≤ k)
  | _, _, _ => false
def bitB : Q.D → Bool
  | .bl _ => true
  | _ => false
def tupB : Q.D → Int → Int → Bool
  | .tup ds, j, k => decide (j ≤ ds.length) && decide ((ds.length : Int) ≤ k)
  | _, _, _ => false
theorem t_integer (hp : pln d = true) : f_is_integer [d] h = .ok (.bl (match d with | .int _ => true | _ => false)) h := by
  rw [e_is_integer]
  cases d with
  | ref _ => simp [pln] at hp
  | scr _ => simp [pln] at hp
  | exn _ _ _ _ _ => simp [pln] at hp
  | _ => simp [m_is_integer, trim_same]
theorem t_bit (hp : pln d = true) : f_is_bit [d] h = .ok (.bl (bitB d)) h := by
  rw [e_is_bit]
  cases d with
  | ref _ => simp [pln] at hp
  | scr _ => simp [pln] at hp
  | exn _ _ _ _ _ => simp [pln] at hp
  | _ => simp [m_is_bit, trim_same, bitB]
theorem t_from (hp : pln d = true) : f_is_from_to [d, .int j, .int k] h = .ok (.bl (fromB d j k)) h := by
  cases d with
  | int i => rw [r_is_from_to]; rfl
  | _ =>
    rw [e_is_from_to]
    simp [m_is_from_to, t_integer hp, trim_same, fromB]
theorem t_tup (hp : pln d = true) : f_is_tuple_of [d, .int j, .int k] h = .ok (.bl (tupB d j k)) h := by
  cases d with
  | tup ds => rw [r_is_tuple_of]; rfl
  | ref _ => simp [pln] at hp
  | scr _ => simp [pln] at hp
  | exn _ _ _ _ _ => simp [pln] at hp
  | _ =>
    rw [e_is_tuple_of]
    simp [m_is_tuple_of, trim_same, tupB]
theorem t_source (hp : pln d = true) : f_is_source [d] h = .ok (.bl (fromB d 0 5)) h := by
  rw [e_is_source]
  have := t_from (h := h) (j := 0) (k := 5) hp
  simp [m_is_source, K_MOST_SOURCE, this, trim_same]
def trmB (ks : List Str) : Q.D → Bool
  | .tup [.str k, .bl _] => decide (k ∈ ks)
  | _ => false
theorem t_term (hp : pln d = true) : f_is_term_over [ksD ks, d] h = .ok (.bl (trmB ks d)) h := by
  have ht := t_tup (h := h) (j := 2) (k := 2) hp
  rw [e_is_term_over]
  by_cases h2 : tupB d 2 2 = true
  · rw [h2] at ht
    cases d with
    | tup ds =>
      match ds with
      | [] => simp [tupB] at h2
      | [_] => simp [tupB] at h2
      | [x, y] =>
        simp only [pln, plns, Bool.and_eq_true] at hp
        have hb := t_bit (h := h) hp.2.1
        cases x with
        | str s =>
          have e : trmB ks (.tup [.str s, y]) = (decide (s ∈ ks) && bitB y) := by cases y <;> simp [trmB, bitB]
          rw [e]
          by_cases hs : s ∈ ks <;> simp [m_is_term_over, ht, ksD, in_tup, hb, hs, trim_same]
        | ref _ => simp [pln] at hp
        | scr _ => simp [pln] at hp
        | exn _ _ _ _ _ => simp [pln] at hp
        | _ => simp [m_is_term_over, ht, trmB, trim_same]
      | _ :: _ :: _ :: _ => simp [tupB] at h2; omega
    | _ => simp [tupB] at h2
  · have h2' : tupB d 2 2 = false := by simpa using h2
    rw [h2'] at ht
    have e : trmB ks d = false := by
      unfold trmB
      split
      · simp [tupB] at h2
      · rfl
    simp [m_is_term_over, ht, e, trim_same]
def wrdB (n : Int) : Q.D → Bool
  | .tup (.str w :: ds) => decide ((ds.length : Int) + 1 = n) && decide (w ∈ WD)
  | _ => false
theorem t_word {n : Int} (hp : pln d = true) (hn : 1 ≤ n) : f_is_word_and [d, .int n] h = .ok (.bl (wrdB n d)) h := by
  have ht := t_tup (h := h) (j := n) (k := n) hp
  rw [e_is_word_and]
  by_cases h2 : tupB d n n = true
  · rw [h2] at ht
    cases d with
    | tup ds =>
      match ds with
      | [] => simp [tupB] at h2; omega
      | x :: ds =>
        have hl : (ds.length : Int) + 1 = n := by simp [tupB] at h2; omega
        simp only [pln, plns, Bool.and_eq_true] at hp
        cases x with
        | str s =>
          simp [m_is_word_and, ht, K_WORDS_eq, wrdB, hl]
          rw [in_tup]
          by_cases hs : s ∈ WD <;> simp [hs, trim_same]
        | ref _ => simp [pln] at hp
        | scr _ => simp [pln] at hp
        | exn _ _ _ _ _ => simp [pln] at hp
        | _ => simp [m_is_word_and, ht, wrdB, trim_same]
    | _ => simp [tupB] at h2
  · have h2' : tupB d n n = false := by simpa using h2
    rw [h2'] at ht
    have e : wrdB n d = false := by
      unfold wrdB
      split
      · rename_i w ds
        rw [Bool.and_eq_false_iff]
        refine .inl (decide_eq_false fun z => ?_)
        simp [tupB] at h2
        omega
      · rfl
    simp [m_is_word_and, ht, e, trim_same]
def senB (ks : List Str) : Q.D → Bool
  | .tup [.str w, a, b] => decide (w ∈ WD) && (trmB ks a && trmB ks b)
  | _ => false
theorem wrd3 (h : wrdB 3 d = true) : ∃ w x y, d = .tup [.str w, x, y] ∧ w ∈ WD := by
  unfold wrdB at h
  split at h
  · rename_i w ds
    rw [Bool.and_eq_true, decide_eq_true_eq, decide_eq_true_eq] at h
    match ds, h with
    | [x, y], h => exact ⟨w, x, y, rfl, h.2⟩
    | [], h => simp at h
    | [_], h => simp at h
    | _ :: _ :: _ :: _, h => have := h.1; simp at this; omega
  · cases h
theorem t_sentence (hp : pln d = true) : f_is_sentence_over [ksD ks, d] h = .ok (.bl (senB ks d)) h := by
  have ht := t_word (h := h) (n := 3) hp (by omega)
  rw [e_is_sentence_over]
  by_cases h2 : wrdB 3 d = true
  · rw [h2] at ht
    obtain ⟨w, x, y, rfl, hw⟩ := wrd3 h2
    simp only [pln, plns, Bool.and_eq_true] at hp
    have h1 := t_term (h := h) (ks := ks) hp.2.1
    have h3 := t_term (h := h) (ks := ks) hp.2.2.1
    simp [m_is_sentence_over, ht, h1, h3, senB, hw]
    cases trmB ks x <;> simp [trim_same]
  · have h2' : wrdB 3 d = false := by simpa using h2
    rw [h2'] at ht
    have e : senB ks d = false := by
      unfold senB
      split
      · rename_i w a c
        rw [Bool.and_eq_false_iff]
        refine .inl ?_
        simpa [wrdB] using h2'
      · rfl
    simp [m_is_sentence_over, ht, e, trim_same]
def entB (ks : List Str) : Q.D → Bool
  | .tup [s, x] => fromB s 0 5 && senB ks x
  | _ => false
theorem t_entry (hp : pln d = true) : f_is_entry [ksD ks, d] h = .ok (.bl (entB ks d)) h := by
  have ht := t_tup (h := h) (j := 2) (k := 2) hp
  rw [e_is_entry]
  by_cases h2 : tupB d 2 2 = true
  · rw [h2] at ht
    cases d with
    | tup ds =>
      match ds with
      | [] => simp [tupB] at h2
      | [_] => simp [tupB] at h2
      | [x, y] =>
        simp only [pln, plns, Bool.and_eq_true] at hp
        have h1 := t_source (h := h) hp.1
        have h3 := t_sentence (h := h) (ks := ks) hp.2.1
        simp [m_is_entry, ht, h1, h3, entB]
        cases fromB x 0 5 <;> simp [trim_same]
      | _ :: _ :: _ :: _ => simp [tupB] at h2; omega
    | _ => simp [tupB] at h2
  · have h2' : tupB d 2 2 = false := by simpa using h2
    rw [h2'] at ht
    have e : entB ks d = false := by
      unfold entB
      split
      · simp [tupB] at h2
      · rfl
    simp [m_is_entry, ht, e, trim_same]
end P

namespace P
open PySem PySem.Spec PyProof.Rows L2 Q G
variable {h g : AH} {i j k : Int} {b : Bool} {ds : List Q.D} {ks os : List Str} {N : Nat} {o : O} {d : Q.D}
theorem szs_kd : ∀ ks : List Str, szs (ks.map Q.D.str) = ks.length
  | [] => rfl
  | s :: ss => by rw [List.map_cons, szs, szs_kd ss, List.length_cons, sz]; omega
theorem plns_kd : ∀ ks : List Str, plns (ks.map Q.D.str) = true
  | [] => rfl
  | s :: ss => by rw [List.map_cons, plns, plns_kd ss]; rfl
theorem szs_ens : ∀ es : List En, szs (es.map enD) = 10 * es.length
  | [] => rfl
  | s :: ss => by
    rw [List.map_cons, szs, szs_ens ss, List.length_cons]
    simp [enD, snD, tmD, sz, szs]
    omega
theorem plns_ens : ∀ es : List En, plns (es.map enD) = true
  | [] => rfl
  | s :: ss => by
    rw [List.map_cons, plns, plns_ens ss]
    simp [enD, snD, tmD, pln, plns]
/-! ### kinds that are none -/
theorem all_bls {α : Type} {p : α → Bool} {xs : List α} : gAll [.fro (xs.map fun x => .bl (p x))] h = some (.bl (xs.all p), h) := by
  show gBls _ [.fro _] h = _
  rw [show (xs.map fun x => Q.D.bl (p x)) = (xs.map p).map .bl by rw [List.map_map]; rfl, bls_fro]
  simp [List.all_map, Function.comp_def]
theorem kf1 (hp : pln d = true) (e : tupB d 1 30 = false) : f_is_kinds [d] h = .ok (.bl false) h := by
  have ht := t_tup (h := h) (j := 1) (k := 30) hp
  rw [e] at ht
  have e1 : f_is_kind_row [d, .int 1] h = .ok (.bl false) h := by
    rw [e_is_kind_row]
    simp [m_is_kind_row, K_MOST_KINDS, ht, trim_same]
  rw [e_is_kinds]
  simp [m_is_kinds, e1, trim_same]
theorem kf2 {p : Q.D → Bool} (hk : ∀ x ∈ ds, f_is_kind [x] h = .ok (.bl (p x)) h) (hl : ds.length ≤ 1000) (e : ds.all p = false) : f_is_kinds [.tup ds] h = .ok (.bl false) h := by
  have ht := r_is_tuple_of (h := h) (ds := ds) (j := 1) (k := 30)
  have e1 : f_is_kind_row [.tup ds, .int 1] h = .ok (.bl false) h := by
    rw [e_is_kind_row]
    have lc : lcL (fun _ => True) (gSlot 2) tYesM (eFn f_is_kind [] (aCons (eVar 2) aNil)) (wipeA [some (.tup ds), some (.int 1), none] [2]) ds [] h = .ok (ds.map fun x => .bl (p x)) h := by
      have := lc_enc (G := fun _ => True) (g := gSlot 2) (m := eFn f_is_kind [] (aCons (eVar 2) aNil)) (σ := wipeA [some (.tup ds), some (.int 1), none] [2]) (h := h) id (fun x => .bl (p x)) trivial ds (fun x hx => ⟨_, rfl, by simp [wipeA, hk x hx]⟩) (by omega)
      rw [List.map_id] at this
      exact this
    by_cases hc : 1 ≤ ds.length ∧ ds.length ≤ 30
    · have q1 : (1 : Int) ≤ ds.length := by omega
      have q2 : (ds.length : Int) ≤ 30 := by omega
      simp [m_is_kind_row, K_MOST_KINDS, ht, q1, q2, lc, all_bls, e, trim_same]
    · have q : (decide ((1 : Int) ≤ ds.length) && decide ((ds.length : Int) ≤ 30)) = false := by
        rw [Bool.and_eq_false_iff, decide_eq_false_iff_not, decide_eq_false_iff_not]
        omega
      rw [q] at ht
      simp [m_is_kind_row, K_MOST_KINDS, ht, trim_same]
  rw [e_is_kinds]
  simp [m_is_kinds, e1, trim_same]
theorem asc_bad {n : Nat} (hn : n + 1 < ks.length) (hl : ks.length ≤ 1000) (e : strLt ks[n] ks[n + 1] = false) : f_is_ascending [ksD ks] h = .ok (.bl false) h := by
  rw [e_is_ascending]
  have hb : -(2 ^ 62 : Int) ≤ (ks.length : Int) - 1 ∧ (ks.length : Int) - 1 < 2 ^ 62 := by omega
  obtain ⟨L, hL⟩ : ∃ L, L = (List.range (ks.length - 1)) := ⟨_, rfl⟩
  have lc : ∀ σ, σ = [some (Q.D.tup (ks.map .str)), none] → lcL (fun _ => True) (gSlot 1) tYesM (eOp dLt (eOp dIx (eVar 0) (eVar 1)) (eOp dIx (eVar 0) (eOp dPlus (eVar 1) (eC (.int 1))))) (wipeA σ [1]) (rangeD 0 (ks.length - 1)) [] h = .ok (L.map fun i => .bl (strLt (ks.getD i "") (ks.getD (i + 1) ""))) h := by
    intro σ hσ
    subst hσ
    rw [hL, rangeD]
    refine lc_enc (fun i : Nat => .int (0 + (i : Int))) (fun i => .bl (strLt (ks.getD i "") (ks.getD (i + 1) ""))) trivial _ (fun i hi => ⟨_, rfl, ?_⟩) (by simp; omega)
    have hi := List.mem_range.mp hi
    have h1 : i < ks.length := by omega
    have h2 : i + 1 < ks.length := by omega
    have a1 : atI (ks.map Q.D.str) (i : Int) = some (.str ks[i]) := atI_n (by simp [h1])
    have a2 : atI (ks.map Q.D.str) ((i : Int) + 1) = some (.str ks[i + 1]) := by
      have := atI_n (xs := ks.map Q.D.str) (n := i + 1) (x := .str ks[i + 1]) (by simp [h2])
      simpa using this
    have g1 : ks.getD i "" = ks[i] := by rw [List.getD_eq_getElem?_getD, List.getElem?_eq_getElem h1]; rfl
    have g2 : ks.getD (i + 1) "" = ks[i + 1] := by rw [List.getD_eq_getElem?_getD, List.getElem?_eq_getElem h2]; rfl
    rw [g1, g2]
    simp [wipeA, a1, a2]
  have lc := lc _ rfl
  simp [m_is_ascending, ksD, rngK_of hb.1 hb.2, lc, all_bls, trim_same]
  exact ⟨n, by rw [hL]; exact List.mem_range.mpr (by omega), by rw [List.getElem?_eq_getElem hn, List.getElem?_eq_getElem (by omega : n < ks.length)]; exact e⟩
theorem kf3 {n : Nat} (hk : ∀ k ∈ ks, Kind k) (hn : n + 1 < ks.length) (hl : ks.length ≤ 1000) (e : strLt ks[n] ks[n + 1] = false) : f_is_kinds [ksD ks] h = .ok (.bl false) h := by
  by_cases h30 : ks.length ≤ 30
  · have ht : f_is_tuple_of [ksD ks, .int 1, .int 30] h = .ok (.bl true) h := by
      rw [ksD, r_is_tuple_of]
      simp
      omega
    have ha := asc_bad (h := h) hn hl e
    have e1 : f_is_kind_row [ksD ks, .int 1] h = .ok (.bl false) h := by
      rw [e_is_kind_row]
      simp [m_is_kind_row, K_MOST_KINDS, ha, ht]
      unfold ksD
      simp
      rw [lc_all trivial]
      · simp [trim_same]
        rw [← ksD, ha]
        simp [trim_same]
      · intro d hd
        obtain ⟨k, hk', rfl⟩ := List.mem_map.mp hd
        exact ⟨_, rfl, by simp [wipeA, r_is_kind (hk k hk')]⟩
      · simp
        omega
    rw [e_is_kinds]
    simp [m_is_kinds, e1, trim_same]
  · refine kf1 ?_ ?_
    · rw [ksD, pln]; exact plns_kd ks
    · simp [ksD, tupB]; omega
end P

namespace P
open PySem PySem.Spec PyProof.Rows L2 Q G
variable {h g : AH} {i j k : Int} {b : Bool} {ds : List Q.D} {ks os : List Str} {N : Nat} {o : O} {d : Q.D} {es : List En}
/-! ### values that are no books -/
theorem bk1 (hp : pln d = true) (e : tupB d 2 2 = false) : f_is_book [d] h = .ok (.bl false) h := by
  have ht := t_tup (h := h) (j := 2) (k := 2) hp
  rw [e] at ht
  rw [e_is_book]
  simp [m_is_book, ht, trim_same]
theorem bk2 {x y : Q.D} (e : f_is_kinds [x] h = .ok (.bl false) h) : f_is_book [.tup [x, y]] h = .ok (.bl false) h := by
  have ht : f_is_tuple_of [.tup [x, y], .int 2, .int 2] h = .ok (.bl true) h := by simp [r_is_tuple_of]
  rw [e_is_book]
  simp [m_is_book, ht, e, trim_same]
theorem bk3 {y : Q.D} (K : Kinds ks) (hp : pln y = true) (e : tupB y 0 150 = false) : f_is_book [.tup [ksD ks, y]] h = .ok (.bl false) h := by
  have ht : f_is_tuple_of [.tup [ksD ks, y], .int 2, .int 2] h = .ok (.bl true) h := by simp [r_is_tuple_of]
  have h2 := t_tup (h := h) (j := 0) (k := 150) hp
  rw [e] at h2
  rw [e_is_book]
  simp [m_is_book, ht, r_is_kinds K, h2, K_MOST_ENTRIES, trim_same]
theorem mem_pln : ∀ {ds : List Q.D} {x : Q.D}, plns ds = true → x ∈ ds → pln x = true
  | y :: ds, x, hp, hx => by
    rw [plns, Bool.and_eq_true] at hp
    rcases List.mem_cons.mp hx with e | e
    · rw [e]; exact hp.1
    · exact mem_pln hp.2 e
theorem bk4 (K : Kinds ks) (hp : plns ds = true) (hl : ds.length ≤ 150) : f_is_book [.tup [ksD ks, .tup ds]] h = if ds.all (entB ks) = true then f_is_book [.tup [ksD ks, .tup ds]] h else .ok (.bl false) h := by
  by_cases ha : ds.all (entB ks) = true
  · rw [if_pos ha]
  · rw [if_neg ha]
    have ha' : ds.all (entB ks) = false := by simpa using ha
    have ht : f_is_tuple_of [.tup [ksD ks, .tup ds], .int 2, .int 2] h = .ok (.bl true) h := by simp [r_is_tuple_of]
    have ht2 : f_is_tuple_of [.tup ds, .int 0, .int 150] h = .ok (.bl true) h := by
      rw [r_is_tuple_of]
      simp
      omega
    have lc : lcL (fun _ => True) (gSlot 3) tYesM (eFn f_is_entry [] (aCons (eVar 1) (aCons (eVar 3) aNil))) (wipeA [some (.tup [ksD ks, .tup ds]), some (ksD ks), some (.tup ds), none] [3]) ds [] h = .ok (ds.map fun x => .bl (entB ks x)) h := by
      have := lc_enc (G := fun _ => True) (g := gSlot 3) (m := eFn f_is_entry [] (aCons (eVar 1) (aCons (eVar 3) aNil))) (σ := wipeA [some (.tup [ksD ks, .tup ds]), some (ksD ks), some (.tup ds), none] [3]) (h := h) id (fun x => .bl (entB ks x)) trivial ds (fun x hx => ⟨_, rfl, by simp [wipeA, t_entry (h := h) (ks := ks) (mem_pln hp hx)]⟩) (by omega)
      rw [List.map_id] at this
      exact this
    rw [e_is_book]
    simp [m_is_book, ht, r_is_kinds K, ht2, K_MOST_ENTRIES, lc, all_bls, ha', trim_same]
/-- entries doubled -/
theorem ddp_sub {α : Type} [DecidableEq α] : ∀ (bs acc : List α), ∃ cs, ddp acc bs = acc ++ cs ∧ cs.Sublist bs
  | [], acc => ⟨[], by rw [ddp, List.append_nil], .slnil⟩
  | x :: bs, acc => by
    rw [ddp]
    obtain ⟨cs, e, s⟩ := ddp_sub bs (add acc x)
    unfold add at e ⊢
    by_cases hx : x ∈ acc
    · rw [if_pos hx] at e ⊢
      exact ⟨cs, e, .cons _ s⟩
    · rw [if_neg hx] at e ⊢
      exact ⟨x :: cs, by rw [e, List.append_assoc]; rfl, .cons₂ _ s⟩
theorem ddp_len {α : Type} [DecidableEq α] {bs : List α} (e : (ddp [] bs).length = bs.length) : bs.Nodup := by
  obtain ⟨cs, e1, s⟩ := ddp_sub bs []
  rw [List.nil_append] at e1
  have e2 : cs = bs := s.eq_of_length (by rw [← e1]; exact e)
  rw [← e2, ← e1]
  exact ddp_nodup _ _ List.nodup_nil
theorem bk5 (K : Kinds ks) (he : ∀ e ∈ es, Entry ks e) (hl : es.length ≤ 150) : f_is_book [bkD ks es] h = .ok (.bl (decide es.Nodup)) h := by
  by_cases nd : es.Nodup
  · rw [decide_eq_true nd]
    exact r_is_book ⟨K, he, hl, nd⟩
  · rw [decide_eq_false nd]
    have hn : (ddp [] es).length ≠ es.length := fun z => nd (ddp_len z)
    have hn2 : ¬ ((ddp [] es).length : Int) = (es.length : Int) := by omega
    have ht : f_is_tuple_of [bkD ks es, .int 2, .int 2] h = .ok (.bl true) h := by simp [bkD, r_is_tuple_of]
    have ht2 : f_is_tuple_of [.tup (es.map enD), .int 0, .int 150] h = .ok (.bl true) h := by
      rw [r_is_tuple_of]
      simp
      omega
    rw [e_is_book]
    simp [m_is_book, ht, r_is_kinds K]
    unfold bkD
    simp [ht2, K_MOST_ENTRIES]
    rw [lc_all trivial]
    · simp [r_wd_ens (es := es) (h := h) (by omega), trim_same]
      intro z
      exact hn (by have := Int.ofNat.inj z; exact this)
    · intro d hd
      obtain ⟨e, hm, rfl⟩ := List.mem_map.mp hd
      exact ⟨_, rfl, by simp [wipeA, r_is_entry (he e hm)]⟩
    · simp
      omega
/-- an entry of any kinds -/
structure Loose (e : En) : Prop where
  lo : 0 ≤ e.1
  hi : e.1 ≤ 5
  w : e.2.w ∈ WD
theorem entB_en {e : En} (L : Loose e) : entB ks (enD e) = (decide (e.2.a.1 ∈ ks) && decide (e.2.b.1 ∈ ks)) := by
  have := L.lo
  have := L.hi
  simp [entB, enD, fromB, snD, senB, tmD, trmB, L.w]
  omega
theorem pln_ks : pln (ksD ks) = true := by rw [ksD, pln]; exact plns_kd ks
/-- whether kinds and entries, all different, make a book -/
def good (ks : List Str) (es : List En) : Bool := (decide (es.length ≤ 150) && (decide (1 ≤ ks.length) && decide (ks.length ≤ 30))) && es.all fun e => decide (e.2.a.1 ∈ ks) && decide (e.2.b.1 ∈ ks)
theorem bk_all (hk : ∀ k ∈ ks, Kind k) (ha : Asc ks) (he : ∀ e ∈ es, Loose e) (nd : es.Nodup) : f_is_book [bkD ks es] h = .ok (.bl (good ks es)) h := by
  by_cases h1 : 1 ≤ ks.length ∧ ks.length ≤ 30
  · have K : Kinds ks := ⟨hk, ha, h1.1, h1.2⟩
    by_cases h2 : es.length ≤ 150
    · by_cases h3 : ∀ e ∈ es, e.2.a.1 ∈ ks ∧ e.2.b.1 ∈ ks
      · have e : good ks es = true := by
          simp only [good, h1, h2, decide_true, Bool.true_and, List.all_eq_true, Bool.and_eq_true, decide_eq_true_eq]
          exact fun e he => h3 e he
        rw [e]
        exact r_is_book ⟨K, fun e hm => ⟨(he e hm).lo, (he e hm).hi, (he e hm).w, (h3 e hm).1, (h3 e hm).2⟩, h2, nd⟩
      · have e : (es.map enD).all (entB ks) = false := by
          rw [List.all_map]
          by_cases z : (es.all (entB ks ∘ enD)) = true
          · refine absurd (fun e hm => ?_) h3
            have := List.all_eq_true.mp z e hm
            simp only [Function.comp_apply] at this
            rw [entB_en (he e hm), Bool.and_eq_true, decide_eq_true_eq, decide_eq_true_eq] at this
            exact this
          · simpa using z
        have e2 : good ks es = false := by
          unfold good
          rw [Bool.and_eq_false_iff]
          refine .inr ?_
          rw [List.all_map] at e
          by_cases z : (es.all fun e => decide (e.2.a.1 ∈ ks) && decide (e.2.b.1 ∈ ks)) = true
          · refine absurd (fun e hm => ?_) h3
            have := List.all_eq_true.mp z e hm
            rw [Bool.and_eq_true, decide_eq_true_eq, decide_eq_true_eq] at this
            exact this
          · simpa using z
        rw [e2]
        have := bk4 (h := h) (ds := es.map enD) K (plns_ens es) (by rw [List.length_map]; exact h2)
        rw [e, if_neg Bool.false_ne_true] at this
        exact this
    · have e : good ks es = false := by simp [good, h2]
      rw [e]
      refine bk3 K (by rw [pln]; exact plns_ens es) ?_
      simp [tupB]
      omega
  · have e : good ks es = false := by
      unfold good
      rw [Bool.and_eq_false_iff]
      refine .inl ?_
      rw [Bool.and_eq_false_iff]
      refine .inr ?_
      rw [Bool.and_eq_false_iff, decide_eq_false_iff_not, decide_eq_false_iff_not]
      omega
    rw [e]
    refine bk2 (kf1 pln_ks ?_)
    simp only [ksD, tupB, List.length_map, Bool.and_eq_false_iff, decide_eq_false_iff_not]
    omega
end P

namespace P
open PySem PySem.Spec PyProof.Rows L2 Q G
variable {h g : AH} {i j k : Int} {b : Bool} {ds : List Q.D} {ks os : List Str} {N : Nat} {o : O} {d : Q.D} {es : List En}
def SN : KeyEnc Sen where
  enc := snD
  key := snK
  nk := nk_sn
  dep := fun e => by simp [snK, tmK, NestedKey.depth, NestedKey.depthAll]
  inj := fun _ _ => snK_inj
  tup := fun e => ⟨_, rfl⟩
  clo := fun _ _ => rfl
/-- the different sentences -/
def told (es : List En) : List Sen := ddp [] (es.map (·.2))
theorem told_len : (told es).length ≤ es.length := by
  have := len_ddp (es.map (·.2)) []
  rw [List.length_map] at this
  simpa [told] using this
theorem r_among (hl : es.length ≤ 1000) : f_sentences_among [bkD ks es] h = .ok (.tup ((told es).map snD)) h := by
  rw [e_sentences_among]
  have lc : lcL (fun _ => True) (gTupD 2 (gsCons (gSlot 1) (gsCons (gSlot 2) gsNil))) tYesM (eVar 2) (wipeA [some (bkD ks es), none, none] [1, 2]) (es.map enD) [] h = .ok (es.map fun e => snD e.2) h :=
    lc_enc enD (fun e => snD e.2) trivial es (fun e he => ⟨_, rfl, by simp [wipeA]⟩) (by omega)
  have em : (es.map fun e => snD e.2) = (es.map (·.2)).map SN.enc := by rw [List.map_map]; rfl
  have wd := r_without_doubles (h := h) SN (x := .fro (es.map fun e => snD e.2)) (es.map (·.2)) (by rw [em]; rfl) (fun _ => by rw [em]; rfl) (by rw [List.length_map]; omega)
  have wd' : f_without_doubles [.fro (es.map fun e => snD e.2)] h = .ok (.fro ((told es).map snD)) h := wd
  simp -implicitDefEqProofs [m_sentences_among, lc, wd']
  exact trim_same rfl
theorem r_is_term {t : Tm} : f_n__law_is_term [ksD ks, tmD t] h = .ok (.bl (decide (t.1 ∈ ks))) h := by
  rw [e_n__law_is_term]
  have hl : gLen [tmD t] h = some (.int 2, h) := rfl
  simp -implicitDefEqProofs [m_n__law_is_term, tmD, ksD, in_tup]
  by_cases hs : t.1 ∈ ks <;> simp [hs, trim_same]
theorem r_says {x y : Bool} : f_n__law_says [.bl x, .bl y] h = .ok (.bl (x == y)) h := by
  rw [e_n__law_says]
  cases x <;> cases y <;> simp [m_n__law_says, trim_same]
/-- what is due of a book -/
def dueD (ks : List Str) (es : List En) : Q.D := .tup [.tup [.int ks.length, .int es.length, .int (told es).length], .tup ((told es).map snD)]
theorem r_told_good (e : f_is_book [bkD ks es] h = .ok (.bl true) h) (hl : es.length ≤ 1000) (hk : ks.length ≤ 1000) : f_n__law_told [bkD ks es, dueD ks es] h = .ok (.bl true) h := by
  rw [e_n__law_told]
  have c := r_check_good (w := "book") e
  have e1 : f_sizes_of [bkD ks es] h = .ok (.tup [.int ks.length, .int es.length, .int (told es).length]) h := by
    rw [e_sizes_of]
    simp -implicitDefEqProofs [m_sizes_of, c, r_among hl, ln_ks]
    exact trim_same rfl
  have e2 : f_told_sentences [bkD ks es] h = .ok (.tup ((told es).map snD)) h := by
    rw [e_told_sentences]
    simp -implicitDefEqProofs [m_told_sentences, c, r_among hl]
    exact trim_same rfl
  have sm := r_law_same (h := h) (d := dueD ks es) (by
    have := told_len (es := es)
    simp only [dueD, sz, szs, szs_sns]
    omega) (by simp only [dueD, pln, plns, plns_sns]; rfl)
  have nn : isNonD (dueD ks es) = false := rfl
  unfold dueD at sm nn ⊢
  simp -implicitDefEqProofs [m_n__law_told, b_n__law_told_1, b_n__law_told_3, e1, e2, sm, nn, isNonD]
  exact trim_same rfl
theorem r_kept (hk : ∀ k ∈ ks, Kind k) (ha : Asc ks) (he : ∀ e ∈ es, Loose e) (nd : es.Nodup) (hl : es.length ≤ 1000) (hl2 : ks.length ≤ 1000) : f_n__law_kept [ksD ks, .fro (es.map enD)] h = .ok (.bl true) h := by
  rw [e_n__law_kept]
  have bk := bk_all (h := h) hk ha he nd
  have lc : ∀ x2, lcL (fun _ => True) (gSlot 6) tYesM (eAnd (eFn f_n__law_is_term [] (aCons (eVar 0) (aCons (eOp dIx (eOp dIx (eVar 6) (eC (.int 1))) (eC (.int 1))) aNil))) (eFn f_n__law_is_term [] (aCons (eVar 0) (aCons (eOp dIx (eOp dIx (eVar 6) (eC (.int 1))) (eC (.int 2))) aNil))))
      (wipeA [some (ksD ks), some (.fro (es.map enD)), x2, none, none, none, none] [6]) (es.map enD) [] h = .ok (es.map fun e => .bl (decide (e.2.a.1 ∈ ks) && decide (e.2.b.1 ∈ ks))) h := fun x2 => by
    refine lc_enc enD (fun e => .bl (decide (e.2.a.1 ∈ ks) && decide (e.2.b.1 ∈ ks))) trivial es (fun e he => ⟨_, rfl, ?_⟩) (by omega)
    simp -implicitDefEqProofs [wipeA, r_is_term]

  have lc2 : ∀ x2 x3, lcL (fun _ => True) (gSlot 6) tYesM (eOp dIx (eVar 6) (eC (.int 1))) (wipeA [some (ksD ks), some (.fro (es.map enD)), x2, x3, none, none, none] [6]) (es.map enD) [] h = .ok (es.map fun e => snD e.2) h := fun x2 x3 =>
    lc_enc enD (fun e => snD e.2) trivial es (fun e he => ⟨_, rfl, by simp [wipeA]⟩) (by omega)
  have em : (es.map fun e => snD e.2) = (es.map (·.2)).map SN.enc := by rw [List.map_map]; rfl
  have df : f_n__law_different [.fro (es.map fun e => snD e.2)] h = .ok (.fro ((told es).map snD)) h := by
    rw [em]
    exact r_differentE SN (by rw [List.length_map]; exact hl)
  have sq : ∀ h, gTuple [ksD ks] h = some (ksD ks, h) := fun _ => rfl
  obtain ⟨G0, hG0⟩ : ∃ G0 : Bool, G0 = (decide ((es.length : Int) ≤ 150) && (decide ((1 : Int) ≤ ks.length) && decide ((ks.length : Int) ≤ 30))) := ⟨_, rfl⟩
  have hgood : good ks es = (G0 && es.all fun e => decide (e.2.a.1 ∈ ks) && decide (e.2.b.1 ∈ ks)) := by
    rw [hG0, good]
    congr 1
    rw [Bool.eq_iff_iff]
    simp
    omega
  have hd : _root_.Q.D.tup [ksD ks, .tup (es.map enD)] = bkD ks es := rfl
  by_cases hg : good ks es = true
  · rw [hg] at bk hgood
    have A : (es.all fun e => decide (e.2.a.1 ∈ ks) && decide (e.2.b.1 ∈ ks)) = true := by
      have := hgood.symm
      rw [Bool.and_eq_true] at this
      exact this.2
    have c := hgood.symm
    rw [Bool.and_eq_true, hG0, Bool.and_eq_true, Bool.and_eq_true, decide_eq_true_eq, decide_eq_true_eq, decide_eq_true_eq] at c
    obtain ⟨⟨c1, c2, c3⟩, _⟩ := c
    have tg := r_told_good bk hl hl2
    unfold dueD at tg
    have ab := all_bls (h := h) (p := fun e : En => decide (e.2.a.1 ∈ ks) && decide (e.2.b.1 ∈ ks)) (xs := es)
    rw [A] at ab
    simp -implicitDefEqProofs [m_n__law_kept, ln_ks, c1, c2, c3, lc, ab, lc2, df, sq, hd, bk, r_says, tg]
    exact trim_same rfl
  · have hg' : good ks es = false := by simpa using hg
    rw [hg'] at bk hgood
    have tb := r_told_bad bk
    by_cases c1 : (es.length : Int) ≤ 150
    · by_cases c2 : (1 : Int) ≤ ks.length
      · by_cases c3 : (ks.length : Int) ≤ 30
        · have A : (es.all fun e => decide (e.2.a.1 ∈ ks) && decide (e.2.b.1 ∈ ks)) = false := by
            have g1 : G0 = true := by rw [hG0]; simp [c1, c2, c3]
            rw [g1, Bool.true_and] at hgood
            exact hgood.symm
          have ab := all_bls (h := h) (p := fun e : En => decide (e.2.a.1 ∈ ks) && decide (e.2.b.1 ∈ ks)) (xs := es)
          rw [A] at ab
          simp -implicitDefEqProofs [m_n__law_kept, ln_ks, c1, c2, c3, lc, ab, lc2, df, sq, hd, bk, r_says, tb]
          exact trim_same rfl
        · simp -implicitDefEqProofs [m_n__law_kept, ln_ks, c1, c2, c3, lc2, df, sq, hd, bk, r_says, tb]
          exact trim_same rfl
      · simp -implicitDefEqProofs [m_n__law_kept, ln_ks, c1, c2, lc2, df, sq, hd, bk, r_says, tb]
        exact trim_same rfl
    · simp -implicitDefEqProofs [m_n__law_kept, ln_ks, c1, lc2, df, sq, hd, bk, r_says, tb]
      exact trim_same rfl
end P

namespace P
open PySem PySem.Spec PyProof.Rows L2 Q G
variable {h g : AH} {i j k : Int} {b : Bool} {ds : List Q.D} {ks os : List Str} {N : Nat} {o : O} {d : Q.D} {es : List En}
theorem strLt_irr {a : Str} : strLt a a = false := by
  cases e : strLt a a with
  | false => rfl
  | true => exact (strLt_asymm e e).elim
theorem strLt_not {a c : Str} (e : strLt a c = true) : strLt c a = false := by
  cases e2 : strLt c a with
  | false => rfl
  | true => exact (strLt_asymm e e2).elim
/-- the kinds and the first once more -/
theorem k_again (K : Kinds ks) : f_is_kinds [ksD (ks ++ ks.take 1)] h = .ok (.bl false) h := by
  have kp := K.pos
  have k30 := K.most
  have hl : (ks ++ ks.take 1).length = ks.length + 1 := by simp; omega
  refine kf3 (n := ks.length - 1) (fun k hk => ?_) (by omega) (by omega) ?_
  · rcases List.mem_append.mp hk with m | m
    · exact K.kind k m
    · exact K.kind k (List.mem_of_mem_take m)
  · have e1 : (ks ++ ks.take 1)[ks.length - 1]'(by omega) = ks[ks.length - 1]'(by omega) := List.getElem_append_left (by omega)
    have e2 : (ks ++ ks.take 1)[ks.length - 1 + 1]'(by omega) = ks[0]'(by omega) := by
      rw [List.getElem_append_right (by omega), List.getElem_take]
      congr 1
      omega
    rw [e1, e2]
    by_cases h1 : ks.length = 1
    · have : ks[ks.length - 1]'(by omega) = ks[0]'(by omega) := by congr 1; omega
      rw [this]
      exact strLt_irr
    · exact strLt_not (List.pairwise_iff_getElem.mp K.asc 0 (ks.length - 1) (by omega) (by omega) (by omega))
theorem r_kind_A : f_is_kind [.str "A"] h = .ok (.bl false) h := by
  rw [e_is_kind]
  have hl : gLen [.str "A"] h = some (.int 1, h) := rfl
  have hi : dIx (.str "A") (.int 0) h = some (.str "A", h) := by
    have := ix_str'' (h := h) (s := "A") (i := 0) (by decide +kernel)
    rw [this]
    rfl
  have hc : strLt "A" "a" = true := by decide +kernel
  simp [m_is_kind, hl, hi, K_MOST_SIGNS, hc, trim_same]
theorem k_A (K : Kinds ks) : f_is_kinds [.tup (.str "A" :: ks.map .str)] h = .ok (.bl false) h := by
  refine kf2 (p := fun x => match x with | .str s => !decide (s = "A") | _ => false) (fun x hx => ?_) (by have := K.most; simp; omega) ?_
  · rcases List.mem_cons.mp hx with rfl | hx
    · rw [r_kind_A]; rfl
    · obtain ⟨k, hk, rfl⟩ := List.mem_map.mp hx
      rw [r_is_kind (K.kind k hk)]
      have : ¬ k = "A" := fun z => by
        have := K.kind k hk
        rw [z] at this
        obtain ⟨c, r, e, hc⟩ := this.fst
        have e2 : ("A" : Str).cps.toList = [65] := by decide +kernel
        rw [e2] at e
        cases e
        have := hc.1
        omega
      simp [this]
  · simp
theorem r_kind_tup {ds : List Q.D} : f_is_kind [.tup ds] h = .ok (.bl false) h := by
  rw [e_is_kind]
  simp [m_is_kind, trim_same]
/-- entries are no kinds -/
theorem k_ens (hl : es.length ≤ 1000) (h0 : 0 < es.length) : f_is_kinds [.tup (es.map enD)] h = .ok (.bl false) h := by
  refine kf2 (p := fun _ => false) (fun x hx => ?_) (by rw [List.length_map]; exact hl) ?_
  · obtain ⟨e, he, rfl⟩ := List.mem_map.mp hx
    exact r_kind_tup
  · cases es with
    | nil => simp at h0
    | cons e es => rfl
/-! ### the spoilt ones -/
/-- no book, wherever -/
def NoBook (v : Q.D) : Prop := pln v = true ∧ ∀ h, f_is_book [v] h = .ok (.bl false) h
theorem nb_kinds {x : Q.D} (hp : pln x = true) (e : ∀ h, f_is_kinds [x] h = .ok (.bl false) h) : NoBook (.tup [x, .tup (es.map enD)]) :=
  ⟨by simp only [pln, plns, hp, plns_ens]; rfl, fun h => bk2 (e h)⟩
theorem clo_pln {n : Nat} : ∀ {d : Q.D}, pln d = true → closed n d = true := fun {d} => by
  induction d using Q.D.rec (motive_2 := fun ds => plns ds = true → closeds n ds = true) with
  | non => intro _; rfl
  | bl b => intro _; rfl
  | int b => intro _; rfl
  | str b => intro _; rfl
  | tup ds ih => intro c; rw [pln] at c; rw [closed]; exact ih c
  | fro ds ih => intro c; rw [pln] at c; rw [closed]; exact ih c
  | scr ds ih => intro c; cases c
  | ref k => intro c; cases c
  | exn a d c ns xs ih => intro c; cases c
  | nil => rfl
  | cons d ds ih1 ih2 =>
    rename_i c
    rw [plns, Bool.and_eq_true] at c
    rw [closeds, ih1 c.1, ih2 c.2]
    rfl
theorem r_spoilt0 (K : Kinds ks) {k0 : Str} (O : Ok (N + 1) o) : ∃ v o', f_n__law_pick [.ref 0, .fro [.tup [], .fro (ks.map .str), ksD (ks ++ ks.take 1), .tup [.str "b", .str "a"], .str k0, .non, .tup (.str "A" :: ks.map .str), ksD os]] (o :: g) = .ok v (o' :: g) ∧ (((os.length : Int) = 31) → NoBook (.tup [v, .tup (es.map enD)])) ∧ Ok N o' := by
  obtain ⟨v, o', e, m, O'⟩ := r_pick (N := N) (g := g) (ds := [.tup [], .fro (ks.map .str), ksD (ks ++ ks.take 1), .tup [.str "b", .str "a"], .str k0, .non, .tup (.str "A" :: ks.map .str), ksD os]) (Rows.fro (by simp) (by simp)) (O.mono (by omega))
  refine ⟨v, o', e, fun h31 => ?_, O'⟩
  simp only [List.mem_cons, List.not_mem_nil, or_false] at m
  rcases m with rfl | rfl | rfl | rfl | rfl | rfl | rfl | rfl
  · exact nb_kinds rfl fun h => kf1 rfl rfl
  · exact nb_kinds (by rw [pln]; exact plns_kd ks) fun h => kf1 (by rw [pln]; exact plns_kd ks) rfl
  · exact nb_kinds pln_ks fun h => k_again K
  · exact nb_kinds rfl fun h => kf3 (ks := ["b", "a"]) (n := 0) (fun k hk => kindB_ok (by
      simp only [List.mem_cons, List.not_mem_nil, or_false] at hk
      rcases hk with rfl | rfl <;> decide +kernel)) (by decide) (by decide) (by decide +kernel)
  · exact nb_kinds rfl fun h => kf1 rfl rfl
  · exact nb_kinds rfl fun h => kf1 rfl rfl
  · exact nb_kinds (by rw [pln, plns, pln]; exact plns_kd ks) fun h => k_A K
  · exact nb_kinds pln_ks fun h => kf1 pln_ks (by
      simp only [ksD, tupB, List.length_map, Bool.and_eq_false_iff, decide_eq_false_iff_not]
      omega)
theorem tupB2 {ds : List Q.D} (h : ds.length ≠ 2) : tupB (.tup ds) 2 2 = false := by
  simp only [tupB, Bool.and_eq_false_iff, decide_eq_false_iff_not]
  omega
theorem nb1 {v : Q.D} (hp : pln v = true) (e : tupB v 2 2 = false) : NoBook v := ⟨hp, fun h => bk1 hp e⟩
theorem r_spoilt1 (K : Kinds ks) (hl : es.length ≤ 1000) (O : Ok (N + 1) o) : ∃ v o', f_n__law_pick [.ref 0, .fro [.tup [ksD ks], .tup [ksD ks, .fro (es.map enD)], .fro [ksD ks, .tup (es.map enD)], .tup [ksD ks, .tup (es.map enD), .tup []], (if 0 < es.length then .tup [.tup (es.map enD), ksD ks] else .tup []), ksD ks, .non, .tup [.str "all", ksD ks, .tup (es.map enD)]]] (o :: g) = .ok v (o' :: g) ∧ NoBook v ∧ Ok N o' := by
  obtain ⟨v, o', e, m, O'⟩ := r_pick (N := N) (g := g) (ds := [.tup [ksD ks], .tup [ksD ks, .fro (es.map enD)], .fro [ksD ks, .tup (es.map enD)], .tup [ksD ks, .tup (es.map enD), .tup []], (if 0 < es.length then .tup [.tup (es.map enD), ksD ks] else .tup []), ksD ks, .non, .tup [.str "all", ksD ks, .tup (es.map enD)]]) (Rows.fro (by simp) (by simp)) O
  refine ⟨v, o', e, ?_, O'⟩
  have pe := plns_ens es
  have pk := pln_ks (ks := ks)
  simp only [List.mem_cons, List.not_mem_nil, or_false] at m
  rcases m with rfl | rfl | rfl | rfl | rfl | rfl | rfl | rfl
  · exact nb1 (by simp only [pln, plns, pk]; rfl) (tupB2 (by simp))
  · exact ⟨by simp only [pln, plns, pk, pe]; rfl, fun h => bk3 K (by rw [pln]; exact pe) rfl⟩
  · exact nb1 (by simp only [pln, plns, pk, pe]; rfl) rfl
  · exact nb1 (by simp only [pln, plns, pk, pe]; rfl) (tupB2 (by simp))
  · by_cases h0 : 0 < es.length
    · rw [if_pos h0]
      exact ⟨by simp only [pln, plns, pk, pe]; rfl, fun h => bk2 (k_ens hl h0)⟩
    · rw [if_neg h0]
      exact nb1 rfl (tupB2 (by simp))
  · by_cases h2 : ks.length = 2
    · match ks, h2 with
      | [x, y], _ => exact ⟨rfl, fun h => bk2 (kf1 rfl rfl)⟩
    · exact nb1 pk (tupB2 (by rw [List.length_map]; exact h2))
  · exact nb1 rfl rfl
  · exact nb1 (by simp only [pln, plns, pk, pe]; rfl) (tupB2 (by simp))
end P

namespace P
open PySem PySem.Spec PyProof.Rows L2 Q G
variable {h g : AH} {i j k : Int} {b : Bool} {ds : List Q.D} {ks os : List Str} {N : Nat} {o : O} {d : Q.D} {es : List En}
/-- a wrong one among entries -/
theorem nb_wrong (K : Kinds ks) (hp : plns ds = true) {x : Q.D} (hx : x ∈ ds) (e : entB ks x = false) : NoBook (.tup [ksD ks, .tup ds]) := by
  refine ⟨by simp only [pln, plns, pln_ks, hp]; rfl, fun h => ?_⟩
  by_cases hl : ds.length ≤ 150
  · have := bk4 (h := h) K hp hl
    have ha : ds.all (entB ks) = false := by
      rw [List.all_eq_false]
      exact ⟨x, hx, by rw [e]; exact Bool.false_ne_true⟩
    rw [ha, if_neg Bool.false_ne_true] at this
    exact this
  · refine bk3 K (by rw [pln]; exact hp) ?_
    simp only [tupB, Bool.and_eq_false_iff, decide_eq_false_iff_not]
    omega
theorem nb_double (K : Kinds ks) (he : ∀ e ∈ es, Entry ks e) (nd : ¬ es.Nodup) : NoBook (bkD ks es) := by
  refine ⟨by simp only [bkD, pln, plns, pln_ks, plns_ens]; rfl, fun h => ?_⟩
  by_cases hl : es.length ≤ 150
  · rw [bk5 K he hl, decide_eq_false nd]
  · refine bk3 K (by rw [pln]; exact plns_ens es) ?_
    simp only [tupB, List.length_map, Bool.and_eq_false_iff, decide_eq_false_iff_not]
    omega
theorem kind_z : ¬ Kind ("zzzzzzzzzzzzz" : Str) := fun K => by
  have := K.len
  have e : ("zzzzzzzzzzzzz" : Str).cps.size = 13 := by decide +kernel
  omega
/-- the wrong entries -/
def wrong (k0 : Str) (e : En) : List Q.D :=
  let one : Q.D := .tup [.str k0, .bl true]
  [.tup [.int 6, snD e.2], .tup [.int (-1), snD e.2], .tup [.bl true, snD e.2], .tup [.non, snD e.2], .tup [.int e.1, snD e.2, .int 0], .fro [.int e.1, snD e.2], .tup [snD e.2, .int e.1], .tup [.int e.1, .fro [.str e.2.w, tmD e.2.a, tmD e.2.b]], .tup [.int e.1], snD e.2, .non,
   .tup [.int e.1, .tup [.str e.2.w, tmD e.2.a]], .tup [.int e.1, .tup [.str "none", one, one]], .tup [.int e.1, .tup []], .tup [.int e.1, .tup [snD e.2]], .tup [.str "0", snD e.2], .tup [.int e.1, .tup [.str "empty", one]], .tup [.int e.1, .tup [.str e.2.w, tmD e.2.a, tmD e.2.b, one]],
   .tup [.int e.1, .tup [.str e.2.w, tmD e.2.a, .tup [.str e.2.b.1, .int 1]]], .tup [.int e.1, .tup [.str e.2.w, .tup [.str "zzzzzzzzzzzzz", .bl true], tmD e.2.b]], .tup [.int e.1, .tup [.str e.2.w, .str e.2.b.1, tmD e.2.a]]]
theorem wrong_ok (K : Kinds ks) {k0 : Str} {e : En} {x : Q.D} (hx : x ∈ wrong k0 e) : pln x = true ∧ entB ks x = false := by
  have hz : ("zzzzzzzzzzzzz" : Str) ∉ ks := fun m => kind_z (K.kind _ m)
  have hn : ("none" : Str) ∉ WD := by decide +kernel
  simp only [wrong, List.mem_cons, List.not_mem_nil, or_false] at hx
  rcases hx with rfl | rfl | rfl | rfl | rfl | rfl | rfl | rfl | rfl | rfl | rfl | rfl | rfl | rfl | rfl | rfl | rfl | rfl | rfl | rfl | rfl <;>
    refine ⟨by simp [snD, tmD, pln, plns], ?_⟩ <;> simp [entB, fromB, snD, tmD, senB, trmB, hz, hn]
/-- the doubled one -/
theorem not_nodup {e : En} (he : e ∈ es) (n : Nat) : ¬ (es.take n ++ [e] ++ es.drop n).Nodup := fun nd => by
  rw [List.append_assoc, List.nodup_append] at nd
  obtain ⟨_, h2, h3⟩ := nd
  rw [← List.take_append_drop n es] at he
  rcases List.mem_append.mp he with m | m
  · exact h3 e m e (by simp) rfl
  · rw [List.singleton_append, List.nodup_cons] at h2
    exact h2.1 m
end P

namespace P
open PySem PySem.Spec PyProof.Rows L2 Q G
variable {h g : AH} {i j k : Int} {b : Bool} {ds : List Q.D} {ks os : List Str} {N : Nat} {o : O} {d : Q.D} {es : List En}
theorem sl_ks {n : Int} (h0 : 0 ≤ n) : dSl (ksD ks) none (some n) h = some (ksD (ks.take n.toNat), h) := by
  show some (Q.D.tup (Q.cutD _ none (some n)), h) = _
  rw [cutD_to h0, ksD, List.map_take]
theorem sl_fro_to {n : Int} (h0 : 0 ≤ n) : dSl (.fro (es.map enD)) none (some n) h = some (.fro ((es.take n.toNat).map enD), h) := by
  show some (Q.D.fro (Q.cutD _ none (some n)), h) = _
  rw [cutD_to h0, List.map_take]
theorem sl_fro_from {n : Int} (h0 : 0 ≤ n) : dSl (.fro (es.map enD)) (some n) none h = some (.fro ((es.drop n.toNat).map enD), h) := by
  show some (Q.D.fro (Q.cutD _ (some n) none), h) = _
  rw [cutD_from h0, List.map_drop]
theorem r_spoilt (K : Kinds ks) (he : ∀ e ∈ es, Entry ks e) (hl : es.length ≤ 150) (O : Ok (N + 41000) o) :
    ∃ v o', f_n__law_spoilt [.ref 0, ksD ks, .fro (es.map enD)] (o :: g) = .ok v (o' :: g) ∧ NoBook v ∧ Ok N o' := by
  rw [e_n__law_spoilt]
  have k30 := K.most
  obtain ⟨w, o1, e1, w0, w1, O1⟩ := r_next (N := N + 40900) (g := g) (m := 6) (O.mono (by omega)) (by omega) (by omega)
  have tE : ∀ h, gTuple [.fro (es.map enD)] h = some (.tup (es.map enD), h) := fun _ => rfl
  have lK : ∀ h, gListF [ksD ks] h = some (.fro (ks.map .str), h) := fun _ => rfl
  obtain ⟨k0, hk0, i0⟩ := ix_ks (ks := ks) (n := 0) (by omega) (by have := K.pos; omega)
  by_cases c0 : w = 0
  · subst c0
    obtain ⟨os, o2, e2, _, _, h31, O2⟩ := r_kindsN (N := N + 500) (g := g) (many := 31) (by omega) (by omega) (O1.mono (by omega))
    obtain ⟨v, o3, e3, nb, O3⟩ := r_spoilt0 (N := N) (g := g) (o := o2) (os := os) (k0 := k0) (es := es) K (O2.mono (by omega))
    have s1 : ∀ h, dSl (ksD ks) none (some 1) h = some (ksD (ks.take 1), h) := fun h => sl_ks (by omega)
    have p1 : ∀ h, dPlus (ksD ks) (ksD (ks.take 1)) h = some (ksD (ks ++ ks.take 1), h) := fun h => by
      have := plus_tup (h := h) (ds := ks.map Q.D.str) (es := (ks.take 1).map Q.D.str) (by simp; omega)
      rw [← List.map_append] at this
      exact this
    have p2 : ∀ h, dPlus (.tup [.str "A"]) (ksD ks) h = some (.tup (.str "A" :: ks.map .str), h) := fun h => plus_tup (by simp; omega)
    refine ⟨.tup [v, .tup (es.map enD)], o3, ?_, nb h31, O3⟩
    simp -implicitDefEqProofs [m_n__law_spoilt, tE, e1, lK, s1, p1, i0, p2, e2, e3]
    exact trim_same rfl
  · by_cases c1 : w = 1
    · subst c1
      obtain ⟨v, o3, e3, nb, O3⟩ := r_spoilt1 (N := N) (g := g) (o := o1) (es := es) K (by omega) (O1.mono (by omega))
      refine ⟨v, o3, ?_, nb, O3⟩
      by_cases h0 : 0 < es.length
      · rw [if_pos h0] at e3
        simp -implicitDefEqProofs [m_n__law_spoilt, tE, e1, lK, h0, e3]
        exact trim_same rfl
      · rw [if_neg h0] at e3
        simp -implicitDefEqProofs [m_n__law_spoilt, tE, e1, lK, h0, e3]
        exact trim_same rfl
    · cases es with
      | nil =>
        refine ⟨.tup [ksD ks, .tup [.tup [.int 6, .tup [.str "all", .tup [.str k0, .bl true], .tup [.str k0, .bl true]]], .tup [.int 0, .tup [.str "more", .tup [.str k0, .bl true], .tup [.str k0, .bl true]]]]], o1, ?_, ?_, O1.mono (by omega)⟩
        · simp -implicitDefEqProofs [m_n__law_spoilt, e1, i0, c0, c1]
          exact trim_same rfl
        · exact nb_wrong K rfl List.mem_cons_self rfl
      | cons e0 es0 =>
        obtain ⟨es, hes⟩ : ∃ es, es = e0 :: es0 := ⟨_, rfl⟩
        rw [← hes] at he hl tE ⊢
        have hpos : 0 < es.length := by rw [hes]; simp
        clear hes
        obtain ⟨at', o2, e2, a0, a1, O2⟩ := r_next (N := N + 40800) (g := g) (m := es.length) (O1.mono (by omega)) (by omega) (by omega)
        obtain ⟨e, ee, hat⟩ : ∃ e, es[at'.toNat]? = some e ∧ ∀ h, dIx (.fro (es.map enD)) (.int at') h = some (enD e, h) := by
          have hi : at'.toNat < es.length := by omega
          refine ⟨es[at'.toNat], List.getElem?_eq_getElem hi, fun h => ?_⟩
          obtain ⟨d, ed, at1⟩ := atI_i (xs := es.map enD) a0 (by rw [List.length_map]; omega)
          rw [List.getElem?_map, List.getElem?_eq_getElem hi] at ed
          cases ed
          show (atI (es.map enD) at').map _ = _
          rw [at1]
          rfl
        have hm : e ∈ es := List.mem_of_getElem? ee
        have hne : ¬ es = [] := fun z => by rw [z] at hpos; simp at hpos
        have g1 : gTupD 2 (gsCons (gSlot 10) (gsCons (gSlot 11) gsNil)) (enD e) = gTupD 2 (gsCons (gSlot 10) (gsCons (gSlot 11) gsNil)) (.tup [.int e.1, snD e.2]) := rfl
        have tE2 : ∀ (fs : List En) h, gTuple [.fro (fs.map enD)] h = some (.tup (fs.map enD), h) := fun _ _ => rfl
        by_cases c2 : w = 2
        · subst c2
          obtain ⟨pl, o3, e3, p0, p1, O3⟩ := r_next (N := N) (g := g) (m := (es.length : Int) + 1) (O2.mono (by omega)) (by omega) (by omega)
          refine ⟨bkD ks (es.take pl.toNat ++ [e] ++ es.drop pl.toNat), o3, ?_, nb_double K (fun x hx => ?_) (not_nodup hm _), O3⟩
          · have q1 : ∀ h, dPlus (.fro ((es.take pl.toNat).map enD)) (.fro [enD e]) h = some (.fro ((es.take pl.toNat ++ [e]).map enD), h) := fun h => by
              rw [List.map_append]
              exact plus_fro (by simp; omega)
            have q2 : ∀ h, dPlus (.fro ((es.take pl.toNat ++ [e]).map enD)) (.fro ((es.drop pl.toNat).map enD)) h = some (.fro ((es.take pl.toNat ++ [e] ++ es.drop pl.toNat).map enD), h) := fun h => by
              rw [List.map_append (l₂ := es.drop _)]
              exact plus_fro (by simp; omega)
            have hb : _root_.Q.D.tup [ksD ks, .tup ((es.take pl.toNat ++ [e] ++ es.drop pl.toNat).map enD)] = bkD ks (es.take pl.toNat ++ [e] ++ es.drop pl.toNat) := rfl
            have s1 : ∀ h, dSl (.fro (es.map enD)) none (some pl) h = _ := fun h => sl_fro_to (es := es) (n := pl) p0
            have s2 : ∀ h, dSl (.fro (es.map enD)) (some pl) none h = _ := fun h => sl_fro_from (es := es) (n := pl) p0
            generalize es.take pl.toNat ++ [e] ++ es.drop pl.toNat = tc at *
            generalize es.take pl.toNat ++ [e] = td at *
            generalize es.take pl.toNat = ta at *
            generalize es.drop pl.toNat = tb at *
            simp -implicitDefEqProofs [m_n__law_spoilt, tE2, e1, i0, hne, e2, hat, g1, e3, s1, s2, q1, q2, hb]
            exact trim_same rfl
          · rcases List.mem_append.mp hx with hx | hx
            · rcases List.mem_append.mp hx with hx | hx
              · exact he x (List.mem_of_mem_take hx)
              · rw [List.mem_singleton.mp hx]; exact he e hm
            · exact he x (List.mem_of_mem_drop hx)
        · obtain ⟨x, o3, e3, hx, O3⟩ := r_pick (N := N) (g := g) (ds := wrong k0 e) (Rows.fro (by simp [wrong]) (by simp [wrong])) (O2.mono (by omega))
          obtain ⟨px, bx⟩ := wrong_ok K hx
          refine ⟨.tup [ksD ks, .tup (((es.take at'.toNat).map enD ++ [x]) ++ (es.drop (at' + 1).toNat).map enD)], o3, ?_, nb_wrong K ?_ (x := x) (by simp) bx, O3⟩
          · have lS : ∀ h, gListF [snD e.2] h = some (.fro [.str e.2.w, tmD e.2.a, tmD e.2.b], h) := fun _ => rfl
            have l2 : ∀ h, dSl (snD e.2) none (some 2) h = some (.tup [.str e.2.w, tmD e.2.a], h) := fun _ => rfl
            have p4 : ∀ (y : Q.D) h, dPlus (snD e.2) (.tup [y]) h = some (.tup [.str e.2.w, tmD e.2.a, tmD e.2.b, y], h) := fun y h => plus_tup (by simp)
            have s1 : ∀ h, dSl (.fro (es.map enD)) none (some at') h = _ := fun h => sl_fro_to (es := es) (n := at') a0
            have s2 : ∀ h, dSl (.fro (es.map enD)) (some (at' + 1)) none h = _ := fun h => sl_fro_from (es := es) (n := at' + 1) (by omega)
            have q1 : ∀ h, dPlus (.fro ((es.take at'.toNat).map enD)) (.fro [x]) h = some (.fro ((es.take at'.toNat).map enD ++ [x]), h) := fun h => plus_fro (by simp; omega)
            have q2 : ∀ h, dPlus (.fro ((es.take at'.toNat).map enD ++ [x])) (.fro ((es.drop (at' + 1).toNat).map enD)) h = some (.fro (((es.take at'.toNat).map enD ++ [x]) ++ (es.drop (at' + 1).toNat).map enD), h) := fun h => plus_fro (by simp; omega)
            have tE3 : ∀ (fs : List Q.D) h, gTuple [.fro fs] h = some (.tup fs, h) := fun _ _ => rfl
            generalize ((es.take at'.toNat).map enD ++ [x]) ++ (es.drop (at' + 1).toNat).map enD = tc at *
            generalize (es.take at'.toNat).map enD ++ [x] = td at *
            generalize (es.take at'.toNat).map enD = ta at *
            generalize (es.drop (at' + 1).toNat).map enD = tb at *
            simp only [wrong] at e3
            have ng : ∀ σ h, eNeg (eC (.int 1)) σ h = .ok (.int (-1)) h := fun _ _ => rfl
            simp -implicitDefEqProofs [m_n__law_spoilt, tE3, e1, c0, c1, c2, i0, hne, e2, hat, g1, ng, lS, l2, p4, plus_fro, e3, s1, s2, q1, q2]
            trace_state
            exact trim_same rfl
          · rw [plns_app, plns_app, plns_ens, plns_ens, plns, plns, px]
            rfl
end P

namespace P
open PySem PySem.Spec PyProof.Rows L2 Q G
variable {h g : AH} {i j k : Int} {b : Bool} {ds : List Q.D} {ks os : List Str} {N : Nat} {o : O} {d : Q.D} {es : List En}
section
variable {α : Type} {G : AH → Prop} {g : MG} {t : MB} {m : M} {σ : AS} {h : AH}
theorem lc_fltA (e1 f : α → Q.D) (p : α → Bool) (hG : G h) : ∀ (xs : List α) (acc : List Q.D), (∀ x ∈ xs, ∃ σ1, g (e1 x) σ h = some (σ1, h) ∧ t σ1 h = .ok (p x) h ∧ (p x = true → m σ1 h = .ok (f x) h)) → acc.length + xs.length ≤ 16777216 → lcL G g t m σ (xs.map e1) acc h = .ok (acc ++ (xs.filter p).map f) h
  | [], acc, _, _ => by
    show lcL G g t m σ [] acc h = _
    rw [lcL, if_pos hG]; simp
  | x :: xs, acc, hd, hl => by
    obtain ⟨σ1, e2, e3, e4⟩ := hd x List.mem_cons_self
    rw [List.length_cons] at hl
    show lcL G g t m σ (e1 x :: xs.map e1) acc h = _
    rw [lcL, if_pos hG, e2]
    dsimp only
    rw [e3]
    by_cases hp : p x = true
    · rw [hp]
      dsimp only
      rw [e4 hp]
      dsimp only
      rw [if_pos (by omega), lc_fltA e1 f p hG xs _ (fun y hy => hd y (List.mem_cons_of_mem _ hy)) (by simp; omega), List.filter_cons_of_pos hp]
      simp
    · have hp' : p x = false := by simpa using hp
      rw [hp']
      dsimp only
      rw [lc_fltA e1 f p hG xs _ (fun y hy => hd y (List.mem_cons_of_mem _ hy)) (by omega), List.filter_cons_of_neg (by simpa using hp)]
theorem lc_flt (e1 f : α → Q.D) (p : α → Bool) (hG : G h) (xs : List α) (hd : ∀ x ∈ xs, ∃ σ1, g (e1 x) σ h = some (σ1, h) ∧ t σ1 h = .ok (p x) h ∧ (p x = true → m σ1 h = .ok (f x) h)) (hl : xs.length ≤ 16777216) : lcL G g t m σ (xs.map e1) [] h = .ok ((xs.filter p).map f) h := by
  rw [lc_fltA e1 f p hG xs [] hd (by simpa using hl), List.nil_append]
end
theorem trim_bl {h h' : AH} {b v : Bool} : ∃ h'', trimR h b (.ok (.bl v) h') = .ok (.bl v) h'' := by
  rw [trimR_ok]
  by_cases h1 : h'.length = h.length
  · exact ⟨_, by rw [if_pos h1]⟩
  · rw [if_neg h1]
    by_cases h2 : okT h h' ∧ closed h.length (.bl v) = true
    · exact ⟨_, by rw [if_pos h2]⟩
    · exact ⟨_, by rw [if_neg h2]; rfl⟩
abbrev σk (ns : List Int) (ks : List Str) (es fs : List En) (k0 : Str) (fw : List Str) (x7 x8 x9 x10 : Option Q.D) : AS := [some (.scr (ns.map .int)), some (.ref 0), some (ksD ks), some (.fro (es.map enD)), some (.str k0), some (ksD fw), some (.fro (fs.map enD)), x7, x8, x9, x10, none, none, none]
theorem b3 : ∀ {v : Q.D}, v ∈ [Q.D.int 1, .int 20, .int 150] → ∃ n : Int, 0 ≤ n ∧ n ≤ 150 ∧ v = .int n := fun {v} hv => by
  simp only [List.mem_cons, List.not_mem_nil, or_false] at hv
  rcases hv with rfl | rfl | rfl
  · exact ⟨1, by omega, by omega, rfl⟩
  · exact ⟨20, by omega, by omega, rfl⟩
  · exact ⟨150, by omega, by omega, rfl⟩
/-- a turn with a spoilt value -/
theorem law_turn {ns : List Int} {k0 : Str} {fw : List Str} {fs : List En} (K : Kinds (ks.take 30)) (he : ∀ e ∈ fs, Entry (ks.take 30) e) (O : Ok (N + 42000) o) {x7 x8 x9 x10 : Option Q.D} :
    ∃ o' y, b_law_1 (σk ns ks es fs k0 fw x7 x8 x9 x10) (o :: g) = .nx (σk ns ks es fs k0 fw x7 x8 x9 y) (o' :: g) ∧ Ok N o' := by
  obtain ⟨d1, o1, e1, m1, O1⟩ := r_pick (N := N + 41000) (g := g) (ds := [.int 1, .int 20, .int 150]) (Rows.fro (by simp) (by simp)) (O.mono (by omega))
  obtain ⟨n, n0, n1, rfl⟩ := b3 m1
  obtain ⟨v, o2, e2, nb, O2⟩ := r_spoilt (N := N) (g := g) (es := fs.take n.toNat) K (fun e hm => he e (List.mem_of_mem_take hm)) (by rw [List.length_take]; omega) (O1.mono (by omega))
  have s1 : ∀ h, dSl (ksD ks) none (some 30) h = some (ksD (ks.take 30), h) := fun h => sl_ks (by omega)
  have s2 : ∀ h, dSl (.fro (fs.map enD)) none (some n) h = some (.fro ((fs.take n.toNat).map enD), h) := fun h => sl_fro_to n0
  have ib := nb.2 (o2 :: g)
  have tb := r_told_bad ib
  refine ⟨o2, some v, ?_, O2⟩
  generalize fs.take n.toNat = ft at *
  generalize ks.take 30 = kt at *
  simp -implicitDefEqProofs [b_law_1, σk, s1, s2, e1, e2, ib, tb]
end P

namespace P
open PySem PySem.Spec PyProof.Rows L2 Q G
variable {h g : AH} {i j k : Int} {b : Bool} {ds : List Q.D} {ks os : List Str} {N : Nat} {o : O} {d : Q.D} {es : List En}
/-- entries that all stand for one pair of terms -/
def es8 (k : Str) : List En := ((List.range 6).map fun i : Nat => (((i : Nat) : Int), (⟨"some", (k, true), (k, false)⟩ : Sen))) ++ [(0, ⟨"all", (k, true), (k, true)⟩), (0, ⟨"more", (k, true), (k, true)⟩)]
theorem es8_loose {k : Str} : ∀ e ∈ es8 k, Loose e := fun e he => by
  have w1 : ("some" : Str) ∈ WD := by decide +kernel
  have w2 : ("all" : Str) ∈ WD := by decide +kernel
  have w3 : ("more" : Str) ∈ WD := by decide +kernel
  rcases List.mem_append.mp he with m | m
  · obtain ⟨i, hi, rfl⟩ := List.mem_map.mp m
    have := List.mem_range.mp hi
    exact ⟨by show (0 : Int) ≤ (i : Int); omega, by show (i : Int) ≤ 5; omega, w1⟩
  · simp only [List.mem_cons, List.not_mem_nil, or_false] at m
    rcases m with rfl | rfl
    · exact ⟨by show (0 : Int) ≤ 0; omega, by show (0 : Int) ≤ 5; omega, w2⟩
    · exact ⟨by show (0 : Int) ≤ 0; omega, by show (0 : Int) ≤ 5; omega, w3⟩
theorem es8_nodup {k : Str} : (es8 k).Nodup := by
  have q1 : ¬ ("some" : Str) = "all" := by decide
  have q2 : ¬ ("some" : Str) = "more" := by decide
  have q3 : ¬ ("all" : Str) = "more" := by decide
  have e : es8 k = [(0, ⟨"some", (k, true), (k, false)⟩), (1, ⟨"some", (k, true), (k, false)⟩), (2, ⟨"some", (k, true), (k, false)⟩), (3, ⟨"some", (k, true), (k, false)⟩), (4, ⟨"some", (k, true), (k, false)⟩), (5, ⟨"some", (k, true), (k, false)⟩), (0, ⟨"all", (k, true), (k, true)⟩), (0, ⟨"more", (k, true), (k, true)⟩)] := rfl
  rw [e]
  simp [q1, q2, q3]
theorem Loose.of {e : En} (E : Entry ks e) : Loose e := ⟨E.lo, E.hi, E.ov.w⟩
/-- the last values -/
theorem lasts {v : Q.D} (hv : v ∈ [Q.D.non, .int 0, .str "a", .tup [], .fro [], .tup [.tup [], .tup []], .tup [.tup [.str "a"]], .tup [.str "a", .tup []]]) : f_is_book [v] h = .ok (.bl false) h := by
  simp only [List.mem_cons, List.not_mem_nil, or_false] at hv
  rcases hv with rfl | rfl | rfl | rfl | rfl | rfl | rfl | rfl
  · exact bk1 rfl rfl
  · exact bk1 rfl rfl
  · exact bk1 rfl rfl
  · exact bk1 rfl rfl
  · exact bk1 rfl rfl
  · exact bk2 (kf1 rfl rfl)
  · exact bk1 rfl rfl
  · exact bk2 (kf1 rfl rfl)
/-- the plain law -/
theorem law_plain {ns : List Int} (hl : ns.length ≤ 63) : ∃ h', f_law [.scr (ns.map .int)] [] = .ok (.bl true) h' := by
  rw [e_law]
  have e0 := r_stream hl
  obtain ⟨r1, o1, e1, r10, r11, O1⟩ := r_next (N := 999999999) (g := []) (m := 30) (ok_start (ns := ns)) (by omega) (by omega)
  obtain ⟨d2, o2, e2, m2, O2⟩ := r_pick (N := 999999998) (g := []) (ds := [.int 1, .int 2, .int 5, .int 29, .int 30, .int 30, .int 31, .int (1 + r1)]) (Rows.fro (by simp) (by simp)) O1
  obtain ⟨many, hm1, hm2, rfl⟩ : ∃ n : Int, 1 ≤ n ∧ n ≤ 31 ∧ d2 = .int n := by
    simp only [List.mem_cons, List.not_mem_nil, or_false] at m2
    rcases m2 with rfl | rfl | rfl | rfl | rfl | rfl | rfl | rfl <;> exact ⟨_, by omega, by omega, rfl⟩
  obtain ⟨ks, o3, e3, hk, ha, hlen, O3⟩ := r_kindsN (N := 900000000) (g := []) hm1 hm2 (O2.mono (by omega))
  have Fw : Few ks := ⟨by omega, by omega⟩
  obtain ⟨r4, o4, e4, r40, r41, O4⟩ := r_next (N := 890000000) (g := []) (m := 150) (O3.mono (by omega)) (by omega) (by omega)
  obtain ⟨d5, o5, e5, m5, O5⟩ := r_pick (N := 880000000) (g := []) (ds := [.int 0, .int 30, .int r4, .int 149, .int 150, .int 150, .int 151]) (Rows.fro (by simp) (by simp)) (O4.mono (by omega))
  obtain ⟨most, hq1, hq2, rfl⟩ : ∃ n : Int, 0 ≤ n ∧ n ≤ 151 ∧ d5 = .int n := by
    simp only [List.mem_cons, List.not_mem_nil, or_false] at m5
    rcases m5 with rfl | rfl | rfl | rfl | rfl | rfl | rfl <;> exact ⟨_, by omega, by omega, rfl⟩
  obtain ⟨es, o6, e6, F, O6⟩ := r_entriesF (N := 870000000) (g := []) Fw hq1 hq2 (O5.mono (by omega))
  have fl := F.len
  have lo : ∀ e ∈ es, Loose e := fun e he => .of (F.ent e he)
  have k1 := r_kept (h := [o6]) hk ha lo F.nd (by omega) (by omega)
  have k2 := r_kept (h := [o6]) (es := es.take 150) hk ha (fun e he => lo e (List.mem_of_mem_take he)) (F.nd.sublist (List.take_sublist _ _)) (by rw [List.length_take]; omega) (by omega)
  have s150 : ∀ h, dSl (.fro (es.map enD)) none (some 150) h = some (.fro ((es.take 150).map enD), h) := fun h => sl_fro_to (es := es) (n := 150) (by omega)
  -- one kind left out
  obtain ⟨d7, o7, e7, m7, O7⟩ := r_pick (N := 860000000) (g := []) (x := ksD ks) (ds := ks.map .str) (Rows.tup (by rw [List.length_map]; omega) (by rw [List.length_map]; omega)) (O6.mono (by omega))
  obtain ⟨k0, hk0, rfl⟩ := List.mem_map.mp m7
  have sq : ∀ h, seqK (ksD ks) h = .ok (ks.map .str, fun _ => True) h := fun _ => rfl
  have lc1 : lcL (fun _ => True) (gSlot 12) (mB (eOp dNe (eVar 12) (eVar 4))) (eVar 12) (wipeA [some (.scr (ns.map .int)), some (.ref 0), some (ksD ks), some (.fro (es.map enD)), some (.str k0), none, none, none, none, none, none, none, none, none] [12]) (ks.map .str) [] [o7] = .ok ((ks.filter fun k => !decide (k = k0)).map .str) [o7] := by
    refine lc_flt .str .str (fun k => !decide (k = k0)) trivial ks (fun k hk => ⟨_, rfl, ?_, fun _ => ?_⟩) (by omega)
    · simp -implicitDefEqProofs [wipeA]
    · simp -implicitDefEqProofs [wipeA]
  obtain ⟨fw, hfw⟩ : ∃ fw, fw = ks.filter fun k => !decide (k = k0) := ⟨_, rfl⟩
  rw [← hfw] at lc1
  have hk' : ∀ k ∈ fw, Kind k := fun k m => hk k (List.mem_filter.mp (hfw ▸ m)).1
  have ha' : Asc fw := hfw ▸ ha.filter _
  have hl' : fw.length ≤ ks.length := hfw ▸ List.length_filter_le _ _
  have tf : ∀ h, gTuple [.fro (fw.map .str)] h = some (ksD fw, h) := fun _ => rfl
  clear hfw
  obtain ⟨d8, o8, e8, m8, O8⟩ := r_pick (N := 850000000) (g := []) (ds := [.int 3, .int 40, .int 150]) (Rows.fro (by simp) (by simp)) (O7.mono (by omega))
  obtain ⟨n8, n80, n81, rfl⟩ : ∃ n : Int, 0 ≤ n ∧ n ≤ 150 ∧ d8 = .int n := by
    simp only [List.mem_cons, List.not_mem_nil, or_false] at m8
    rcases m8 with rfl | rfl | rfl <;> exact ⟨_, by omega, by omega, rfl⟩
  have k3 := r_kept (h := [o8]) (es := es.take n8.toNat) hk' ha' (fun e he => lo e (List.mem_of_mem_take he)) (F.nd.sublist (List.take_sublist _ _)) (by rw [List.length_take]; omega) (by omega)
  have sn8 : ∀ h, dSl (.fro (es.map enD)) none (some n8) h = some (.fro ((es.take n8.toNat).map enD), h) := fun h => sl_fro_to n80
  -- at most thirty kinds
  have s30 : ∀ h, dSl (ksD ks) none (some 30) h = some (ksD (ks.take 30), h) := fun h => sl_ks (n := 30) (by omega)
  have K : Kinds (ks.take 30) := ⟨fun k m => hk k (List.mem_of_mem_take m), ha.sublist (List.take_sublist _ _), by rw [List.length_take]; omega, by rw [List.length_take]; omega⟩
  obtain ⟨kt, hkt⟩ : ∃ kt, kt = ks.take 30 := ⟨_, rfl⟩
  have lc2 : lcL (fun _ => True) (gSlot 11) (tAndM (mB (eFn f_n__law_is_term [] (aCons (eSl dSl (eVar 2) oNil (oSome (eC (.int 30)))) (aCons (eOp dIx (eOp dIx (eVar 11) (eC (.int 1))) (eC (.int 1))) aNil)))) (mB (eFn f_n__law_is_term [] (aCons (eSl dSl (eVar 2) oNil (oSome (eC (.int 30)))) (aCons (eOp dIx (eOp dIx (eVar 11) (eC (.int 1))) (eC (.int 2))) aNil))))) (eVar 11)
      (wipeA [some (.scr (ns.map .int)), some (.ref 0), some (ksD ks), some (.fro (es.map enD)), some (.str k0), some (ksD fw), none, none, none, none, none, none, none, none] [11]) (es.map enD) [] [o8] = .ok ((es.filter fun e => decide (e.2.a.1 ∈ ks.take 30) && decide (e.2.b.1 ∈ ks.take 30)).map enD) [o8] := by
    refine lc_flt enD enD (fun e => decide (e.2.a.1 ∈ ks.take 30) && decide (e.2.b.1 ∈ ks.take 30)) trivial es (fun e he => ⟨_, rfl, ?_, fun _ => ?_⟩) (by omega)
    · rw [← hkt] at s30 ⊢
      by_cases hs : e.2.a.1 ∈ kt <;> simp -implicitDefEqProofs [wipeA, s30, r_is_term, hs]
    · simp -implicitDefEqProofs [wipeA]
  obtain ⟨fs, hfs⟩ : ∃ fs, fs = es.filter fun e => decide (e.2.a.1 ∈ ks.take 30) && decide (e.2.b.1 ∈ ks.take 30) := ⟨_, rfl⟩
  rw [← hfs] at lc2
  have hfe : ∀ e ∈ fs, Entry (ks.take 30) e := fun e m => by
    rw [hfs] at m
    obtain ⟨m1, m2⟩ := List.mem_filter.mp m
    rw [Bool.and_eq_true, decide_eq_true_eq, decide_eq_true_eq] at m2
    have := F.ent e m1
    exact ⟨this.lo, this.hi, this.ov.w, m2.1, m2.2⟩
  clear hfs
  -- four turns
  obtain ⟨x7, x10, o9, e9, O9⟩ := forL_inv (G := fun _ => True) (g := gSlot 7) (body := b_law_1)
    (R := fun r => ∃ (x7 x10 : Option Q.D) (o' : Q.O), r = .nx (σk ns ks es fs k0 fw x7 none none x10) [o'] ∧ Ok 600000000 o')
    (fun ds σ h' => ∃ (x7 x10 : Option Q.D) (o' : Q.O), σ = σk ns ks es fs k0 fw x7 none none x10 ∧ h' = [o'] ∧ Ok (600000000 + 42000 * ds.length) o')
    (fun σ h' ⟨x7, x10, o', a, c, O⟩ => ⟨trivial, x7, x10, o', by rw [a, c], O.mono (by omega)⟩)
    (fun d ds σ h' ⟨x7, x10, o', a, c, O⟩ => by
      subst a c
      rw [List.length_cons] at O
      refine ⟨trivial, σk ns ks es fs k0 fw (some d) none none x10, [o'], rfl, ?_⟩
      obtain ⟨o'', y, eb, O'⟩ := law_turn (g := []) (ns := ns) (es := es) (k0 := k0) (fw := fw) (x7 := some d) (x8 := none) (x9 := none) (x10 := x10) (N := 600000000 + 42000 * ds.length) K hfe (O.mono (by omega))
      rw [eb]
      exact ⟨some d, y, o'', rfl, rfl, O'⟩)
    (rangeD 0 4) (σk ns ks es fs k0 fw none none none none) [o8] ⟨none, none, o8, rfl, rfl, O8.mono (by rw [rangeD_len]; omega)⟩
  obtain ⟨kk, hkk, ek⟩ := ix_ks (ks := ks) (n := 0) (by omega) (by omega)
  have lc3 : lcL (fun _ => True) (gSlot 13) tYesM (eTup (aCons (eVar 13) (aCons (eTup (aCons (eC (.str "some")) (aCons (eVar 8) (aCons (eTup (aCons (eOp dIx (eVar 2) (eC (.int 0))) (aCons (eC (.bl false)) aNil))) aNil)))) aNil)))
      (wipeA [some (.scr (ns.map .int)), some (.ref 0), some (ksD ks), some (.fro (es.map enD)), some (.str k0), some (ksD fw), some (.fro (fs.map enD)), x7, some (.tup [.str kk, .bl true]), none, x10, none, none, none] [13]) (rangeD 0 6) [] [o9] = .ok ((List.range 6).map fun i : Nat => enD (((i : Nat) : Int), (⟨"some", (kk, true), (kk, false)⟩ : Sen))) [o9] := by
    rw [rangeD]
    refine lc_enc (fun i : Nat => .int (0 + (i : Int))) (fun i : Nat => enD (((i : Nat) : Int), (⟨"some", (kk, true), (kk, false)⟩ : Sen))) trivial _ (fun i hi => ⟨_, rfl, ?_⟩) (by simp)
    simp -implicitDefEqProofs [wipeA, ek]
    rfl
  have pl : ∀ h, dPlus (.fro ((List.range 6).map fun i : Nat => enD (((i : Nat) : Int), (⟨"some", (kk, true), (kk, false)⟩ : Sen)))) (.fro [.tup [.int 0, .tup [.str "all", .tup [.str kk, .bl true], .tup [.str kk, .bl true]]], .tup [.int 0, .tup [.str "more", .tup [.str kk, .bl true], .tup [.str kk, .bl true]]]]) h = some (.fro ((es8 kk).map enD), h) := fun h => by
    rw [plus_fro (by simp)]
    rw [es8, List.map_append, List.map_map]
    rfl
  have k4 := r_kept (h := [o9]) (es := es8 kk) K.kind K.asc es8_loose es8_nodup (by simp [es8]) (by have := K.most; omega)
  have k5 := r_kept (h := [o9]) (es := []) K.kind K.asc (fun _ m => nomatch m) List.nodup_nil (by simp) (by have := K.most; omega)
  obtain ⟨v, o10, e10, m10, O10⟩ := r_pick (N := 500000000) (g := []) (ds := [.non, .int 0, .str "a", .tup [], .fro [], .tup [.tup [], .tup []], .tup [.tup [.str "a"]], .tup [.str "a", .tup []]]) (Rows.fro (by simp) (by simp)) (O9.mono (by omega))
  have lb := lasts (h := [o10]) m10
  generalize es.take n8.toNat = eu at *
  generalize es.take 150 = ev at *
  generalize (List.range 6).map (fun i : Nat => enD (((i : Nat) : Int), (⟨"some", (kk, true), (kk, false)⟩ : Sen))) = lr at *
  simp -implicitDefEqProofs only [σk, List.map_nil] at e9 k5
  simp -implicitDefEqProofs [m_law, e0, e1, e2, e3, e4, e5, e6, k1, k2, s150, e7, sq, lc1, tf, e8, sn8, k3, s30, lc2, e9, ek, lc3, pl, k4, k5, e10, lb, r_says]
  exact trim_bl
end P

theorem PySem.Challenge.cw_morethan_k04_whole_books_and_their_limit_holds : PySem.Challenge.rw_morethan_k04_whole_books_and_their_limit.Holds :=
  G.holds_of fun ns hl => P.law_plain hl
