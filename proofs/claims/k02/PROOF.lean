import PyProof.Rows.All
import Wide.All
import OpenK.AllK
import Wide.FinOn
import HandS.ForMost
import HandS.Zip
import HandS.IsInst
import HandS.Wide
import HandS.Defaults
import HandS.Exc
import HandS.WordsExc
import KE.KDictKeyed
import KE.KeyNested
import KE.SortData
import KE.LtData
import HandS.HeadHook1
import HandS.TupAny
import HandS.Style
import HandS.Deep
import KE.DataEq
import KE.DataCmp
import KE.DataMinMax
import HandS.ExcOwn
import HandS.Comp
import HandS.Walk
import HandS.ExcInit
import HandS.ExcInitHot
import HandS.ExcField
import HandS.TryOnly
import KE.KExcIs
import HandS.HotCalls
import HandS.HeadHook2
import HandS.DictComp
import HandS.WideBits
import HandS.Iter
import KE.GoesEnum
import HandS.Words
import HandS.HeadHook3
import HandS.More
import HandS.Gcd
import HandS.Text
import HandS.Head0
import HandS.Head1
import HandS.Head2
import HandS.HeadEnd
import HandS.HeadHook4
import KE.DatumOrd
import PySem.Challenge.RW_morethan_k02_whole_contraries_and_mirror
set_option Elab.async false
set_option linter.all false
set_option maxRecDepth 100000
set_option maxHeartbeats 0
/-! Q1: data as trees, an abstract heap of lists and dicts, and how both lie in the layer's heap. -/
namespace Q
open PySem PySem.Spec PyProof.Rows L2

/-- a value as a tree: fro is a list that nothing changes any more, scr one from outside, ref n the n-th changing object, exn an exception at a that is handled (its dict at d) -/
inductive D where
  | non | bl (b : Bool) | int (i : Int) | str (s : Str) | tup (ds : List D) | fro (ds : List D) | scr (ds : List D) | ref (n : Nat) | exn (a d : Addr) (c : Str) (ns : List Str) (xs : List D)
instance : Inhabited D := ⟨.non⟩
/-- an object that changes: a list; a dict with int and text keys; a dict with tuple keys; an instance of a class -/
inductive O where
  | lst (ds : List D) | dk (kvs : List (Key × D)) | dt (kvs : List (D × D)) | ins (c : Str) (fs : List (Str × D))
abbrev AH := List O
abbrev AS := List (Option D)
/-- an exception of the program's own: its class, its fields -/
structure Ex where
  cls : Str
  ns : List Str
  xs : List D
inductive Res (α : Type) where
  | stuck | ok (a : α) (h : AH) | ex (e : Ex) (h : AH)

/-- the addresses of the changing objects, in their order; those of lists that are just being made, which nobody sees -/
structure Mu where
  l : List Addr
  f : List Addr
instance : Membership Addr Mu := ⟨fun μ a => a ∈ μ.l ∨ a ∈ μ.f⟩
def Mu.push (μ : Mu) (p : Addr) : Mu := ⟨μ.l ++ [p], μ.f⟩
theorem mem_push {μ : Mu} {p a : Addr} : a ∈ μ.push p ↔ a ∈ μ ∨ a = p := by
  show (a ∈ μ.l ++ [p] ∨ a ∈ μ.f) ↔ (a ∈ μ.l ∨ a ∈ μ.f) ∨ a = p
  rw [List.mem_append, List.mem_singleton]
  exact ⟨fun h => h.elim (fun h => h.elim (fun h => .inl (.inl h)) .inr) fun h => .inl (.inr h), fun h => h.elim (fun h => h.elim (fun h => .inl (.inl h)) .inr) fun h => .inl (.inr h)⟩
theorem mem_at {μ : Mu} {n : Nat} {a : Addr} (h : μ.l[n]? = some a) : a ∈ μ := .inl (List.mem_of_getElem? h)
/-- how one state of the layer's heap comes out of another one: the changing objects stay in their places, all else stays -/
structure Stp0 (μ μ' : Mu) (H H' : Hp) : Prop where
  pre : ∀ (n : Nat) (a : Addr), μ.l[n]? = some a → μ'.l[n]? = some a
  new : ∀ a ∈ μ', a ∉ μ → H a = none
  keep : ∀ (a : Addr) (o : HO), H a = some o → a ∉ μ → H' a = some o
structure Stp (μ μ' : Mu) (H H' : Hp) : Prop extends Stp0 μ μ' H H' where
  fz : μ'.f = μ.f
  hid : ∀ (a : Addr) (o : HO), a ∈ μ.f → H a = some o → H' a = some o
theorem Stp.refl {μ : Mu} {H : Hp} : Stp μ μ H H := ⟨⟨fun _ _ h => h, fun a h n => absurd h n, fun _ _ h _ => h⟩, rfl, fun _ _ _ e => e⟩
theorem Stp0.stay {μ μ' : Mu} {H H' : Hp} {a : Addr} {o : HO} (s : Stp0 μ μ' H H') (e : H a = some o) (n : a ∉ μ) : a ∉ μ' := fun h => by
  have z := s.new a h n
  rw [e] at z; cases z
theorem Stp0.trans {μ μ1 μ2 : Mu} {H H1 H2 : Hp} (s : Stp0 μ μ1 H H1) (t : Stp0 μ1 μ2 H1 H2) : Stp0 μ μ2 H H2 where
  pre := fun n a h => t.pre n a (s.pre n a h)
  new := fun a h n => by
    by_cases h1 : a ∈ μ1
    · exact s.new a h1 n
    · have z := t.new a h h1
      cases e : H a with
      | none => rfl
      | some o => rw [s.keep a o e n] at z; cases z
  keep := fun a o e n => t.keep a o (s.keep a o e n) (s.stay e n)
theorem Stp.trans {μ μ1 μ2 : Mu} {H H1 H2 : Hp} (s : Stp μ μ1 H H1) (t : Stp μ1 μ2 H1 H2) : Stp μ μ2 H H2 where
  toStp0 := s.toStp0.trans t.toStp0
  fz := t.fz.trans s.fz
  hid := fun a o m e => t.hid a o (by rw [s.fz]; exact m) (s.hid a o m e)

/-- a tuple, a list that stands still -/
def TupAt (K : PySem.W.Frag) (H : Hp) (μ : Mu) (a : Addr) (xs : List V) : Prop :=
  (Rd H a (.tup xs) ∧ a ∉ μ) ∨ ∃ (o : Obj) (its : Array Value) (n : Nat), K.lookup a = some o ∧ o.cls = .type "tuple" ∧ o.data = .seq its n ∧ its.size ≤ sizeLine ∧ Vals xs its.toList
def LstAt (K : PySem.W.Frag) (H : Hp) (μ : Mu) (a : Addr) (xs : List V) : Prop :=
  (Rd H a (.lst xs) ∧ a ∉ μ) ∨ ∃ (o : Obj) (its : Array Value) (n : Nat), K.lookup a = some o ∧ o.cls = .type "list" ∧ o.dict = none ∧ o.data = .seq its n ∧ its.size ≤ sizeLine ∧ Vals xs its.toList
section
variable {K : PySem.W.Frag} {H H' : Hp} {μ μ' : Mu} {a : Addr} {xs : List V}
theorem TupAt.sq (t : TupAt K H μ a xs) : SqT K H a xs := t.imp (·.1) id
theorem LstAt.sq (t : LstAt K H μ a xs) : SqL K H a xs := t.imp (·.1) id
theorem Rd.stp {u : HO} (s : Stp0 μ μ' H H') (r : Rd H a u) (n : a ∉ μ) : Rd H' a u ∧ a ∉ μ' := by
  rcases r with e | ⟨o, e⟩
  · exact ⟨.inl (s.keep a _ e n), s.stay e n⟩
  · exact ⟨.inr ⟨o, s.keep a _ e n⟩, s.stay e n⟩
theorem TupAt.stp0 (s : Stp0 μ μ' H H') (t : TupAt K H μ a xs) : TupAt K H' μ' a xs := t.imp (fun z => Rd.stp s z.1 z.2) id
theorem LstAt.stp0 (s : Stp0 μ μ' H H') (t : LstAt K H μ a xs) : LstAt K H' μ' a xs := t.imp (fun z => Rd.stp s z.1 z.2) id
theorem TupAt.stp (s : Stp μ μ' H H') (t : TupAt K H μ a xs) : TupAt K H' μ' a xs := t.stp0 s.toStp0
theorem LstAt.stp (s : Stp μ μ' H H') (t : LstAt K H μ a xs) : LstAt K H' μ' a xs := t.stp0 s.toStp0
end

mutual
/-- a tree lies at a value -/
inductive RD (K : PySem.W.Frag) (H : Hp) (μ : Mu) : D → V → Prop
  | non : RD K H μ .non .non
  | bl (b : Bool) : RD K H μ (.bl b) (.bl b)
  | int (i : Int) : RD K H μ (.int i) (.int i)
  | str (s : Str) : RD K H μ (.str s) (.str s)
  | tup {ds : List D} {a : Addr} {xs : List V} : TupAt K H μ a xs → RDs K H μ ds xs → RD K H μ (.tup ds) (.ref a)
  | fro {ds : List D} {a : Addr} {xs : List V} : H a = some (.lst xs) → a ∉ μ → RDs K H μ ds xs → RD K H μ (.fro ds) (.ref a)
  | scr {ds : List D} {a : Addr} {xs : List V} : LstAt K H μ a xs → RDs K H μ ds xs → RD K H μ (.scr ds) (.ref a)
  | ref {n : Nat} {a : Addr} : μ.l[n]? = some a → RD K H μ (.ref n) (.ref a)
  | exn {a d : Addr} {c : Str} {ns : List Str} {xs : List D} {vs : List V} : H d = some (.xd (ns.zip vs)) → d ∉ μ → RDs K H μ xs vs → RD K H μ (.exn a d c ns xs) (.ref a)
inductive RDs (K : PySem.W.Frag) (H : Hp) (μ : Mu) : List D → List V → Prop
  | nil : RDs K H μ [] []
  | cons {d : D} {v : V} {ds : List D} {vs : List V} : RD K H μ d v → RDs K H μ ds vs → RDs K H μ (d :: ds) (v :: vs)
end
section
variable {K : PySem.W.Frag} {H H' : Hp} {μ μ' : Mu}
mutual
theorem RD.stp0 (s : Stp0 μ μ' H H') : ∀ {d : D} {v : V}, RD K H μ d v → RD K H' μ' d v
  | .non, _, h => by cases h; exact .non
  | .bl b, _, h => by cases h; exact .bl b
  | .int i, _, h => by cases h; exact .int i
  | .str x, _, h => by cases h; exact .str x
  | .tup ds, _, h => by cases h with | tup t r => exact .tup (t.stp0 s) (RDs.stp0 s r)
  | .fro ds, _, h => by cases h with | fro e n r => exact .fro (s.keep _ _ e n) (s.stay e n) (RDs.stp0 s r)
  | .scr ds, _, h => by cases h with | scr t r => exact .scr (t.stp0 s) (RDs.stp0 s r)
  | .ref n, _, h => by cases h with | ref e => exact .ref (s.pre _ _ e)
  | .exn a d c ns xs, _, h => by cases h with | exn e n r => exact .exn (s.keep _ _ e n) (s.stay e n) (RDs.stp0 s r)
theorem RDs.stp0 (s : Stp0 μ μ' H H') : ∀ {ds : List D} {vs : List V}, RDs K H μ ds vs → RDs K H' μ' ds vs
  | [], _, h => by cases h; exact .nil
  | d :: ds, _, h => by cases h with | cons h1 h2 => exact .cons (RD.stp0 s h1) (RDs.stp0 s h2)
end
theorem RD.stp (s : Stp μ μ' H H') {d : D} {v : V} (r : RD K H μ d v) : RD K H' μ' d v := r.stp0 s.toStp0
theorem RDs.stp (s : Stp μ μ' H H') {ds : List D} {vs : List V} (r : RDs K H μ ds vs) : RDs K H' μ' ds vs := r.stp0 s.toStp0
theorem RDs.length : ∀ {ds : List D} {vs : List V}, RDs K H μ ds vs → vs.length = ds.length
  | [], _, h => by cases h; rfl
  | _ :: ds, _, h => by cases h with | cons _ h2 => simp [RDs.length h2]
theorem RDs.get : ∀ {ds : List D} {vs : List V} {i : Nat} {d : D}, RDs K H μ ds vs → ds[i]? = some d → ∃ v, vs[i]? = some v ∧ RD K H μ d v
  | [], _, _, _, _, e => by simp at e
  | _ :: _, _, 0, _, h, e => by
    cases h with
    | cons h1 _ => simp at e; subst e; exact ⟨_, rfl, h1⟩
  | _ :: ds, _, i + 1, _, h, e => by
    cases h with
    | cons _ h2 =>
      obtain ⟨v, e1, r⟩ := RDs.get (i := i) h2 (by simpa using e)
      exact ⟨v, by simpa using e1, r⟩
theorem RDs.get' : ∀ {ds : List D} {vs : List V} {i : Nat} {v : V}, RDs K H μ ds vs → vs[i]? = some v → ∃ d, ds[i]? = some d ∧ RD K H μ d v
  | [], _, _, _, h, e => by cases h; simp at e
  | d :: _, _, 0, _, h, e => by
    cases h with
    | cons h1 _ => simp at e; subst e; exact ⟨d, rfl, h1⟩
  | _ :: ds, _, i + 1, _, h, e => by
    cases h with
    | cons _ h2 =>
      obtain ⟨v, e1, r⟩ := RDs.get' (i := i) h2 (by simpa using e)
      exact ⟨v, by simpa using e1, r⟩
theorem RDs.append : ∀ {ds es : List D} {vs ws : List V}, RDs K H μ ds vs → RDs K H μ es ws → RDs K H μ (ds ++ es) (vs ++ ws)
  | [], _, _, _, h, r => by cases h; exact r
  | _ :: _, _, _, _, h, r => by cases h with | cons h1 h2 => exact .cons h1 (RDs.append h2 r)
theorem RDs.take : ∀ {ds : List D} {vs : List V} (n : Nat), RDs K H μ ds vs → RDs K H μ (ds.take n) (vs.take n)
  | _, _, 0, _ => .nil
  | [], _, _ + 1, h => by cases h; exact .nil
  | _ :: _, _, n + 1, h => by cases h with | cons h1 h2 => exact .cons h1 (RDs.take n h2)
theorem RDs.drop : ∀ {ds : List D} {vs : List V} (n : Nat), RDs K H μ ds vs → RDs K H μ (ds.drop n) (vs.drop n)
  | _, _, 0, h => h
  | [], _, _ + 1, h => by cases h; exact .nil
  | _ :: _, _, n + 1, h => by cases h with | cons h1 h2 => exact RDs.drop n h2
theorem RDs.set {d : D} {v : V} (r : RD K H μ d v) : ∀ {ds : List D} {vs : List V} (n : Nat), RDs K H μ ds vs → RDs K H μ (ds.set n d) (vs.set n v)
  | [], _, _, h => by cases h; exact .nil
  | _ :: _, _, 0, h => by cases h with | cons h1 h2 => exact .cons r h2
  | _ :: _, _, n + 1, h => by cases h with | cons h1 h2 => exact .cons h1 (RDs.set r n h2)
theorem RDs.reverse : ∀ {ds : List D} {vs : List V}, RDs K H μ ds vs → RDs K H μ ds.reverse vs.reverse
  | [], _, h => by cases h; exact .nil
  | _ :: _, _, h => by
    cases h with
    | cons h1 h2 =>
      rw [List.reverse_cons, List.reverse_cons]
      exact (RDs.reverse h2).append (.cons h1 .nil)
theorem RDs.dropLast {ds : List D} {vs : List V} (h : RDs K H μ ds vs) : RDs K H μ ds.dropLast vs.dropLast := by
  rw [List.dropLast_eq_take, List.dropLast_eq_take, h.length]
  exact h.take _
theorem RDs.eraseIdx : ∀ {ds : List D} {vs : List V} (n : Nat), RDs K H μ ds vs → RDs K H μ (ds.eraseIdx n) (vs.eraseIdx n)
  | [], _, _, h => by cases h; exact .nil
  | _ :: _, _, 0, h => by cases h with | cons h1 h2 => exact h2
  | _ :: _, _, n + 1, h => by cases h with | cons h1 h2 => exact .cons h1 (RDs.eraseIdx n h2)
theorem RDs.one {d : D} {vs : List V} (h : RDs K H μ [d] vs) : ∃ v, vs = [v] ∧ RD K H μ d v := by
  cases h with | cons h1 h2 => cases h2; exact ⟨_, rfl, h1⟩
theorem RDs.two {d e : D} {vs : List V} (h : RDs K H μ [d, e] vs) : ∃ v w, vs = [v, w] ∧ RD K H μ d v ∧ RD K H μ e w := by
  cases h with | cons h1 h2 => obtain ⟨w, rfl, h3⟩ := h2.one; exact ⟨_, w, rfl, h1, h3⟩
theorem RDs.ints : ∀ {ns : List Int} {vs : List V}, RDs K H μ (ns.map D.int) vs → vs = ns.map V.int
  | [], _, h => by cases h; rfl
  | n :: ns, _, h => by
    cases h with
    | cons h1 h2 => cases h1; rw [RDs.ints h2]; rfl
theorem RDs.of_ints : ∀ (ns : List Int), RDs K H μ (ns.map D.int) (ns.map V.int)
  | [] => .nil
  | n :: ns => .cons (.int n) (RDs.of_ints ns)
theorem RDs.bls : ∀ {ns : List Bool} {vs : List V}, RDs K H μ (ns.map D.bl) vs → vs = ns.map V.bl
  | [], _, h => by cases h; rfl
  | n :: ns, _, h => by
    cases h with
    | cons h1 h2 => cases h1; rw [RDs.bls h2]; rfl
theorem RDs.strs : ∀ {ns : List Str} {vs : List V}, RDs K H μ (ns.map D.str) vs → vs = ns.map V.str
  | [], _, h => by cases h; rfl
  | n :: ns, _, h => by
    cases h with
    | cons h1 h2 => cases h1; rw [RDs.strs h2]; rfl
theorem RDs.of_strs : ∀ (ns : List Str), RDs K H μ (ns.map D.str) (ns.map V.str)
  | [] => .nil
  | n :: ns => .cons (.str n) (RDs.of_strs ns)
end

/-! ### keys -/
mutual
/-- a tree as a key of a dict -/
def nk : D → Option NestedKey
  | .non => some .none
  | .bl b => some (.num (if b = true then 1 else 0))
  | .int i => some (.num i)
  | .str s => some (.text s)
  | .tup ds => (nks ds).map .tup
  | .fro _ => none
  | .scr _ => none
  | .ref _ => none
  | .exn _ _ _ _ _ => none
def nks : List D → Option (List NestedKey)
  | [] => some []
  | d :: ds => match nk d, nks ds with
    | some k, some ks => some (k :: ks)
    | _, _ => none
end
section
variable {X : Cx} {pins : List (Addr × Obj)} {σ : L2.St} {H : Hp} {s : Shared} {μ : Mu}
mutual
theorem RD.nested (I : Inv X pins σ H s) : ∀ (d : D) (v : V) (u : Value) (k : NestedKey), RD X.K H μ d v → RelV v u → nk d = some k → NestedIs s.heap k u
  | .non, _, _, _, h, r, e => by cases h; cases r; cases e; exact .none
  | .bl b, _, _, _, h, r, e => by cases h; cases r; cases e; exact .bool rfl
  | .int i, _, _, _, h, r, e => by cases h; obtain ⟨t, rfl⟩ := r; cases e; exact .int i t
  | .str x, _, _, _, h, r, e => by cases h; obtain ⟨t, rfl⟩ := r; cases e; exact .text x t
  | .tup ds, _, _, _, h, r, e => by
    cases h with
    | tup t rr =>
      cases r
      obtain ⟨its, rv, ⟨o, ho, hc, n, hd⟩, _⟩ := I.tuple t.sq
      rw [nk] at e
      obtain ⟨ks, hks, rfl⟩ := Option.map_eq_some_iff.mp e
      exact .tup ho hc hd (by simpa using RDs.nested I ds _ _ ks rr rv hks)
  | .fro _, _, _, _, _, _, e => by cases e
  | .scr _, _, _, _, _, _, e => by cases e
  | .ref _, _, _, _, _, _, e => by cases e
  | .exn _ _ _ _ _, _, _, _, _, _, e => by cases e
theorem RDs.nested (I : Inv X pins σ H s) : ∀ (ds : List D) (vs : List V) (us : List Value) (ks : List NestedKey), RDs X.K H μ ds vs → Vals vs us → nks ds = some ks → NestedAll s.heap ks us
  | [], _, _, _, h, r, e => by cases h; cases r; cases e; exact .nil
  | d :: ds, _, _, _, h, r, e => by
    cases h with
    | cons h1 h2 =>
      cases r with
      | cons r1 r2 =>
        rw [nks] at e
        split at e
        · rename_i k ks e1 e2
          cases e
          exact .cons (RD.nested I d _ _ k h1 r1 e1) (RDs.nested I ds _ _ ks h2 r2 e2)
        · cases e
end
end
end Q

/-! Q2: the abstract heap in the layer's heap; readings of evaluators. -/
namespace Q
open PySem PySem.Spec PyProof.Rows L2

/-- the dict at a, by its entries -/
def dxO (a : Addr) (es : List DictEntry) : HO := .ext fun h => ∃ o ep, h.get? a = some o ∧ o.ExactDict ∧ o.data = .dict es.toArray ep
def RKV (K : PySem.W.Frag) (H : Hp) (μ : Mu) : List (Key × D) → List (Key × V) → Prop := Paired fun p q => p.1 = q.1 ∧ RD K H μ p.2 q.2
structure RT (K : PySem.W.Frag) (H : Hp) (μ : Mu) (p : D × D) (x : NestedKey × Addr × Value) : Prop where
  key : nk p.1 = some x.1
  dep : x.1.depth ≤ 8
  rk : RD K H μ p.1 (.ref x.2.1)
  val : ∃ v, RelV v x.2.2 ∧ RD K H μ p.2 v
/-- fields -/
def FldR (K : PySem.W.Frag) (H : Hp) (μ : Mu) : List (Str × D) → List (Str × V) → Prop := Paired fun p q => p.1 = q.1 ∧ RD K H μ p.2 q.2
inductive RelO (P : Program) (w : World) (K : PySem.W.Frag) (H : Hp) (μ : Mu) : O → Addr → Prop
  | lst {ds : List D} {a : Addr} {xs : List V} : H a = some (.lst xs) → RDs K H μ ds xs → RelO P w K H μ (.lst ds) a
  | dk {kvs : List (Key × D)} {a : Addr} {qs : List (Key × V)} : H a = some (.dK qs) → RKV K H μ kvs qs → RelO P w K H μ (.dk kvs) a
  | dt {kvs : List (D × D)} {a : Addr} {xs : List (NestedKey × Addr × Value)} : H a = some (dxO a (xs.map (entryOfKey (nestedKind P w)))) → (a == sysModules) = false → kvs.length ≤ sizeLine → Paired (RT K H μ) kvs xs → (xs.map (·.1)).Nodup → RelO P w K H μ (.dt kvs) a
  | ins {c : Str} {fs : List (Str × D)} {a dx : Addr} {vs : List (Str × V)} : H a = some (.ins (He.ga K c) dx vs) → H dx = some (.own a) → dx ∉ μ → FldR K H μ fs vs → RelO P w K H μ (.ins c fs) a
structure RelH (P : Program) (w : World) (K : PySem.W.Frag) (H : Hp) (μ : Mu) (h : AH) : Prop where
  len : μ.l.length = h.length
  nd : μ.l.Nodup
  dj : ∀ a ∈ μ.l, a ∉ μ.f
  fo : ∀ a ∈ μ.f, ∃ u, H a = some u
  obj : ∀ (n : Nat) (o : O) (a : Addr), h[n]? = some o → μ.l[n]? = some a → RelO P w K H μ o a

section
variable {P : Program} {w : World} {K : PySem.W.Frag} {H H' : Hp} {μ μ' : Mu} {h h' : AH} {a p : Addr} {o : O} {n : Nat}
theorem RelO.there (r : RelO P w K H μ o a) : ∃ u, H a = some u := by
  cases r with
  | lst e _ => exact ⟨_, e⟩
  | dk e _ => exact ⟨_, e⟩
  | dt e _ _ _ _ => exact ⟨_, e⟩
  | ins e _ _ _ => exact ⟨_, e⟩
theorem RelO.mut (r : RelO P w K H μ o a) : Mut (H a) := by
  cases r with
  | lst e _ => rw [e]; trivial
  | dk e _ => rw [e]; trivial
  | dt e _ _ _ _ => rw [e]; trivial
  | ins e _ _ _ => rw [e]; trivial
theorem paired_mono {α β : Type} {F G : α → β → Prop} (f : ∀ a b, F a b → G a b) : ∀ {l₁ : List α} {l₂ : List β}, Paired F l₁ l₂ → Paired G l₁ l₂
  | _, _, .nil => .nil
  | _, _, .cons r t => .cons (f _ _ r) (paired_mono f t)
theorem RT.stp0 {p : D × D} {x : NestedKey × Addr × Value} (s : Stp0 μ μ' H H') (r : RT K H μ p x) : RT K H' μ' p x :=
  ⟨r.key, r.dep, r.rk.stp0 s, let ⟨v, a, b⟩ := r.val; ⟨v, a, b.stp0 s⟩⟩
theorem RT.stp {p : D × D} {x : NestedKey × Addr × Value} (s : Stp μ μ' H H') (r : RT K H μ p x) : RT K H' μ' p x := r.stp0 s.toStp0
theorem RKV.stp0 {kvs : List (Key × D)} {qs : List (Key × V)} (s : Stp0 μ μ' H H') (r : RKV K H μ kvs qs) : RKV K H' μ' kvs qs := paired_mono (fun _ _ z => ⟨z.1, z.2.stp0 s⟩) r
theorem RKV.stp {kvs : List (Key × D)} {qs : List (Key × V)} (s : Stp μ μ' H H') (r : RKV K H μ kvs qs) : RKV K H' μ' kvs qs := RKV.stp0 s.toStp0 r
theorem FldR.stp0 {fs : List (Str × D)} {vs : List (Str × V)} (s : Stp0 μ μ' H H') (r : FldR K H μ fs vs) : FldR K H' μ' fs vs := paired_mono (fun _ _ z => ⟨z.1, z.2.stp0 s⟩) r
theorem RelO.stp0 (s : Stp0 μ μ' H H') (e : H' a = H a) (r : RelO P w K H μ o a) : RelO P w K H' μ' o a := by
  cases r with
  | lst e1 r => exact .lst (e.trans e1) (r.stp0 s)
  | dk e1 r => exact .dk (e.trans e1) (r.stp0 s)
  | dt e1 z l r nd => exact .dt (e.trans e1) z l (paired_mono (fun _ _ q => q.stp0 s) r) nd
  | ins e1 e2 n r => exact .ins (e.trans e1) (s.keep _ _ e2 n) (s.stay e2 n) (r.stp0 s)
theorem RelO.stp (s : Stp μ μ' H H') (e : H' a = H a) (r : RelO P w K H μ o a) : RelO P w K H' μ' o a := r.stp0 s.toStp0 e
theorem RelH.at (r : RelH P w K H μ h) (e : μ.l[n]? = some a) : ∃ o, h[n]? = some o ∧ RelO P w K H μ o a := by
  have hn : n < h.length := by rw [← r.len]; exact (List.getElem?_eq_some_iff.mp e).1
  exact ⟨h[n], List.getElem?_eq_getElem hn, r.obj n _ a (List.getElem?_eq_getElem hn) e⟩
theorem RelH.addr (r : RelH P w K H μ h) (e : h[n]? = some o) : ∃ a, μ.l[n]? = some a ∧ RelO P w K H μ o a := by
  have hn : n < μ.l.length := by rw [r.len]; exact (List.getElem?_eq_some_iff.mp e).1
  exact ⟨μ.l[n], List.getElem?_eq_getElem hn, r.obj n o _ e (List.getElem?_eq_getElem hn)⟩
theorem RelH.mem (r : RelH P w K H μ h) (m : a ∈ μ) : ∃ u, H a = some u := by
  rcases m with m | m
  · obtain ⟨n, e⟩ := List.mem_iff_getElem?.mp m
    obtain ⟨o, _, q⟩ := r.at e
    exact q.there
  · exact r.fo a m
theorem RelH.fresh (r : RelH P w K H μ h) (e : H p = none) : p ∉ μ := fun m => by
  obtain ⟨u, q⟩ := r.mem m
  rw [e] at q; cases q
/-- the changing objects stand as they stood -/
theorem RelH.stp (s : Stp μ μ H H') (same : ∀ a ∈ μ.l, H' a = H a) (r : RelH P w K H μ h) : RelH P w K H' μ h :=
  ⟨r.len, r.nd, r.dj, fun a m => let ⟨u, e⟩ := r.fo a m; ⟨u, s.hid a u m e⟩, fun n o a e1 e2 => (r.obj n o a e1 e2).stp s (same a (List.mem_of_getElem? e2))⟩
/-- something new that does not change -/
theorem Stp.laid {u : HO} (e : H p = none) : Stp μ μ H (upd H p u) :=
  ⟨⟨fun _ _ z => z, fun a m n => absurd m n, fun a o q _ => by rw [upd_ne (ne_of_none q e)]; exact q⟩, rfl, fun a o _ q => by rw [upd_ne (ne_of_none q e)]; exact q⟩
theorem RelH.laid {u : HO} (e : H p = none) (r : RelH P w K H μ h) : RelH P w K (upd H p u) μ h :=
  r.stp (Stp.laid e) fun a m => upd_ne fun z => r.fresh e (z ▸ .inl m)
theorem RD.tup_laid {ds : List D} {xs : List V} (r : RelH P w K H μ h) (e : H p = none) (q : RDs K H μ ds xs) : RD K (upd H p (.tup xs)) μ (.tup ds) (.ref p) :=
  .tup (.inl ⟨.inl upd_same, r.fresh e⟩) (q.stp (Stp.laid e))
theorem RD.fro_laid {ds : List D} {xs : List V} (r : RelH P w K H μ h) (e : H p = none) (q : RDs K H μ ds xs) : RD K (upd H p (.lst xs)) μ (.fro ds) (.ref p) :=
  .fro upd_same (r.fresh e) (q.stp (Stp.laid e))
theorem get_append_new {α : Type} {l : List α} {x : α} : (l ++ [x])[l.length]? = some x := by simp
/-- a changing object more -/
theorem Stp.more {u : HO} (e : H p = none) : Stp μ (μ.push p) H (upd H p u) where
  pre := fun n a z => by
    have hn := (List.getElem?_eq_some_iff.mp z).1
    show (μ.l ++ [p])[n]? = some a
    rw [List.getElem?_append_left hn]; exact z
  new := fun a m n => by
    rcases mem_push.mp m with q | q
    · exact absurd q n
    · rw [q]; exact e
  keep := fun a o q _ => by rw [upd_ne (ne_of_none q e)]; exact q
  fz := rfl
  hid := fun a o _ q => by rw [upd_ne (ne_of_none q e)]; exact q
theorem RelH.more {u : HO} (e : H p = none) (r : RelH P w K H μ h) (q : RelO P w K (upd H p u) (μ.push p) o p) : RelH P w K (upd H p u) (μ.push p) (h ++ [o]) where
  len := by simp [Mu.push, r.len]
  nd := by
    show (μ.l ++ [p]).Nodup
    rw [List.nodup_append]
    refine ⟨r.nd, by simp, fun a m b mb => ?_⟩
    rw [List.mem_singleton.mp mb]
    rintro rfl
    exact r.fresh e (.inl m)
  dj := fun a m => by
    rcases List.mem_append.mp (show a ∈ μ.l ++ [p] from m) with m | m
    · exact r.dj a m
    · rw [List.mem_singleton.mp m]
      exact fun z => r.fresh e (.inr z)
  fo := fun a m => let ⟨u, q⟩ := r.fo a m; ⟨u, by rw [upd_ne (ne_of_none q e)]; exact q⟩
  obj := fun n o' a e1 e2 => by
    replace e2 : (μ.l ++ [p])[n]? = some a := e2
    by_cases hn : n < μ.l.length
    · rw [List.getElem?_append_left (by rw [← r.len]; exact hn)] at e1
      rw [List.getElem?_append_left hn] at e2
      refine (r.obj n o' a e1 e2).stp (Stp.more e) (upd_ne ?_)
      rintro rfl
      exact r.fresh e (.inl (List.mem_of_getElem? e2))
    · have hl : n < (h ++ [o]).length := (List.getElem?_eq_some_iff.mp e1).1
      have hl' : n < h.length + 1 := by simpa using hl
      have en : n = μ.l.length := by have := r.len; omega
      subst en
      rw [get_append_new] at e2
      cases e2
      rw [r.len, get_append_new] at e1
      cases e1
      exact q
theorem RD.last {p : Addr} : RD K H (μ.push p) (.ref μ.l.length) (.ref p) := .ref (by simp [Mu.push])
/-- a changing object written -/
theorem Stp.wrote {u : HO} (r : RelH P w K H μ h) (e : μ.l[n]? = some a) : Stp μ μ H (upd H a u) :=
  ⟨⟨fun _ _ z => z, fun a m n => absurd m n, fun b o q nb => by
    have hne : b ≠ a := fun z => nb (by rw [z]; exact mem_at e)
    rw [upd_ne hne]; exact q⟩, rfl, fun b o m q => by
    have hne : b ≠ a := fun z => r.dj a (List.mem_of_getElem? e) (z ▸ m)
    rw [upd_ne hne]; exact q⟩
theorem RelH.wrote {u : HO} (e : μ.l[n]? = some a) (r : RelH P w K H μ h) (q : RelO P w K (upd H a u) μ o a) : RelH P w K (upd H a u) μ (h.set n o) where
  len := by simp [r.len]
  nd := r.nd
  dj := r.dj
  fo := fun b m => let ⟨v, q⟩ := r.fo b m; ⟨v, (Stp.wrote r e).hid b v m q⟩
  obj := fun k o' b e1 e2 => by
    by_cases hk : n = k
    · subst hk
      rw [e] at e2; cases e2
      have hn : n < h.length := by rw [← r.len]; exact (List.getElem?_eq_some_iff.mp e).1
      rw [List.getElem?_set_self hn] at e1
      cases e1
      exact q
    · rw [List.getElem?_set_ne hk] at e1
      refine (r.obj k o' b e1 e2).stp (Stp.wrote r e) (upd_ne ?_)
      rintro rfl
      obtain ⟨h1, g1⟩ := List.getElem?_eq_some_iff.mp e
      obtain ⟨h2, g2⟩ := List.getElem?_eq_some_iff.mp e2
      exact hk ((List.getElem_inj r.nd).mp (g1.trans g2.symm))
/-! ### a list that is being made -/
def Mu.hide (μ : Mu) (p : Addr) : Mu := ⟨μ.l, p :: μ.f⟩
theorem Stp0.hide {u : HO} (e : H p = none) : Stp0 μ (μ.hide p) H (upd H p u) where
  pre := fun _ _ z => z
  new := fun a m n => by
    rcases m with m | m
    · exact absurd (.inl m) n
    · rcases List.mem_cons.mp m with rfl | m
      · exact e
      · exact absurd (.inr m) n
  keep := fun a o q _ => by rw [upd_ne (ne_of_none q e)]; exact q
theorem RelH.hide {u : HO} (e : H p = none) (r : RelH P w K H μ h) : RelH P w K (upd H p u) (μ.hide p) h where
  len := r.len
  nd := r.nd
  dj := fun a m => fun z => by
    rcases List.mem_cons.mp z with rfl | z
    · exact r.fresh e (.inl m)
    · exact r.dj a m z
  fo := fun a m => by
    rcases List.mem_cons.mp m with rfl | m
    · exact ⟨u, upd_same⟩
    · obtain ⟨v, q⟩ := r.fo a m
      exact ⟨v, by rw [upd_ne (ne_of_none q e)]; exact q⟩
  obj := fun n o a e1 e2 => (r.obj n o a e1 e2).stp0 (Stp0.hide e) (upd_ne fun z => r.fresh e (z ▸ mem_at e2))
/-- the hidden list is written -/
theorem Stp0.poke {u : HO} (m : p ∈ μ.f) : Stp0 μ μ H (upd H p u) :=
  ⟨fun _ _ z => z, fun a m n => absurd m n, fun a o q n => by
    have hne : a ≠ p := fun z => n (by rw [z]; exact .inr m)
    rw [upd_ne hne]; exact q⟩
theorem RelH.poke {u : HO} (m : p ∈ μ.f) (r : RelH P w K H μ h) : RelH P w K (upd H p u) μ h where
  len := r.len
  nd := r.nd
  dj := r.dj
  fo := fun a ma => by
    by_cases ha : a = p
    · rw [ha]; exact ⟨u, upd_same⟩
    · rw [upd_ne ha]; exact r.fo a ma
  obj := fun n o a e1 e2 => (r.obj n o a e1 e2).stp0 (Stp0.poke m) (upd_ne fun z => r.dj a (List.mem_of_getElem? e2) (z ▸ m))
/-- seen again -/
theorem Stp0.show {f : List Addr} (hf : ∀ a ∈ f, a ∈ μ.f) : Stp0 μ ⟨μ.l, f⟩ H H :=
  ⟨fun _ _ z => z, fun a m n => (n (m.elim .inl fun z => .inr (hf a z))).elim, fun _ _ q _ => q⟩
theorem RelH.show {f : List Addr} (hf : ∀ a ∈ f, a ∈ μ.f) (r : RelH P w K H μ h) : RelH P w K H ⟨μ.l, f⟩ h where
  len := r.len
  nd := r.nd
  dj := fun a m z => r.dj a m (hf a z)
  fo := fun a m => r.fo a (hf a m)
  obj := fun n o a e1 e2 => (r.obj n o a e1 e2).stp0 (Stp0.show hf) rfl
/-- a step in the midst of the making, as one from its beginning -/
theorem Stp.within {H2 : Hp} {μ2 : Mu} {f : List Addr} (s : Stp μ ⟨μ'.l, μ.f⟩ H H') (hp : H p = none) (hf : μ'.f = p :: μ.f) (t : Stp μ' μ2 H' H2) (dj : ∀ a ∈ μ2.l, a ∉ μ2.f) : Stp μ ⟨μ2.l, μ.f⟩ H H2 where
  pre := fun n a h => t.pre n a (s.pre n a h)
  new := fun a m n => by
    have hl : a ∈ μ2.l := m.elim id fun z => absurd (.inr z) n
    by_cases h1 : a ∈ μ'.l
    · exact s.new a (.inl h1) n
    · have h2 : a ∉ μ' := fun z => z.elim h1 fun z => dj a hl (by rw [t.fz]; exact z)
      have z := t.new a (.inl hl) h2
      cases e : H a with
      | none => rfl
      | some o => rw [s.keep a o e n] at z; cases z
  keep := fun a o e n => by
    have h1 := s.keep a o e n
    have h2 := s.toStp0.stay e n
    refine t.keep a o h1 fun z => ?_
    rcases z with z | z
    · exact h2 (.inl z)
    · rw [hf] at z
      rcases List.mem_cons.mp z with rfl | z
      · rw [hp] at e; cases e
      · exact h2 (.inr z)
  fz := rfl
  hid := fun a o m e => t.hid a o (by rw [hf]; exact List.mem_cons_of_mem _ m) (s.hid a o m e)
end

/-! ### slots -/
def RelS (K : PySem.W.Frag) (H : Hp) (μ : Mu) (σ : AS) (τ : L2.St) : Prop := σ.length = τ.length ∧ ∀ (i : Nat) (d : D), σ[i]? = some (some d) → ∃ v, τ[i]? = some (some v) ∧ RD K H μ d v
section
variable {K : PySem.W.Frag} {H H' : Hp} {μ μ' : Mu} {σ : AS} {τ : L2.St}
theorem RelS.stp (s : Stp μ μ' H H') (r : RelS K H μ σ τ) : RelS K H' μ' σ τ := ⟨r.1, fun i d e => let ⟨v, a, b⟩ := r.2 i d e; ⟨v, a, b.stp s⟩⟩
theorem RelS.set {d : D} {v : V} (r : RelS K H μ σ τ) (q : RD K H μ d v) (i : Nat) : RelS K H μ (σ.set i (some d)) (τ.set i (some v)) := by
  refine ⟨by simp [r.1], fun j e h => ?_⟩
  by_cases hj : i = j
  · subst hj
    have hi : i < σ.length := by
      have := (List.getElem?_eq_some_iff.mp h).1
      simpa using this
    rw [List.getElem?_set_self hi] at h
    cases h
    exact ⟨v, List.getElem?_set_self (by rw [← r.1]; exact hi), q⟩
  · rw [List.getElem?_set_ne hj] at h
    rw [List.getElem?_set_ne hj]
    exact r.2 j e h
/-- slots forgotten -/
def wipeA (σ : AS) : List Nat → AS
  | [] => σ
  | v :: vs => (wipeA σ vs).set v none
theorem RelS.wipe (r : RelS K H μ σ τ) : ∀ vs : List Nat, RelS K H μ (wipeA σ vs) (L2.wipe τ vs)
  | [] => r
  | v :: vs => by
    have ih := RelS.wipe r vs
    refine ⟨by simp [wipeA, L2.wipe, ih.1], fun j e h => ?_⟩
    simp only [wipeA, L2.wipe] at h ⊢
    by_cases hj : v = j
    · subst hj
      have hi : v < (wipeA σ vs).length := by
        have := (List.getElem?_eq_some_iff.mp h).1
        simpa using this
      rw [List.getElem?_set_self hi] at h
      cases h
    · rw [List.getElem?_set_ne hj] at h
      rw [List.getElem?_set_ne hj]
      exact ih.2 j e h
end

/-! ### an exception of the program's own -/
def RX (mg : Str → Option Value) (K : PySem.W.Frag) (H : Hp) (μ : Mu) (e : Ex) (cls : Value) (dd : Option Addr) : Prop :=
  ∃ (C d : Addr) (vs : List V), mg e.cls = some (.ref C) ∧ cls = .ref C ∧ dd = some d ∧ d ∉ μ ∧ H d = some (.xd (e.ns.zip vs)) ∧ RDs K H μ e.xs vs

/-! ### readings -/
abbrev M := AS → AH → Res D
abbrev MB := AS → AH → Res Bool
abbrev ML := AS → AH → Res (List D)
/-- what follows an evaluation: ok, or an exception -/
def Post (X : Cx) (W : WX) (τ : L2.St) (H : Hp) (μ : Mu) {α β : Type} (Rel : Hp → Mu → α → β → Prop) (Q : β → Hp → Prop) : Res α → Prop
  | .stuck => False
  | .ok d h' => ∀ (v : β) (H' : Hp) (μ' : Mu), Stp μ μ' H H' → RelH X.prog X.w X.K H' μ' h' → Rel H' μ' d v → Q v H'
  | .ex e h' => ∀ (cls : Value) (dd : Option Addr) (H' : Hp) (μ' : Mu), Stp μ μ' H H' → RelH X.prog X.w X.K H' μ' h' → RX X.mg X.K H' μ' e cls dd → W cls dd τ H'
def tG (X : Cx) (W : WX) {α β : Type} (Rel : Hp → Mu → α → β → Prop) (m : AS → AH → Res α) : L2.St → Hp → (β → Hp → Prop) → Prop := fun τ H Q =>
  ∃ (σ : AS) (h : AH) (μ : Mu), RelS X.K H μ σ τ ∧ RelH X.prog X.w X.K H μ h ∧ Post X W τ H μ Rel Q (m σ h)
def rB : Hp → Mu → Bool → Bool → Prop := fun _ _ a b => a = b
abbrev tE (X : Cx) (W : WX) (m : M) : TE := tG X W (RD X.K) m
abbrev tT (X : Cx) (W : WX) (m : MB) : TT := tG X W rB m
abbrev tL (X : Cx) (W : WX) (m : ML) : TA := tG X W (RDs X.K) m
def QE (X : Cx) (W : WX) (m : M) (e : Expr) : Prop := PE X e (tE X W m)
def QT (X : Cx) (W : WX) (m : MB) (e : Expr) : Prop := PT X e (tT X W m)
def QW (X : Cx) (W : WX) (m : MB) (e : Expr) : Prop := PW X e (tT X W m)
def QA (X : Cx) (W : WX) (m : ML) (es : List Expr) : Prop := PA X es (tL X W m)
theorem QE.of {X : Cx} {W : WX} {m : M} {e : Expr} {t : TE} (h : PE X e t) (i : ∀ τ H Q, tE X W m τ H Q → t τ H Q) : QE X W m e := ⟨fun pins s σ H Q I q => h.run pins s σ H Q I (i _ _ _ q)⟩
theorem QT.of {X : Cx} {W : WX} {m : MB} {e : Expr} {t : TT} (h : PT X e t) (i : ∀ τ H Q, tT X W m τ H Q → t τ H Q) : QT X W m e := ⟨fun pins s σ H Q I q => h.run pins s σ H Q I (i _ _ _ q)⟩
theorem QW.of {X : Cx} {W : WX} {m : MB} {e : Expr} {t : TT} (h : PW X e t) (i : ∀ τ H Q, tT X W m τ H Q → t τ H Q) : QW X W m e := ⟨fun wh pins s σ H Q I q => h.run wh pins s σ H Q I (i _ _ _ q)⟩
theorem QA.of {X : Cx} {W : WX} {m : ML} {es : List Expr} {t : TA} (h : PA X es t) (i : ∀ τ H Q, tL X W m τ H Q → t τ H Q) : QA X W m es := ⟨fun pos pins s σ H Q I q => h.run pos pins s σ H Q I (i _ _ _ q)⟩

/-- one evaluation behind another -/
def Res.bind {α β : Type} (r : Res α) (f : α → AH → Res β) : Res β := match r with
  | .stuck => .stuck
  | .ok a h => f a h
  | .ex e h => .ex e h
@[simp] theorem Res.bind_ok {α β : Type} (a : α) (h : AH) (f : α → AH → Res β) : (Res.ok a h).bind f = f a h := rfl
@[simp] theorem Res.bind_ex {α β : Type} (e : Ex) (h : AH) (f : α → AH → Res β) : (Res.ex e h : Res α).bind f = .ex e h := rfl
@[simp] theorem Res.bind_stuck {α β : Type} (f : α → AH → Res β) : (Res.stuck : Res α).bind f = .stuck := rfl
section
variable {X : Cx} {W : WX} {τ : L2.St} {H : Hp} {μ : Mu} {α β γ δ : Type} {RA : Hp → Mu → α → β → Prop} {RB : Hp → Mu → γ → δ → Prop} {Q : δ → Hp → Prop}
/-- the reading of m, then that of f: from the reading of both -/
theorem tG.bind {m : AS → AH → Res α} {f : AS → α → AH → Res γ} {t : L2.St → Hp → (β → Hp → Prop) → Prop} (ht : ∀ τ H Q, tG X W RA m τ H Q → t τ H Q) {k : β → Hp → Prop}
    (hk : ∀ (σ : AS) (a : α) (h1 : AH) (b : β) (H1 : Hp) (μ1 : Mu), RelS X.K H1 μ1 σ τ → RelH X.prog X.w X.K H1 μ1 h1 → RA H1 μ1 a b → Post X W τ H1 μ1 RB Q (f σ a h1) → k b H1)
    (q : tG X W RB (fun σ h => (m σ h).bind (f σ)) τ H Q) : t τ H k := by
  obtain ⟨σ, h, μ, rs, rh, q⟩ := q
  refine ht τ H k ⟨σ, h, μ, rs, rh, ?_⟩
  dsimp only at q
  cases e : m σ h with
  | stuck => rw [e] at q; exact q
  | ex x h' => rw [e] at q; exact q
  | ok a h' =>
    rw [e] at q
    intro b H' μ' s rh' ra
    refine hk σ a h' b H' μ' (rs.stp s) rh' ra ?_
    rw [Res.bind_ok] at q
    cases e2 : f σ a h' with
    | stuck => rw [e2] at q; exact q
    | ok c h2 => rw [e2] at q; exact fun v H2 μ2 s2 => q v H2 μ2 (s.trans s2)
    | ex x h2 => rw [e2] at q; exact fun cls dd H2 μ2 s2 => q cls dd H2 μ2 (s.trans s2)
theorem Post.ok {RC : Hp → Mu → γ → δ → Prop} {c : γ} {h' : AH} {v : δ} (q : Post X W τ H μ RC Q (.ok c h')) {H' : Hp} {μ' : Mu} (s : Stp μ μ' H H') (rh : RelH X.prog X.w X.K H' μ' h') (r : RC H' μ' c v) : Q v H' := q v H' μ' s rh r
/-- an answer with nothing changed -/
theorem Post.now {RC : Hp → Mu → γ → δ → Prop} {c : γ} {h : AH} {v : δ} (q : Post X W τ H μ RC Q (.ok c h)) (rh : RelH X.prog X.w X.K H μ h) (r : RC H μ c v) : Q v H := q v H μ Stp.refl rh r
end
end Q

/-! Q3: expressions. -/
namespace Q
open PySem PySem.Spec PyProof.Rows L2
section
variable {X : Cx} {W : WX} {τ : L2.St} {H : Hp} {μ : Mu} {α β γ δ : Type} {RA : Hp → Mu → α → β → Prop} {RB : Hp → Mu → γ → δ → Prop} {Q : δ → Hp → Prop}
/-- go on from the reading of both to that of the first -/
theorem go {σ : AS} {h : AH} {m : AS → AH → Res α} {f : α → AH → Res γ} {k : β → Hp → Prop} (rs : RelS X.K H μ σ τ) (rh : RelH X.prog X.w X.K H μ h) (q : Post X W τ H μ RB Q ((m σ h).bind f))
    (hk : ∀ (a : α) (h1 : AH) (b : β) (H1 : Hp) (μ1 : Mu), Stp μ μ1 H H1 → RelS X.K H1 μ1 σ τ → RelH X.prog X.w X.K H1 μ1 h1 → RA H1 μ1 a b → Post X W τ H1 μ1 RB Q (f a h1) → k b H1) : tG X W RA m τ H k := by
  refine ⟨σ, h, μ, rs, rh, ?_⟩
  cases e : m σ h with
  | stuck => rw [e] at q; exact q
  | ex x h' => rw [e] at q; exact q
  | ok a h' =>
    rw [e] at q
    intro b H' μ' s rh' ra
    refine hk a h' b H' μ' s (rs.stp s) rh' ra ?_
    rw [Res.bind_ok] at q
    cases e2 : f a h' with
    | stuck => rw [e2] at q; exact q
    | ok c h2 => rw [e2] at q; exact fun v H2 μ2 s2 => q v H2 μ2 (s.trans s2)
    | ex x h2 => rw [e2] at q; exact fun cls dd H2 μ2 s2 => q cls dd H2 μ2 (s.trans s2)
end

section
variable {X : Cx} {W : WX} {pos : Pos}
/-! ### names and constants -/
def eVar (i : Nat) : M := fun σ h => match σ[i]? with
  | some (some d) => .ok d h
  | _ => .stuck
theorem q_var {i : Nat} {x : Str} (hN : X.N[i]? = some x) (hv : Vis X.env.scope x) (hd : (x == ("__debug__" : Str)) = false := by decide) (hcd : (x == ("__classdict__" : Str)) = false := by decide) : QE X W (eVar i) (.Name x pos) :=
  QE.of (pe_var hN hv hd hcd) fun τ H Q ⟨σ, h, μ, rs, rh, q⟩ => by
    unfold eVar at q
    split at q
    · rename_i d e
      obtain ⟨v, e1, r⟩ := rs.2 i d e
      exact ⟨v, e1, q.now rh r⟩
    · exact q.elim
def eC (d : D) : M := fun _ h => .ok d h
theorem q_c {d : D} {v : V} {e : Expr} (hp : PE X e (tC v)) (hr : ∀ H μ, RD X.K H μ d v) : QE X W (eC d) e := QE.of hp fun τ H Q ⟨σ, h, μ, rs, rh, q⟩ => q.now rh (hr _ _)
theorem q_int {i j} : QE X W (eC (.int i)) (.Constant (.int i) j pos) := q_c pe_int fun _ _ => .int i
theorem q_bl {b j} : QE X W (eC (.bl b)) (.Constant (.bool b) j pos) := q_c pe_bl fun _ _ => .bl b
theorem q_non {j} : QE X W (eC .non) (.Constant .none j pos) := q_c pe_non fun _ _ => .non
theorem q_str {x j} : QE X W (eC (.str x)) (.Constant (.str x) j pos) := q_c pe_str fun _ _ => .str x
/-- a constant of the module -/
def GC (X : Cx) (x : Str) (d : D) : Prop := ∃ (v : V) (u : Value), X.mg x = some u ∧ RelV v u ∧ ∀ H μ, RD X.K H μ d v
theorem q_glob {x : Str} {d : D} (g : GC X x d) (hg : Gl X x) (hd : (x == ("__debug__" : Str)) = false := by decide) : QE X W (eC d) (.Name x pos) := by
  obtain ⟨v, u, hm, r, hr⟩ := g
  exact q_c (pe_glob hg hm r hd) hr

/-! ### argument lists, tuples, lists -/
def aNil : ML := fun _ h => .ok [] h
def aCons (m : M) (r : ML) : ML := fun σ h => (m σ h).bind fun d h1 => (r σ h1).bind fun ds h2 => .ok (d :: ds) h2
theorem qa_nil : QA X W aNil [] := QA.of pa_nil fun τ H Q ⟨σ, h, μ, rs, rh, q⟩ => q.now rh .nil
theorem qa_cons {m : M} {r : ML} {e : Expr} {es : List Expr} (hm : QE X W m e) (hr : QA X W r es) (hs : starEach (e :: es) X.env = (false, eval e X.env) :: starEach es X.env := by rfl) : QA X W (aCons m r) (e :: es) :=
  QA.of (pa_cons hm hr hs) fun τ H Q ⟨σ, h, μ, rs, rh, q⟩ =>
    go rs rh q fun d h1 v H1 μ1 s1 rs1 rh1 rd q1 => go rs1 rh1 q1 fun ds h2 vs H2 μ2 s2 rs2 rh2 rds q2 => q2.now rh2 (.cons (rd.stp s2) rds)
def eTup (r : ML) : M := fun σ h => (r σ h).bind fun ds h1 => if ds.length ≤ 16777216 then .ok (.tup ds) h1 else .stuck
theorem q_tup {r : ML} {es : List Expr} {k : Nat} (hr : QA X W r es) : QE X W (eTup r) (.Tuple es k pos) :=
  QE.of (pe_tup hr) fun τ H Q ⟨σ, h, μ, rs, rh, q⟩ => go rs rh q fun ds h1 vs H1 μ1 s1 rs1 rh1 rds q1 => by
    split at q1
    · rename_i hl
      refine ⟨by rw [sizeLine_eq, rds.length]; exact hl, fun p hp => ?_⟩
      exact q1 _ _ μ1 (Stp.laid hp) (rh1.laid hp) (RD.tup_laid rh1 hp rds)
    · exact q1.elim
/-- a list that nothing will change -/
def eLst (r : ML) : M := fun σ h => (r σ h).bind fun ds h1 => if ds.length ≤ 16777216 then .ok (.fro ds) h1 else .stuck
theorem q_lst {r : ML} {es : List Expr} (hr : QA X W r es) : QE X W (eLst r) (.List es pos) :=
  QE.of (pe_lst hr) fun τ H Q ⟨σ, h, μ, rs, rh, q⟩ => go rs rh q fun ds h1 vs H1 μ1 s1 rs1 rh1 rds q1 => by
    split at q1
    · rename_i hl
      refine ⟨by rw [sizeLine_eq, rds.length]; exact hl, fun p hp => ?_⟩
      exact q1 _ _ μ1 (Stp.laid hp) (rh1.laid hp) (RD.fro_laid rh1 hp rds)
    · exact q1.elim
/-- a new changing list -/
def eNewL (r : ML) : M := fun σ h => (r σ h).bind fun ds h1 => if ds.length ≤ 16777216 then .ok (.ref h1.length) (h1 ++ [.lst ds]) else .stuck
theorem q_newL {r : ML} {es : List Expr} (hr : QA X W r es) : QE X W (eNewL r) (.List es pos) :=
  QE.of (pe_lst hr) fun τ H Q ⟨σ, h, μ, rs, rh, q⟩ => go rs rh q fun ds h1 vs H1 μ1 s1 rs1 rh1 rds q1 => by
    split at q1
    · rename_i hl
      refine ⟨by rw [sizeLine_eq, rds.length]; exact hl, fun p hp => ?_⟩
      refine q1 _ _ (μ1.push p) (Stp.more hp) (rh1.more hp (.lst upd_same (rds.stp (Stp.more hp)))) ?_
      rw [← rh1.len]
      exact RD.last
    · exact q1.elim

/-! ### operators -/
abbrev Opt := Option (D × AH)
def lif : Opt → Res D
  | some (d, h) => .ok d h
  | none => .stuck
@[simp] theorem lif_some (d : D) (h : AH) : lif (some (d, h)) = .ok d h := rfl
@[simp] theorem lif_none : lif none = .stuck := rfl
abbrev F2 := D → D → AH → Opt
/-- what follows the answer of an operation -/
def PO2 (X : Cx) (H : Hp) (μ : Mu) (Q : VK) (r : Opt) : Prop := ∃ (z : D) (h' : AH), r = some (z, h') ∧ ∀ (v : V) (H' : Hp) (μ' : Mu), Stp μ μ' H H' → RelH X.prog X.w X.K H' μ' h' → RD X.K H' μ' z v → Q v H'
theorem PO2.of {r : Opt} {τ : L2.St} {H : Hp} {μ : Mu} {Q : VK} (q : Post X W τ H μ (RD X.K) Q (lif r)) : PO2 X H μ Q r := by
  cases e : r with
  | none => rw [e] at q; exact False.elim q
  | some p =>
    obtain ⟨z, h'⟩ := p
    rw [e] at q
    exact ⟨z, h', rfl, fun v H' μ' s rh rd => q v H' μ' s rh rd⟩
theorem PO2.bind {γ δ : Type} {RB : Hp → Mu → γ → δ → Prop} {Q2 : δ → Hp → Prop} {r : Opt} {σ : AS} {τ : L2.St} {H : Hp} {μ : Mu} {k : D → AH → Res γ} {Q : VK} (rs : RelS X.K H μ σ τ)
    (q : Post X W τ H μ RB Q2 ((lif r).bind k)) (hk : ∀ (z : D) (h1 : AH) (t : V) (H1 : Hp) (μ1 : Mu), Stp μ μ1 H H1 → RelS X.K H1 μ1 σ τ → RelH X.prog X.w X.K H1 μ1 h1 → RD X.K H1 μ1 z t → Post X W τ H1 μ1 RB Q2 (k z h1) → Q t H1) : PO2 X H μ Q r := by
  cases e : r with
  | none => rw [e] at q; exact False.elim q
  | some p =>
    obtain ⟨a, h'⟩ := p
    rw [e] at q
    refine ⟨a, h', rfl, fun b H' μ' s rh' ra => ?_⟩
    refine hk a h' b H' μ' s (rs.stp s) rh' ra ?_
    rw [lif_some, Res.bind_ok] at q
    cases e2 : k a h' with
    | stuck => rw [e2] at q; exact q
    | ok c h2 => rw [e2] at q; exact fun v H2 μ2 s2 => q v H2 μ2 (s.trans s2)
    | ex x h2 => rw [e2] at q; exact fun cls dd H2 μ2 s2 => q cls dd H2 μ2 (s.trans s2)
/-- an answer where nothing changed -/
theorem PO2.now {H : Hp} {μ : Mu} {h : AH} {Q : VK} {r : Opt} {z : D} {v : V} (q : PO2 X H μ Q r) (e : r = some (z, h)) (rh : RelH X.prog X.w X.K H μ h) (rz : RD X.K H μ z v) : Q v H := by
  obtain ⟨z', h', e', q⟩ := q
  rw [e] at e'; cases e'
  exact q v H μ Stp.refl rh rz
def rOf (X : Cx) (f : F2) : R2 := fun v u H Q => ∃ (x y : D) (μ : Mu) (h : AH), RelH X.prog X.w X.K H μ h ∧ RD X.K H μ x v ∧ RD X.K H μ y u ∧ PO2 X H μ Q (f x y h)
/-- an operator by values -/
def OpD (X : Cx) (op : Value → Value → Sem Value) (f : F2) : Prop := OpR X op (rOf X f)
theorem OpD.of {op : Value → Value → Sem Value} {r : R2} {f : F2} (ho : OpR X op r) (hi : ∀ v u H Q, rOf X f v u H Q → r v u H Q) : OpD X op f := fun pins s σ H x y v u Q I rx ry q => ho pins s σ H x y v u Q I rx ry (hi x y H Q q)
def eOp (f : F2) (a b : M) : M := fun σ h => (a σ h).bind fun x h1 => (b σ h1).bind fun y h2 => lif (f x y h2)
theorem two {a b : M} {f : F2} : ∀ τ H Q, tE X W (eOp f a b) τ H Q → tOp (rOf X f) (tE X W a) (tE X W b) τ H Q := fun τ H Q ⟨σ, h, μ, rs, rh, q⟩ =>
  go rs rh q fun x h1 v H1 μ1 s1 rs1 rh1 rx q1 => go rs1 rh1 q1 fun y h2 u H2 μ2 s2 rs2 rh2 ry q2 => ⟨x, y, μ2, h2, rh2, rx.stp s2, ry, .of q2⟩
theorem q_op {op : Operator} {f : F2} {a b : M} {ea eb : Expr} (ho : OpD X (binaryOp op) f) (ha : QE X W a ea) (hb : QE X W b eb) : QE X W (eOp f a b) (.BinOp ea op eb pos) :=
  QE.of (pe_op ho ha hb) two
theorem q_cmp {op : CmpOp} {f : F2} {a b : M} {ea eb : Expr} (ho : OpD X (compareOp op) f) (ha : QE X W a ea) (hb : QE X W b eb) (hm : behindInMarks op eb = false) : QE X W (eOp f a b) (.Compare ea [op] [eb] pos) :=
  QE.of (pe_cmpR ho ha hb hm) two
/-- a value as a test -/
def asB : Res D → Res Bool
  | .ok (.bl b) h => .ok b h
  | .ex e h => .ex e h
  | _ => .stuck
@[simp] theorem asB_bl (b : Bool) (h : AH) : asB (.ok (.bl b) h) = .ok b h := rfl
@[simp] theorem asB_ex (e : Ex) (h : AH) : asB (.ex e h) = .ex e h := rfl
def mB (m : M) : MB := fun σ h => asB (m σ h)
theorem Post.asB {τ : L2.St} {H : Hp} {μ : Mu} {Q : Bool → Hp → Prop} {r : Res D} (q : Post X W τ H μ rB Q (asB r)) : Post X W τ H μ (RD X.K) (fun v H' => ∃ k, v = .bl k ∧ Q k H') r := by
  cases r with
  | stuck => exact q
  | ex e h => exact q
  | ok d h =>
    cases d with
    | bl b =>
      intro v H' μ' s rh rd
      cases rd
      exact ⟨b, rfl, q b H' μ' s rh rfl⟩
    | _ => exact False.elim q
theorem tE_asB {m : M} {τ : L2.St} {H : Hp} {Q : Bool → Hp → Prop} (q : tT X W (mB m) τ H Q) : tE X W m τ H (fun v H' => ∃ k, v = .bl k ∧ Q k H') := by
  obtain ⟨σ, h, μ, rs, rh, q⟩ := q
  exact ⟨σ, h, μ, rs, rh, Post.asB q⟩
theorem qt_val {m : M} {e : Expr} (hm : QE X W m e) (he : ∀ whole, isTrue e X.env whole = (do let v ← whole; standAt e.pos; holding [v] (truthy v)) := by intro _; rfl) : QT X W (mB m) e :=
  QT.of (pt_val hm he) fun τ H Q q => tE_asB q
theorem qt_cmp {op : CmpOp} {f : F2} {a b : M} {ea eb : Expr} (ho : OpD X (compareOp op) f) (ha : QE X W a ea) (hb : QE X W b eb) (hm : behindInMarks op eb = false) : QT X W (mB (eOp f a b)) (.Compare ea [op] [eb] pos) :=
  QT.of (pt_cmpR ho ha hb hm) fun τ H Q q => two τ H _ (tE_asB q)
/-- a op b op' c -/
def eChain (f g : F2) (a b c : M) : M := fun σ h => (a σ h).bind fun x h1 => (b σ h1).bind fun y h2 => (lif (f x y h2)).bind fun z h3 => match z with
  | .bl true => (c σ h3).bind fun w h4 => lif (g y w h4)
  | .bl false => .ok (.bl false) h3
  | _ => .stuck
theorem chain_go {f g : F2} {a b c : M} : ∀ τ H Q, tE X W (eChain f g a b c) τ H Q → tChain (rOf X f) (rOf X g) (tE X W a) (tE X W b) (tE X W c) τ H Q := fun τ H Q ⟨σ, h, μ, rs, rh, q⟩ =>
  go rs rh q fun x h1 v H1 μ1 s1 rs1 rh1 rx q1 => go rs1 rh1 q1 fun y h2 u H2 μ2 s2 rs2 rh2 ry q2 => ⟨x, y, μ2, h2, rh2, rx.stp s2, ry, PO2.bind rs2 q2 fun z h3 t H3 μ3 s3 rs3 rh3 rz q3 => by
    cases z with
    | bl k =>
      cases rz
      refine ⟨k, rfl, ?_⟩
      cases k with
      | true =>
        rw [if_pos rfl]
        exact go rs3 rh3 q3 fun w h4 o H4 μ4 s4 rs4 rh4 rw q4 => ⟨y, w, μ4, h4, rh4, (ry.stp s3).stp s4, rw, .of q4⟩
      | false =>
        rw [if_neg Bool.false_ne_true]
        exact q3.now rh3 (.bl false)
    | _ => exact False.elim q3⟩
theorem q_chain {op op' : CmpOp} {f g : F2} {a b c : M} {ea eb ec : Expr} (ho : OpD X (compareOp op) f) (ho' : OpD X (compareOp op') g) (ha : QE X W a ea) (hb : QE X W b eb) (hc : QE X W c ec)
    (hm : lastMarks [op, op'] [eb, ec] = false := by with_unfolding_all rfl) : QE X W (eChain f g a b c) (.Compare ea [op, op'] [eb, ec] pos) := QE.of (pe_chain ho ho' ha hb hc hm) chain_go
theorem qt_chain {op op' : CmpOp} {f g : F2} {a b c : M} {ea eb ec : Expr} (ho : OpD X (compareOp op) f) (ho' : OpD X (compareOp op') g) (ha : QE X W a ea) (hb : QE X W b eb) (hc : QE X W c ec)
    (hm : lastMarks [op, op'] [eb, ec] = false := by with_unfolding_all rfl) : QT X W (mB (eChain f g a b c)) (.Compare ea [op, op'] [eb, ec] pos) :=
  QT.of (pt_chain ho ho' ha hb hc hm) fun τ H Q q => chain_go τ H _ (tE_asB q)

/-! ### and, or, not, if -/
def tAndM (a b : MB) : MB := fun σ h => (a σ h).bind fun c h1 => if c = true then b σ h1 else .ok false h1
def tOrM (a b : MB) : MB := fun σ h => (a σ h).bind fun c h1 => if c = true then .ok true h1 else b σ h1
def tNotM (a : MB) : MB := fun σ h => (a σ h).bind fun c h1 => .ok (!c) h1
variable {a b : MB} {ea eb : Expr} {rest : List Expr}
theorem qw_and1 (ha : QT X W a ea) : QW X W a (.BoolOp .And [ea] pos) := pw_and1 ha
theorem qw_or1 (ha : QT X W a ea) : QW X W a (.BoolOp .Or [ea] pos) := pw_or1 ha
theorem qw_and (ha : QT X W a ea) (hb : QW X W b (.BoolOp .And (eb :: rest) pos)) : QW X W (tAndM a b) (.BoolOp .And (ea :: eb :: rest) pos) :=
  QW.of (pw_and ha hb) fun τ H Q ⟨σ, h, μ, rs, rh, q⟩ => go rs rh q fun c h1 c' H1 μ1 s1 rs1 rh1 rc q1 => by
    cases (show c = c' from rc)
    cases c with
    | true => rw [if_pos rfl] at q1 ⊢; exact ⟨σ, h1, μ1, rs1, rh1, q1⟩
    | false => rw [if_neg Bool.false_ne_true] at q1 ⊢; exact q1.now rh1 rfl
theorem qw_or (ha : QT X W a ea) (hb : QW X W b (.BoolOp .Or (eb :: rest) pos)) : QW X W (tOrM a b) (.BoolOp .Or (ea :: eb :: rest) pos) :=
  QW.of (pw_or ha hb) fun τ H Q ⟨σ, h, μ, rs, rh, q⟩ => go rs rh q fun c h1 c' H1 μ1 s1 rs1 rh1 rc q1 => by
    cases (show c = c' from rc)
    cases c with
    | true => rw [if_pos rfl] at q1 ⊢; exact q1.now rh1 rfl
    | false => rw [if_neg Bool.false_ne_true] at q1 ⊢; exact ⟨σ, h1, μ1, rs1, rh1, q1⟩
theorem QW.qt (h : QW X W a ea) : QT X W a ea := PW.pt h
theorem qt_not (ha : QT X W a ea) : QT X W (tNotM a) (.UnaryOp .Not ea pos) :=
  QT.of (pt_not ha) fun τ H Q ⟨σ, h, μ, rs, rh, q⟩ => go rs rh q fun c h1 c' H1 μ1 s1 rs1 rh1 rc q1 => by
    cases (show c = c' from rc)
    exact q1.now rh1 rfl
/-- as values -/
def eAnd (a b : M) : M := fun σ h => (a σ h).bind fun c h1 => match c with
  | .bl true => b σ h1
  | .bl false => .ok (.bl false) h1
  | _ => .stuck
def eOr (a b : M) : M := fun σ h => (a σ h).bind fun c h1 => match c with
  | .bl true => .ok (.bl true) h1
  | .bl false => b σ h1
  | _ => .stuck
def eNot (a : M) : M := fun σ h => (a σ h).bind fun c h1 => match c with
  | .bl k => .ok (.bl (!k)) h1
  | _ => .stuck
variable {m n : M}
theorem q_one {op} (hm : QE X W m ea) : QE X W m (.BoolOp op [ea] pos) := pe_one hm
theorem q_and (hm : QE X W m ea) (hn : QE X W n (.BoolOp .And (eb :: rest) pos)) : QE X W (eAnd m n) (.BoolOp .And (ea :: eb :: rest) pos) :=
  QE.of (pe_and hm hn) fun τ H Q ⟨σ, h, μ, rs, rh, q⟩ => go rs rh q fun c h1 v H1 μ1 s1 rs1 rh1 rc q1 => by
    cases c with
    | bl k =>
      cases rc
      refine ⟨k, rfl, ?_⟩
      cases k with
      | true => rw [if_pos rfl]; exact ⟨σ, h1, μ1, rs1, rh1, q1⟩
      | false => rw [if_neg Bool.false_ne_true]; exact q1.now rh1 (.bl false)
    | _ => exact False.elim q1
theorem q_or (hm : QE X W m ea) (hn : QE X W n (.BoolOp .Or (eb :: rest) pos)) : QE X W (eOr m n) (.BoolOp .Or (ea :: eb :: rest) pos) :=
  QE.of (pe_or hm hn) fun τ H Q ⟨σ, h, μ, rs, rh, q⟩ => go rs rh q fun c h1 v H1 μ1 s1 rs1 rh1 rc q1 => by
    cases c with
    | bl k =>
      cases rc
      refine ⟨k, rfl, ?_⟩
      cases k with
      | true => rw [if_pos rfl]; exact q1.now rh1 (.bl true)
      | false => rw [if_neg Bool.false_ne_true]; exact ⟨σ, h1, μ1, rs1, rh1, q1⟩
    | _ => exact False.elim q1
theorem q_not (hm : QE X W m ea) : QE X W (eNot m) (.UnaryOp .Not ea pos) :=
  QE.of (pe_not hm) fun τ H Q ⟨σ, h, μ, rs, rh, q⟩ => go rs rh q fun c h1 v H1 μ1 s1 rs1 rh1 rc q1 => by
    cases c with
    | bl k => cases rc; exact ⟨k, rfl, q1.now rh1 (.bl (!k))⟩
    | _ => exact False.elim q1
def eIf (t : MB) (m n : M) : M := fun σ h => (t σ h).bind fun c h1 => if c = true then m σ h1 else n σ h1
theorem q_if {c : Expr} (ht : QT X W a c) (hm : QE X W m ea) (hn : QE X W n eb) : QE X W (eIf a m n) (.IfExp c ea eb pos) :=
  QE.of (pe_ifExp ht hm hn) fun τ H Q ⟨σ, h, μ, rs, rh, q⟩ => go rs rh q fun c h1 c' H1 μ1 s1 rs1 rh1 rc q1 => by
    cases (show c = c' from rc)
    cases c with
    | true => rw [if_pos rfl] at q1 ⊢; exact ⟨σ, h1, μ1, rs1, rh1, q1⟩
    | false => rw [if_neg Bool.false_ne_true] at q1 ⊢; exact ⟨σ, h1, μ1, rs1, rh1, q1⟩
end
end Q

/-! Q4: operators by values. -/
namespace Q
open PySem PySem.Spec PyProof.Rows L2

/-! ### trees as data -/
mutual
def pd : D → Option PyData
  | .non => some .none
  | .bl b => some (.bool b)
  | .int i => some (.int i)
  | .str s => some (.str s)
  | .tup ds => (pds ds).map .tuple
  | .fro ds => (pds ds).map .list
  | .scr ds => (pds ds).map .list
  | .ref _ => none
  | .exn _ _ _ _ _ => none
def pds : List D → Option (List PyData)
  | [] => some []
  | d :: ds => match pd d, pds ds with
    | some k, some ks => some (k :: ks)
    | _, _ => none
end
section
variable {X : Cx} {pins : List (Addr × Obj)} {σ : L2.St} {H : Hp} {s : Shared} {μ : Mu} {h : AH}
mutual
theorem RD.reads (I : Inv X pins σ H s) : ∀ (d : D) (v : V) (u : Value) (p : PyData), RD X.K H μ d v → RelV v u → pd d = some p → (∃ as, Reads s.heap u p as) ∧ p.plain = true
  | .non, _, _, _, h, r, e => by cases h; cases r; cases e; exact ⟨⟨_, .none⟩, rfl⟩
  | .bl b, _, _, _, h, r, e => by cases h; cases r; cases e; exact ⟨⟨_, .bool b⟩, rfl⟩
  | .int i, _, _, _, h, r, e => by cases h; obtain ⟨t, rfl⟩ := r; cases e; exact ⟨⟨_, .int i t⟩, rfl⟩
  | .str x, _, _, _, h, r, e => by cases h; obtain ⟨t, rfl⟩ := r; cases e; exact ⟨⟨_, .str x t⟩, rfl⟩
  | .tup ds, _, _, _, h, r, e => by
    cases h with
    | tup t rr =>
      cases r
      obtain ⟨its, rv, ⟨o, ho, hc, n, hd⟩, _⟩ := I.tuple t.sq
      rw [pd] at e
      obtain ⟨ks, hks, rfl⟩ := Option.map_eq_some_iff.mp e
      obtain ⟨⟨as, q⟩, pl⟩ := RDs.reads I ds _ its ks rr rv hks
      exact ⟨⟨_, Reads.tuple ho hc hd q⟩, by rw [PyData.plain]; exact pl⟩
  | .fro ds, _, _, _, h, r, e => by
    cases h with
    | fro t nm rr =>
      cases r
      obtain ⟨its, rv, ⟨o, n, ho, hc, _, hd⟩, _⟩ := I.list (SqL.of t)
      rw [pd] at e
      obtain ⟨ks, hks, rfl⟩ := Option.map_eq_some_iff.mp e
      obtain ⟨⟨as, q⟩, pl⟩ := RDs.reads I ds _ its ks rr rv hks
      exact ⟨⟨_, Reads.list ho hc hd q⟩, by rw [PyData.plain]; exact pl⟩
  | .scr ds, _, _, _, h, r, e => by
    cases h with
    | scr t rr =>
      cases r
      obtain ⟨its, rv, ⟨o, n, ho, hc, _, hd⟩, _⟩ := I.list t.sq
      rw [pd] at e
      obtain ⟨ks, hks, rfl⟩ := Option.map_eq_some_iff.mp e
      obtain ⟨⟨as, q⟩, pl⟩ := RDs.reads I ds _ its ks rr rv hks
      exact ⟨⟨_, Reads.list ho hc hd q⟩, by rw [PyData.plain]; exact pl⟩
  | .ref _, _, _, _, _, _, e => by cases e
  | .exn _ _ _ _ _, _, _, _, _, _, e => by cases e
theorem RDs.reads (I : Inv X pins σ H s) : ∀ (ds : List D) (vs : List V) (us : List Value) (ps : List PyData), RDs X.K H μ ds vs → Vals vs us → pds ds = some ps → (∃ as, ReadsAll s.heap us ps as) ∧ PyData.plainAll ps = true
  | [], _, _, _, h, r, e => by cases h; cases r; cases e; exact ⟨⟨_, .nil⟩, rfl⟩
  | d :: ds, _, _, _, h, r, e => by
    cases h with
    | cons h1 h2 =>
      cases r with
      | cons r1 r2 =>
        rw [pds] at e
        split at e
        · rename_i k ks e1 e2
          cases e
          obtain ⟨⟨as, q1⟩, p1⟩ := RD.reads I d _ _ k h1 r1 e1
          obtain ⟨⟨bs, q2⟩, p2⟩ := RDs.reads I ds _ _ ks h2 r2 e2
          exact ⟨⟨_, .cons q1 q2⟩, by rw [PyData.plainAll, p1, p2]; rfl⟩
        · cases e
end
/-- with the changing list itself -/
def pdH (h : AH) : D → Option PyData
  | .ref n => match h[n]? with
    | some (.lst ds) => (pds ds).map .list
    | _ => none
  | d => pd d
theorem RD.readsH (I : Inv X pins σ H s) (rh : RelH X.prog X.w X.K H μ h) {d : D} {v : V} {u : Value} {p : PyData} (r : RD X.K H μ d v) (rv : RelV v u) (e : pdH h d = some p) : (∃ as, Reads s.heap u p as) ∧ p.plain = true := by
  cases d with
  | ref n =>
    simp only [pdH] at e
    split at e
    · rename_i ds eh
      obtain ⟨ks, hks, rfl⟩ := Option.map_eq_some_iff.mp e
      cases r with
      | ref hm =>
        cases rv
        cases rh.obj n _ _ eh hm with
        | lst ha rr =>
          obtain ⟨its, rv, ⟨o, n, ho, hc, _, hd⟩, _⟩ := I.list (SqL.of ha)
          obtain ⟨⟨as, q⟩, pl⟩ := RDs.reads I ds _ its ks rr rv hks
          exact ⟨⟨_, Reads.list ho hc hd q⟩, by rw [PyData.plain]; exact pl⟩
    · cases e
  | _ => exact RD.reads I _ v u p r rv e
end

/-! ### sequences -/
def lsq (h : AH) : D → Option (List D)
  | .fro ds => some ds
  | .scr ds => some ds
  | .ref n => match h[n]? with
    | some (.lst ds) => some ds
    | _ => none
  | _ => none
def ssq (h : AH) : D → Option (List D)
  | .tup ds => some ds
  | .fro ds => some ds
  | .scr ds => some ds
  | .ref n => match h[n]? with
    | some (.lst ds) => some ds
    | _ => none
  | _ => none
section
variable {P : Program} {w : World} {K : PySem.W.Frag} {H : Hp} {μ : Mu} {h : AH} {d : D} {v : V} {ds : List D}
theorem lsq_ok (rh : RelH P w K H μ h) (r : RD K H μ d v) (e : lsq h d = some ds) : ∃ p xs, v = .ref p ∧ SqL K H p xs ∧ RDs K H μ ds xs := by
  unfold lsq at e
  split at e
  · cases e; cases r with | fro t n rr => exact ⟨_, _, rfl, SqL.of t, rr⟩
  · cases e; cases r with | scr t rr => exact ⟨_, _, rfl, t.sq, rr⟩
  · split at e
    · cases e
      rename_i eh
      cases r with
      | ref hm =>
        cases rh.obj _ _ _ eh hm with
        | lst ha rr => exact ⟨_, _, rfl, SqL.of ha, rr⟩
    · cases e
  · cases e
theorem ssq_ok (rh : RelH P w K H μ h) (r : RD K H μ d v) (e : ssq h d = some ds) : ∃ p xs, v = .ref p ∧ (SqL K H p xs ∨ SqT K H p xs) ∧ RDs K H μ ds xs := by
  cases d with
  | tup es => cases e; cases r with | tup t rr => exact ⟨_, _, rfl, .inr t.sq, rr⟩
  | _ => exact let ⟨p, xs, a, b, c⟩ := lsq_ok (d := _) rh r e; ⟨p, xs, a, .inl b, c⟩
end

section
variable {X : Cx}
/-! ### numbers -/
def dInt (C : Int → Int → Prop) [∀ i j, Decidable (C i j)] (g : Int → Int → Int) : F2 := fun x y h => match x, y with
  | .int i, .int j => if C i j then some (.int (g i j), h) else none
  | _, _ => none
theorem PO2.elim {H : Hp} {μ : Mu} {Q : VK} (q : PO2 X H μ Q none) {p : Prop} : p := by
  obtain ⟨_, _, e, _⟩ := q
  cases e
theorem opd_int {op : Value → Value → Sem Value} {C : Int → Int → Prop} [∀ i j, Decidable (C i j)] {g : Int → Int → Int} (ho : OpR X op (rI C fun i j => .int (g i j))) : OpD X op (dInt C g) :=
  .of ho fun v u H Q ⟨x, y, μ, h, rh, rx, ry, q⟩ => by
    unfold dInt at q
    split at q
    · split at q
      · rename_i hc
        cases rx; cases ry
        exact ⟨_, _, rfl, rfl, hc, q.now rfl rh (.int _)⟩
      · exact q.elim
    · exact q.elim
theorem opd_int0 {op : Value → Value → Sem Value} {g : Int → Int → Int} (ho : OpR X op (rI0 fun i j => .int (g i j))) : OpD X op (dInt (fun _ _ => True) g) :=
  .of ho fun v u H Q ⟨x, y, μ, h, rh, rx, ry, q⟩ => by
    unfold dInt at q
    split at q
    · rw [if_pos trivial] at q
      cases rx; cases ry
      exact ⟨_, _, rfl, rfl, q.now rfl rh (.int _)⟩
    · exact q.elim
abbrev dSub : F2 := dInt (fun _ _ => True) (· - ·)
theorem opd_sub : OpD X (binaryOp .Sub) dSub := opd_int0 op_sub
abbrev dMul : F2 := dInt (fun i j => i.natAbs < 2 ^ 4000 ∧ j.natAbs < 2 ^ 4000) (· * ·)
theorem opd_mul : OpD X (binaryOp .Mult) dMul := opd_int fun pins s σ H x y v u Q I rx ry q => op_mulW pins s σ H x y v u Q I rx ry (by
  obtain ⟨i, j, e1, e2, ⟨c1, c2⟩, q⟩ := q
  exact ⟨i, j, e1, e2, wide_mul c1 c2 (by decide) (by decide) (by decide), q⟩)
abbrev dDiv : F2 := dInt (fun _ j => 0 < j ∧ j.natAbs < 2 ^ 4000) (· / ·)
theorem opd_div : OpD X (binaryOp .FloorDiv) dDiv := opd_int fun pins s σ H x y v u Q I rx ry q => op_fdivW pins s σ H x y v u Q I rx ry (by
  obtain ⟨i, j, e1, e2, ⟨c1, c2⟩, q⟩ := q
  exact ⟨i, j, e1, e2, wide_div c1 c2 (by decide) (by decide), q⟩)
abbrev dMod : F2 := dInt (fun _ j => 0 < j) (· % ·)
theorem opd_mod : OpD X (binaryOp .Mod) dMod := opd_int op_mod
abbrev dPow : F2 := dInt (fun i j => 0 ≤ j ∧ j ≤ 1000000 ∧ i.natAbs < 2 ^ 64) fun i j => i ^ j.toNat
theorem opd_pow : OpD X (binaryOp .Pow) dPow := opd_int op_pow

/-! ### + -/
def dAdd : F2 := fun x y h => match x, y with
  | .int i, .int j => some (.int (i + j), h)
  | .str a, .str b => if a.length + b.length ≤ 16777216 then some (.str (a ++ b), h) else none
  | .tup a, .tup b => if a.length + b.length ≤ 16777216 then some (.tup (a ++ b), h) else none
  | _, _ => none
theorem opd_add : OpD X (binaryOp .Add) dAdd := fun pins s σ H v u v' u' Q I rv ru ⟨x, y, μ, h, rh, rx, ry, q⟩ => by
  unfold dAdd at q
  split at q
  · cases rx; cases ry
    exact op_add pins s σ H _ _ _ _ Q I rv ru ⟨_, _, rfl, rfl, q.now rfl rh (.int _)⟩
  · split at q
    · rename_i hl
      cases rx; cases ry
      exact op_add_str pins s σ H _ _ _ _ Q I rv ru ⟨_, _, rfl, rfl, by rw [sizeLine_eq]; exact hl, q.now rfl rh (.str _)⟩
    · exact q.elim
  · split at q
    · rename_i hl
      cases rx with
      | tup ta ra =>
        cases ry with
        | tup tb rb =>
          refine op_catA pins s σ H _ _ _ _ Q I rv ru ⟨_, _, _, _, rfl, rfl, ta.sq, tb.sq, by rw [sizeLine_eq, ra.length, rb.length]; exact hl, fun e => ?_, fun _ e => ?_, fun _ _ p hp => ?_⟩
          · subst e
            cases ra
            exact q.now rfl rh (.tup tb rb)
          · subst e
            cases rb
            exact q.now rfl rh (.tup ta (by rw [List.append_nil]; exact ra))
          · obtain ⟨z, h', e, q⟩ := q
            cases e
            exact q _ _ μ (Stp.laid hp) (rh.laid hp) (RD.tup_laid rh hp (ra.append rb))
    · exact q.elim
  · exact q.elim
/-- lists, to one that stays -/
def lchg (h : AH) : D → Option (List D)
  | .fro ds => some ds
  | .ref n => match h[n]? with
    | some (.lst ds) => some ds
    | _ => none
  | _ => none
theorem lchg_ok {P : Program} {w : World} {K : PySem.W.Frag} {H : Hp} {μ : Mu} {h : AH} {d : D} {v : V} {ds : List D} (rh : RelH P w K H μ h) (r : RD K H μ d v) (e : lchg h d = some ds) : ∃ p xs, v = .ref p ∧ H p = some (.lst xs) ∧ RDs K H μ ds xs := by
  unfold lchg at e
  split at e
  · cases e; cases r with | fro t n rr => exact ⟨_, _, rfl, t, rr⟩
  · split at e
    · cases e
      rename_i eh
      cases r with
      | ref hm =>
        cases rh.obj _ _ _ eh hm with
        | lst ha rr => exact ⟨_, _, rfl, ha, rr⟩
    · cases e
  · cases e
def dCat : F2 := fun x y h => match lchg h x, lchg h y with
  | some a, some b => if a.length + b.length ≤ 16777216 then some (.fro (a ++ b), h) else none
  | _, _ => none
theorem opd_cat : OpD X (binaryOp .Add) dCat := .of op_cat fun v u H Q ⟨x, y, μ, h, rh, rx, ry, q⟩ => by
  unfold dCat at q
  split at q
  · rename_i a b ea eb
    split at q
    · rename_i hl
      obtain ⟨p1, xs, rfl, h1, r1⟩ := lchg_ok rh rx ea
      obtain ⟨p2, ys, rfl, h2, r2⟩ := lchg_ok rh ry eb
      refine ⟨p1, p2, xs, ys, rfl, rfl, h1, h2, by rw [sizeLine_eq, r1.length, r2.length]; exact hl, fun p hp => ?_⟩
      obtain ⟨z, h', e, q⟩ := q
      cases e
      exact q _ _ μ (Stp.laid hp) (rh.laid hp) (RD.fro_laid rh hp (r1.append r2))
    · exact q.elim
  · exact q.elim
/-- lists, to a new changing one -/
theorem PO2.list {H : Hp} {μ : Mu} {h : AH} {Q : VK} {ds : List D} {xs : List V} (q : PO2 X H μ Q (some (.ref h.length, h ++ [.lst ds]))) (rh : RelH X.prog X.w X.K H μ h) (r : RDs X.K H μ ds xs) : ∀ p, H p = none → Q (.ref p) (upd H p (.lst xs)) := fun p hp => by
  obtain ⟨z, h', e, q⟩ := q
  cases e
  refine q _ _ (μ.push p) (Stp.more hp) (rh.more hp (.lst upd_same (r.stp (Stp.more hp)))) ?_
  rw [← rh.len]
  exact RD.last
theorem PO2.fro {H : Hp} {μ : Mu} {h : AH} {Q : VK} {ds : List D} {xs : List V} (q : PO2 X H μ Q (some (.fro ds, h))) (rh : RelH X.prog X.w X.K H μ h) (r : RDs X.K H μ ds xs) : ∀ p, H p = none → Q (.ref p) (upd H p (.lst xs)) := fun p hp => by
  obtain ⟨z, h', e, q⟩ := q
  cases e
  exact q _ _ μ (Stp.laid hp) (rh.laid hp) (RD.fro_laid rh hp r)
theorem PO2.tup {H : Hp} {μ : Mu} {h : AH} {Q : VK} {ds : List D} {xs : List V} (q : PO2 X H μ Q (some (.tup ds, h))) (rh : RelH X.prog X.w X.K H μ h) (r : RDs X.K H μ ds xs) : ∀ p, H p = none → Q (.ref p) (upd H p (.tup xs)) := fun p hp => by
  obtain ⟨z, h', e, q⟩ := q
  cases e
  exact q _ _ μ (Stp.laid hp) (rh.laid hp) (RD.tup_laid rh hp r)
def dCatR : F2 := fun x y h => match lchg h x, lchg h y with
  | some a, some b => if a.length + b.length ≤ 16777216 then some (.ref h.length, h ++ [.lst (a ++ b)]) else none
  | _, _ => none
theorem opd_catR : OpD X (binaryOp .Add) dCatR := .of op_cat fun v u H Q ⟨x, y, μ, h, rh, rx, ry, q⟩ => by
  unfold dCatR at q
  split at q
  · rename_i a b ea eb
    split at q
    · rename_i hl
      obtain ⟨p1, xs, rfl, h1, r1⟩ := lchg_ok rh rx ea
      obtain ⟨p2, ys, rfl, h2, r2⟩ := lchg_ok rh ry eb
      exact ⟨p1, p2, xs, ys, rfl, rfl, h1, h2, by rw [sizeLine_eq, r1.length, r2.length]; exact hl, q.list rh (r1.append r2)⟩
    · exact q.elim
  · exact q.elim

/-! ### comparisons of data -/
def dCmp (C : PyData → PyData → Bool) (g : PyData → PyData → Bool) : F2 := fun x y h => match pdH h x, pdH h y with
  | some p, some q => if C p q = true ∧ min p.depth q.depth ≤ 64 then some (.bl (g p q), h) else none
  | _, _ => none
theorem opd_cmp {op : Value → Value → Sem Value} {C g : PyData → PyData → Bool} (hu : X.A.units + 64 < cLine)
    (rule : ∀ (s : Shared) (a b : Value) (da db : PyData) (as bs : List Addr) (Q : Value → Shared → Prop) (E : Value → Shared → Prop), Reads s.heap a da as → Reads s.heap b db bs → da.plain = true → db.plain = true → C da db = true → X.A.units + min da.depth db.depth < cLine → Q (.bool (g da db)) s → wpAny (model X.prog X.w) X.A (op a b) Q E s) : OpD X op (dCmp C g) :=
  fun pins s σ H v u v' u' Q I rv ru ⟨x, y, μ, h, rh, rx, ry, q⟩ => by
    unfold dCmp at q
    split at q
    · rename_i p r e1 e2
      split at q
      · rename_i hc
        obtain ⟨⟨as, r1⟩, p1⟩ := RD.readsH I rh rx rv e1
        obtain ⟨⟨bs, r2⟩, p2⟩ := RD.readsH I rh ry ru e2
        exact rule s v' u' p r as bs _ _ r1 r2 p1 p2 hc.1 (by omega) ⟨.bl _, H, I, rfl, q.now rfl rh (.bl _)⟩
      · exact q.elim
    · exact q.elim
def notNone : PyData → Bool
  | .none => false
  | _ => true
theorem notNone_ne {p : PyData} (h : notNone p = true) : p ≠ .none := fun e => by subst e; cases h
abbrev cAny : PyData → PyData → Bool := fun _ _ => true
abbrev cOrd : PyData → PyData → Bool := fun p q => PySem.W.alike p q && notNone p
abbrev dEq : F2 := dCmp cAny PyData.eqv
abbrev dNe : F2 := dCmp cAny fun p q => !PyData.eqv p q
abbrev dLt : F2 := dCmp cOrd PySem.W.dataLt
abbrev dGt : F2 := dCmp cOrd fun p q => PySem.W.dataLt q p
abbrev dLe : F2 := dCmp cOrd fun p q => !PySem.W.dataLt q p
abbrev dGe : F2 := dCmp cOrd fun p q => !PySem.W.dataLt p q
theorem opd_eq (hu : X.A.units + 64 < cLine) : OpD X (compareOp .Eq) dEq := opd_cmp hu fun s a b da db as bs Q E r1 r2 p1 p2 _ hu' q => PySem.SeqAt.eq_plain r1 r2 p1 p2 hu' q
theorem opd_ne (hu : X.A.units + 64 < cLine) : OpD X (compareOp .NotEq) dNe := opd_cmp hu fun s a b da db as bs Q E r1 r2 p1 p2 _ hu' q => PySem.SeqAt.ne_plain r1 r2 p1 p2 hu' q
theorem cOrd_of {p q : PyData} (h : cOrd p q = true) : PySem.W.alike p q = true ∧ p ≠ .none := by
  rw [cOrd, Bool.and_eq_true] at h
  exact ⟨h.1, notNone_ne h.2⟩
theorem opd_lt (hu : X.A.units + 64 < cLine) : OpD X (compareOp .Lt) dLt := opd_cmp hu fun s a b da db as bs Q E r1 r2 _ _ c hu' q => PySem.W.lt_data r1 r2 (cOrd_of c).1 (cOrd_of c).2 hu' q
theorem opd_gt (hu : X.A.units + 64 < cLine) : OpD X (compareOp .Gt) dGt := opd_cmp hu fun s a b da db as bs Q E r1 r2 _ _ c hu' q => PySem.W.gt_data r1 r2 (cOrd_of c).1 (cOrd_of c).2 hu' q
theorem opd_le (hu : X.A.units + 64 < cLine) : OpD X (compareOp .LtE) dLe := opd_cmp hu fun s a b da db as bs Q E r1 r2 _ _ c hu' q => PySem.W.le_data r1 r2 (cOrd_of c).1 (cOrd_of c).2 hu' q
theorem opd_ge (hu : X.A.units + 64 < cLine) : OpD X (compareOp .GtE) dGe := opd_cmp hu fun s a b da db as bs Q E r1 r2 _ _ c hu' q => PySem.W.ge_data r1 r2 (cOrd_of c).1 (cOrd_of c).2 hu' q

/-! ### is -/
def dIs : F2 := fun x y h => match x, y with
  | .bl a, .bl b => some (.bl (decide (a = b)), h)
  | _, _ => none
def dIsNot : F2 := fun x y h => match x, y with
  | .bl a, .bl b => some (.bl (!decide (a = b)), h)
  | _, _ => none
theorem opd_is : OpD X (compareOp .Is) dIs := .of op_isBl fun v u H Q ⟨x, y, μ, h, rh, rx, ry, q⟩ => by
  unfold dIs at q
  split at q
  · cases rx; cases ry
    exact ⟨_, _, rfl, rfl, q.now rfl rh (.bl _)⟩
  · exact q.elim
theorem opd_isNot : OpD X (compareOp .IsNot) dIsNot := .of op_notBl fun v u H Q ⟨x, y, μ, h, rh, rx, ry, q⟩ => by
  unfold dIsNot at q
  split at q
  · cases rx; cases ry
    exact ⟨_, _, rfl, rfl, q.now rfl rh (.bl _)⟩
  · exact q.elim
def isNonD : D → Bool
  | .non => true
  | _ => false
theorem isNonD_V {K : PySem.W.Frag} {H : Hp} {μ : Mu} {d : D} {v : V} (r : RD K H μ d v) : decide (v = .non) = isNonD d := by cases r <;> rfl
def dIsN : F2 := fun x y h => match y with
  | .non => some (.bl (isNonD x), h)
  | _ => none
def dNotN : F2 := fun x y h => match y with
  | .non => some (.bl (!isNonD x), h)
  | _ => none
theorem opd_isN : OpD X (compareOp .Is) dIsN := .of op_isN fun v u H Q ⟨x, y, μ, h, rh, rx, ry, q⟩ => by
  unfold dIsN at q
  split at q
  · cases ry
    refine ⟨rfl, ?_⟩
    rw [isNonD_V rx]
    exact q.now rfl rh (.bl _)
  · exact q.elim
theorem opd_notN : OpD X (compareOp .IsNot) dNotN := .of op_notN fun v u H Q ⟨x, y, μ, h, rh, rx, ry, q⟩ => by
  unfold dNotN at q
  split at q
  · cases ry
    refine ⟨rfl, ?_⟩
    rw [isNonD_V rx]
    exact q.now rfl rh (.bl _)
  · exact q.elim

/-! ### in, of sequences -/
def dInS (neg : Bool) : F2 := fun x y h => match pd x, pdH h y with
  | some p, some (.list ps) => if min (PyData.depthAll ps) p.depth ≤ 63 then some (.bl (neg != ps.any fun z => PyData.eqv z p), h) else none
  | some p, some (.tuple ps) => if min (PyData.depthAll ps) p.depth ≤ 63 then some (.bl (neg != ps.any fun z => PyData.eqv z p), h) else none
  | _, _ => none
theorem plain_list {ps : List PyData} (h : PyData.plain (.list ps) = true) : PyData.plainAll ps = true := by rw [PyData.plain] at h; exact h
theorem plain_tuple {ps : List PyData} (h : PyData.plain (.tuple ps) = true) : PyData.plainAll ps = true := by rw [PyData.plain] at h; exact h
theorem opd_inS (hu : X.A.units + 64 < cLine) : OpD X (compareOp .In) (dInS false) := fun pins s σ H v u v' u' Q I rv ru ⟨x, y, μ, h, rh, rx, ry, q⟩ => by
  unfold dInS at q
  split at q
  · rename_i p ps e1 e2
    split at q
    · rename_i hc
      obtain ⟨⟨as, r1⟩, p1⟩ := RD.reads I _ _ _ _ rx rv e1
      obtain ⟨⟨bs, r2⟩, p2⟩ := RD.readsH I rh ry ru e2
      refine PySem.SeqAt.in_list_data r2 r1 (plain_list p2) p1 (by omega) ⟨.bl _, H, I, rfl, ?_⟩
      rw [Bool.false_bne] at q
      exact q.now rfl rh (.bl _)
    · exact q.elim
  · rename_i p ps e1 e2
    split at q
    · rename_i hc
      obtain ⟨⟨as, r1⟩, p1⟩ := RD.reads I _ _ _ _ rx rv e1
      obtain ⟨⟨bs, r2⟩, p2⟩ := RD.readsH I rh ry ru e2
      refine PySem.SeqAt.in_tuple_data r2 r1 (plain_tuple p2) p1 (by omega) ⟨.bl _, H, I, rfl, ?_⟩
      rw [Bool.false_bne] at q
      exact q.now rfl rh (.bl _)
    · exact q.elim
  · exact q.elim
theorem opd_notInS (hu : X.A.units + 64 < cLine) : OpD X (compareOp .NotIn) (dInS true) := fun pins s σ H v u v' u' Q I rv ru ⟨x, y, μ, h, rh, rx, ry, q⟩ => by
  unfold dInS at q
  split at q
  · rename_i p ps e1 e2
    split at q
    · rename_i hc
      obtain ⟨⟨as, r1⟩, p1⟩ := RD.reads I _ _ _ _ rx rv e1
      obtain ⟨⟨bs, r2⟩, p2⟩ := RD.readsH I rh ry ru e2
      refine PySem.SeqAt.notIn_list_data r2 r1 (plain_list p2) p1 (by omega) ⟨.bl _, H, I, rfl, ?_⟩
      rw [Bool.true_bne] at q
      exact q.now rfl rh (.bl _)
    · exact q.elim
  · rename_i p ps e1 e2
    split at q
    · rename_i hc
      obtain ⟨⟨as, r1⟩, p1⟩ := RD.reads I _ _ _ _ rx rv e1
      obtain ⟨⟨bs, r2⟩, p2⟩ := RD.readsH I rh ry ru e2
      refine PySem.SeqAt.notIn_tuple_data r2 r1 (plain_tuple p2) p1 (by omega) ⟨.bl _, H, I, rfl, ?_⟩
      rw [Bool.true_bne] at q
      exact q.now rfl rh (.bl _)
    · exact q.elim
  · exact q.elim
end
end Q

/-! Q5: dicts. -/
namespace Q
open PySem PySem.Spec PyProof.Rows L2

def dtGet (kvs : List (D × D)) (k : NestedKey) : Option D := (kvs.find? fun p => decide (nk p.1 = some k)).map (·.2)
def dtPut (kvs : List (D × D)) (d : D) (k : NestedKey) (v : D) : List (D × D) :=
  if (dtGet kvs k).isSome then kvs.map (fun p => if nk p.1 = some k then (p.1, v) else p) else kvs ++ [(d, v)]
def dkGet (kvs : List (Key × D)) (k : Key) : Option D := (kvs.find? fun p => decide (p.1 = k)).map (·.2)
def dkPut (kvs : List (Key × D)) (k : Key) (v : D) : List (Key × D) :=
  if (kvs.any fun kv => decide (kv.1 = k)) = true then kvs.map (fun kv => if kv.1 = k then (kv.1, v) else kv) else kvs ++ [(k, v)]
def keyD : D → Option Key
  | .int i => some (.inl i)
  | .str s => some (.inr s)
  | _ => none
/-- a tuple as a key -/
def tkey : D → Option NestedKey
  | .tup ds => match nk (.tup ds) with
    | some k => if k.depth ≤ 8 then some k else none
    | none => none
  | _ => none
def objAt (h : AH) : D → Option O
  | .ref n => h[n]?
  | _ => none

section
variable {P : Program} {w : World} {K : PySem.W.Frag} {H : Hp} {μ : Mu}
theorem paired_dt {kvs : List (D × D)} {xs : List (NestedKey × Addr × Value)} (r : Paired (RT K H μ) kvs xs) (k : NestedKey) :
    (dtGet kvs k = none ∧ atKey xs k = none) ∨ ∃ d b u v, dtGet kvs k = some d ∧ atKey xs k = some (b, u) ∧ RelV v u ∧ RD K H μ d v := by
  induction r with
  | nil => exact .inl ⟨rfl, rfl⟩
  | @cons p x ps ys rt t ih =>
    by_cases hk : x.1 = k
    · obtain ⟨v, r1, r2⟩ := rt.val
      refine .inr ⟨p.2, x.2.1, x.2.2, v, ?_, ?_, r1, r2⟩
      · simp [dtGet, rt.key, hk]
      · simp [atKey, hk]
    · have h1 : dtGet (p :: ps) k = dtGet ps k := by simp [dtGet, rt.key, hk]
      have h2 : atKey (x :: ys) k = atKey ys k := by simp [atKey, hk]
      rw [h1, h2]
      exact ih
theorem paired_put {kvs : List (D × D)} {xs : List (NestedKey × Addr × Value)} (r : Paired (RT K H μ) kvs xs) {d : D} {k : NestedKey} {b : Addr} {dv : D} {v : V} {u : Value} (hk : nk d = some k) (hd : k.depth ≤ 8) (rk : RD K H μ d (.ref b)) (rv : RelV v u) (rd : RD K H μ dv v) :
    Paired (RT K H μ) (dtPut kvs d k dv) (storedH xs k b u) := by
  have hs : (dtGet kvs k).isSome = (atKey xs k).isSome := by
    rcases paired_dt r k with ⟨e1, e2⟩ | ⟨_, _, _, _, e1, e2, _⟩ <;> rw [e1, e2] <;> rfl
  unfold dtPut storedH
  rw [hs]
  split
  · rename_i hx
    clear hx hs
    induction r with
    | nil => exact .nil
    | @cons p x ps ys rt t ih =>
      refine .cons ?_ ih
      show RT K H μ (if nk p.1 = some k then (p.1, dv) else p) (if x.1 = k then (x.1, x.2.1, u) else x)
      by_cases hx : x.1 = k
      · have e : nk p.1 = some k := by rw [rt.key, hx]
        rw [if_pos e, if_pos hx]
        exact ⟨rt.key, rt.dep, rt.rk, v, rv, rd⟩
      · have e : ¬ nk p.1 = some k := by rw [rt.key]; simpa using hx
        rw [if_neg e, if_neg hx]
        exact rt
  · rename_i hx
    clear hx hs
    have hn : RT K H μ (d, dv) (k, b, u) := ⟨hk, hd, rk, v, rv, rd⟩
    induction r with
    | nil => exact .cons hn .nil
    | cons rt t ih => exact .cons rt ih
theorem length_dtPut (kvs : List (D × D)) (d : D) (k : NestedKey) (v : D) : (dtPut kvs d k v).length ≤ kvs.length + 1 := by
  unfold dtPut
  split <;> simp
theorem paired_dk {kvs : List (Key × D)} {qs : List (Key × V)} (r : RKV K H μ kvs qs) (k : Key) : (dkGet kvs k = none ∧ valV qs k = none) ∨ ∃ d v, dkGet kvs k = some d ∧ valV qs k = some v ∧ RD K H μ d v := by
  unfold RKV at r
  induction r with
  | nil => exact .inl ⟨rfl, rfl⟩
  | @cons p x ps ys rt t ih =>
    by_cases hk : x.1 = k
    · exact .inr ⟨p.2, x.2, by simp [dkGet, rt.1, hk], by simp [valV, hk], rt.2⟩
    · have h1 : dkGet (p :: ps) k = dkGet ps k := by simp [dkGet, rt.1, hk]
      have h2 : valV (x :: ys) k = valV ys k := by simp [valV, hk]
      rw [h1, h2]
      exact ih
theorem paired_dkAny {kvs : List (Key × D)} {qs : List (Key × V)} (r : RKV K H μ kvs qs) (k : Key) : (kvs.any fun kv => decide (kv.1 = k)) = qs.any fun kv => decide (kv.1 = k) := by
  unfold RKV at r
  induction r with
  | nil => rfl
  | @cons p x ps ys rt t ih => rw [List.any_cons, List.any_cons, ih, rt.1]
theorem paired_dkPut {kvs : List (Key × D)} {qs : List (Key × V)} (r : RKV K H μ kvs qs) {k : Key} {d : D} {v : V} (rd : RD K H μ d v) : RKV K H μ (dkPut kvs k d) (putK qs k v) := by
  unfold dkPut putK
  rw [paired_dkAny r k]
  unfold RKV at r ⊢
  split
  · rename_i hx
    clear hx
    induction r with
    | nil => exact .nil
    | @cons p x ps ys rt t ih =>
      refine .cons ?_ ih
      show (if p.1 = k then (p.1, d) else p).1 = (if x.1 = k then (x.1, v) else x).1 ∧ RD K H μ (if p.1 = k then (p.1, d) else p).2 (if x.1 = k then (x.1, v) else x).2
      rw [rt.1]
      split
      · exact ⟨rfl, rd⟩
      · exact rt
  · rename_i hx
    clear hx
    have hn : (fun (p : Key × D) (q : Key × V) => p.1 = q.1 ∧ RD K H μ p.2 q.2) (k, d) (k, v) := ⟨rfl, rd⟩
    induction r with
    | nil => exact .cons hn .nil
    | cons rt t ih => exact .cons rt ih
theorem length_dkPut (kvs : List (Key × D)) (k : Key) (v : D) : (dkPut kvs k v).length ≤ kvs.length + 1 := by
  unfold dkPut
  split <;> simp
theorem keyD_V {d : D} {v : V} {k : Key} (r : RD K H μ d v) (e : keyD d = some k) : v = kV k := by
  unfold keyD at e
  split at e
  · cases e; cases r; rfl
  · cases e; cases r; rfl
  · cases e
theorem tkey_V {d : D} {v : V} {k : NestedKey} (r : RD K H μ d v) (e : tkey d = some k) : ∃ a, v = .ref a ∧ nk d = some k ∧ k.depth ≤ 8 := by
  unfold tkey at e
  split at e
  · split at e
    · split at e
      · cases e
        rename_i h1 h2
        cases r with
        | tup t _ => exact ⟨_, rfl, h1, h2⟩
      · cases e
    · cases e
  · cases e
end

section
variable {X : Cx} {pins : List (Addr × Obj)} {σ : L2.St} {H : Hp} {s : Shared} {μ : Mu} {h : AH} {a : Addr}
/-- the dict with tuple keys, as the library has it -/
theorem dt_raw (I : Inv X pins σ H s) {kvs : List (D × D)} {xs : List (NestedKey × Addr × Value)} (e : H a = some (dxO a (xs.map (entryOfKey (nestedKind X.prog X.w))))) (r : Paired (RT X.K H μ) kvs xs) (nd : (xs.map (·.1)).Nodup) :
    s.heap.DictOfH (nestedKind X.prog X.w) a xs := by
  obtain ⟨⟨o, ep, ho, hc, hd⟩, _, _⟩ := I.hok a _ e
  refine ⟨o, _, ep, ho, hc, hd, by simp, fun x hx => ?_, nd⟩
  obtain ⟨i, hi⟩ := List.mem_iff_getElem?.mp hx
  have : ∀ {kvs : List (D × D)} {xs : List (NestedKey × Addr × Value)}, Paired (RT X.K H μ) kvs xs → ∀ x ∈ xs, ∃ p, RT X.K H μ p x := by
    intro kvs xs r
    induction r with
    | nil => intro x hx; cases hx
    | cons rt t ih =>
      intro x hx
      rcases List.mem_cons.mp hx with rfl | hx
      · exact ⟨_, rt⟩
      · exact ih x hx
  obtain ⟨p, rt⟩ := this r x hx
  exact ⟨RD.nested I _ _ _ _ rt.rk rfl rt.key, rt.dep⟩
theorem key_is (I : Inv X pins σ H s) {d : D} {k : NestedKey} {b : Addr} (r : RD X.K H μ d (.ref b)) (e : nk d = some k) (hd : k.depth ≤ 8) : (nestedKind X.prog X.w).is s.heap k b := ⟨RD.nested I _ _ _ _ r rfl e, hd⟩

/-! ### in -/
def dIn (neg : Bool) : F2 := fun x y h => match objAt h y with
  | some (.dt kvs) => match tkey x with
    | some k => some (.bl (neg != (dtGet kvs k).isSome), h)
    | none => none
  | some (.dk kvs) => match keyD x with
    | some k => some (.bl (neg != (dkGet kvs k).isSome), h)
    | none => none
  | _ => dInS neg x y h
theorem objAt_ok {P : Program} {w : World} {K : PySem.W.Frag} {d : D} {v : V} {o : O} (rh : RelH P w K H μ h) (r : RD K H μ d v) (e : objAt h d = some o) : ∃ n b, d = .ref n ∧ μ.l[n]? = some b ∧ v = .ref b ∧ Q.RelO P w K H μ o b := by
  unfold objAt at e
  split at e
  · cases r with
    | ref hm => exact ⟨_, _, rfl, hm, rfl, rh.obj _ _ _ e hm⟩
  · cases e
theorem opd_in (hu : X.A.units + 64 < cLine) : OpD X (compareOp .In) (dIn false) := fun pins s σ H v u v' u' Q I rv ru ⟨x, y, μ, h, rh, rx, ry, q⟩ => by
  unfold dIn at q
  split at q
  · rename_i kvs eo
    split at q
    · rename_i k ek
      obtain ⟨n, b, rfl, hm, rfl, ro⟩ := objAt_ok rh ry eo
      obtain ⟨a, rfl, e1, e2⟩ := tkey_V rx ek
      cases rv; cases ru
      cases ro with
      | dt he hz hl hp hn =>
        refine wpAny_in_heap (show (nestedKind X.prog X.w).room X.A.in1 from ?_) (key_is I rx e1 e2) hz (dt_raw I he hp hn) ?_
        · show X.A.units + 1 + 8 < cLine
          omega
        · refine ⟨.bl _, H, I.tok _, rfl, ?_⟩
          rw [Bool.false_bne] at q
          rcases paired_dt hp k with ⟨z1, z2⟩ | ⟨_, _, _, _, z1, z2, _⟩
          · rw [z1] at q; rw [z2]; exact q.now rfl rh (.bl _)
          · rw [z1] at q; rw [z2]; exact q.now rfl rh (.bl _)
    · exact q.elim
  · rename_i kvs eo
    split at q
    · rename_i k ek
      obtain ⟨n, b, rfl, hm, rfl, ro⟩ := objAt_ok rh ry eo
      have ev := keyD_V rx ek
      cases ru
      cases ro with
      | dk he hp =>
        refine d_in (by omega) I (.inl ⟨_, k, .inl he, ev, rfl⟩) rv fun s' I' => ⟨.bl _, H, I', rfl, ?_⟩
        rw [Bool.false_bne] at q
        rcases paired_dk hp k with ⟨z1, z2⟩ | ⟨_, _, z1, z2, _⟩
        · rw [z1] at q; rw [z2]; exact q.now rfl rh (.bl _)
        · rw [z1] at q; rw [z2]; exact q.now rfl rh (.bl _)
    · exact q.elim
  · exact opd_inS hu pins s σ H v u v' u' Q I rv ru ⟨x, y, μ, h, rh, rx, ry, q⟩
theorem opd_notIn (hu : X.A.units + 64 < cLine) : OpD X (compareOp .NotIn) (dIn true) := fun pins s σ H v u v' u' Q I rv ru ⟨x, y, μ, h, rh, rx, ry, q⟩ => by
  unfold dIn at q
  split at q
  · rename_i kvs eo
    split at q
    · rename_i k ek
      obtain ⟨n, b, rfl, hm, rfl, ro⟩ := objAt_ok rh ry eo
      obtain ⟨a, rfl, e1, e2⟩ := tkey_V rx ek
      cases rv; cases ru
      cases ro with
      | dt he hz hl hp hn =>
        refine wpAny_notIn_heap (show (nestedKind X.prog X.w).room X.A.in1 from ?_) (key_is I rx e1 e2) hz (dt_raw I he hp hn) ?_
        · show X.A.units + 1 + 8 < cLine
          omega
        · refine ⟨.bl _, H, I.tok _, rfl, ?_⟩
          rw [Bool.true_bne] at q
          rcases paired_dt hp k with ⟨z1, z2⟩ | ⟨_, _, _, _, z1, z2, _⟩
          · rw [z1] at q; rw [z2]; exact q.now rfl rh (.bl _)
          · rw [z1] at q; rw [z2]; exact q.now rfl rh (.bl _)
    · exact q.elim
  · rename_i kvs eo
    split at q
    · rename_i k ek
      obtain ⟨n, b, rfl, hm, rfl, ro⟩ := objAt_ok rh ry eo
      have ev := keyD_V rx ek
      cases ru
      cases ro with
      | dk he hp =>
        refine d_notIn (by omega) I (.inl ⟨_, k, .inl he, ev, rfl⟩) rv fun s' I' => ⟨.bl _, H, I', rfl, ?_⟩
        rw [Bool.true_bne] at q
        rcases paired_dk hp k with ⟨z1, z2⟩ | ⟨_, _, z1, z2, _⟩
        · rw [z1] at q; rw [z2]; exact q.now rfl rh (.bl _)
        · rw [z1] at q; rw [z2]; exact q.now rfl rh (.bl _)
    · exact q.elim
  · exact opd_notInS hu pins s σ H v u v' u' Q I rv ru ⟨x, y, μ, h, rh, rx, ry, q⟩

/-! ### subscripts -/
def dIx : F2 := fun x y h => match objAt h x with
  | some (.dt kvs) => match tkey y with
    | some k => (dtGet kvs k).map fun d => (d, h)
    | none => none
  | some (.dk kvs) => match keyD y with
    | some k => (dkGet kvs k).map fun d => (d, h)
    | none => none
  | _ => match x, y with
    | .str a, .int i => if a.length ≤ 16777216 then (atI a.cps.toList i).map fun c => (.str ⟨#[c]⟩, h) else none
    | x, .int i => match ssq h x with
      | some ds => (atI ds i).map fun d => (d, h)
      | none => none
    | _, _ => none
theorem RDs.atI {K : PySem.W.Frag} {ds : List D} {xs : List V} {i : Int} {d : D} (r : RDs K H μ ds xs) (e : L2.atI ds i = some d) : ∃ v, L2.atI xs i = some v ∧ RD K H μ d v := by
  unfold L2.atI at e ⊢
  rw [r.length]
  cases hi : ixN ds.length i with
  | none => rw [hi] at e; cases e
  | some j =>
    rw [hi] at e
    obtain ⟨v, e1, r1⟩ := r.get e
    exact ⟨v, e1, r1⟩
/-- an IxR by values -/
def IxD (X : Cx) (f : F2) : Prop := IxR X (rOf X f)
theorem ixd (hu : X.A.units + 64 < cLine) : IxD X dIx := fun value slice pins s σ H v u v' u' Q I rv ru ⟨x, y, μ, h, rh, rx, ry, q⟩ hs => by
  unfold dIx at q
  split at q
  · rename_i kvs eo
    split at q
    · rename_i k ek
      obtain ⟨n, b, rfl, hm, rfl, ro⟩ := objAt_ok rh rx eo
      obtain ⟨a, rfl, e1, e2⟩ := tkey_V ry ek
      cases rv; cases ru
      cases ro with
      | dt he hz hl hp hn =>
        have hD := dt_raw I he hp hn
        rcases paired_dt hp k with ⟨z1, z2⟩ | ⟨d, b', u, v, z1, z2, z3, z4⟩
        · rw [z1] at q; exact q.elim
        · refine tail_any hD.typeIs PySem.F.slot_dict_getitem.lookup (wpAny_getItem_heap (show (nestedKind X.prog X.w).room X.A.in1 from ?_) (key_is I ry e1 e2) hD z2 ?_) hs
          · show X.A.units + 1 + 8 < cLine
            omega
          · rw [z1] at q
            exact ⟨v, H, I.tok _, z3, q.now rfl rh z4⟩
    · exact q.elim
  · rename_i kvs eo
    split at q
    · rename_i k ek
      obtain ⟨n, b, rfl, hm, rfl, ro⟩ := objAt_ok rh rx eo
      have ev := keyD_V ry ek
      cases rv
      cases ro with
      | dk he hp =>
        rcases paired_dk hp k with ⟨z1, z2⟩ | ⟨d, v, z1, z2, z3⟩
        · rw [z1] at q; exact q.elim
        · rw [z1] at q
          have g : DGet H b u (some v) := .inl ⟨_, k, .inl he, ev, z2.symm⟩
          exact tail_any (dict_typeIs I g) PySem.F.slot_dict_getitem.lookup (d_getItem (by omega) I g ru fun w' s' I' rw' => ⟨v, H, I', rw', q.now rfl rh z3⟩) hs
    · exact q.elim
  · split at q
    · split at q
      · rename_i a i _ _ hl
        cases rx; cases ry
        cases hc : atI a.cps.toList i with
        | none => rw [hc] at q; exact q.elim
        | some c =>
          rw [hc] at q
          exact ix_str value slice pins s σ H _ _ _ _ Q I rv ru ⟨_, _, c, rfl, rfl, by rw [sizeLine_eq]; exact hl, hc, q.now rfl rh (.str _)⟩ hs
      · exact q.elim
    · split at q
      · rename_i i _ _ ds hq
        cases ry
        cases hc : atI ds i with
        | none => rw [hc] at q; exact q.elim
        | some d =>
          rw [hc] at q
          obtain ⟨p, xs, rfl, hq2, rr⟩ := ssq_ok rh rx hq
          obtain ⟨z, e1, r1⟩ := rr.atI hc
          rcases hq2 with hq2 | hq2
          · exact ix_list value slice pins s σ H _ _ _ _ Q I rv ru ⟨_, _, _, z, rfl, rfl, hq2, e1, q.now rfl rh r1⟩ hs
          · exact ix_tup value slice pins s σ H _ _ _ _ Q I rv ru ⟨_, _, _, z, rfl, rfl, hq2, e1, q.now rfl rh r1⟩ hs
      · exact q.elim
    · exact q.elim

/-! ### x[y] = z -/
def rSet (X : Cx) (f : D → D → D → AH → Option AH) : TSet := fun o i v H Q => ∃ (x y z : D) (μ : Mu) (h : AH), RelH X.prog X.w X.K H μ h ∧ RD X.K H μ x o ∧ RD X.K H μ y i ∧ RD X.K H μ z v ∧
  ∃ h', f x y z h = some h' ∧ ∀ (H' : Hp) (μ' : Mu), Stp μ μ' H H' → RelH X.prog X.w X.K H' μ' h' → Q H'
def SetD (X : Cx) (f : D → D → D → AH → Option AH) : Prop := PSet X (rSet X f)
def dSet (x y z : D) (h : AH) : Option AH := match x with
  | .ref n => match h[n]? with
    | some (.dt kvs) => match tkey y with
      | some k => if kvs.length < 16777216 then some (h.set n (.dt (dtPut kvs y k z))) else none
      | none => none
    | some (.dk kvs) => match keyD y with
      | some k => if kvs.length < 16777216 then some (h.set n (.dk (dkPut kvs k z))) else none
      | none => none
    | some (.lst ds) => match y with
      | .int i => match ixN ds.length i with
        | some j => some (h.set n (.lst (ds.set j z)))
        | none => none
      | _ => none
    | _ => none
  | _ => none
theorem setd (hu : X.A.units + 64 < cLine) : SetD X dSet := fun pins s σ H o i v ov iv u Q I ro ri rv ⟨x, y, z, μ, h, rh, rx, ry, rz, h', e, q⟩ => by
  unfold dSet at e
  split at e
  · rename_i n
    cases rx with
    | @ref _ a hm =>
      split at e
      · rename_i kvs eh
        split at e
        · rename_i k ek
          split at e
          · rename_i hl
            cases e
            obtain ⟨b, rfl, e1, e2⟩ := tkey_V ry ek
            cases ro; cases ri
            cases rh.obj _ _ _ eh hm with
            | @dt _ _ xs he hz hl2 hp hn =>
              have hD := dt_raw I he hp hn
              have hz2 := Paired.length hp
              refine wpAny_setItem_heap (hsz := by rw [sizeLine_eq]; omega) (show (nestedKind X.prog X.w).room X.A.in1 from ?_) (key_is I ry e1 e2) hD fun h2 dd' hs => ?_
              · show X.A.units + 1 + 8 < cLine
                omega
              · obtain ⟨q', es, ep, hq, h2', h3, h4, _, h5⟩ := dd'
                have I' := d_write (t' := s.toks + (nestedKind X.prog X.w).draws k) (ob := dxO a ((storedH xs k b u).map (entryOfKey (nestedKind X.prog X.w)))) I (by rw [he]; exact True.intro) hs ⟨q', hq⟩
                  ⟨⟨q', ep, hq, h2', by rw [h3, ← h4]⟩, ⟨q', hq⟩, fun g1 g2 ⟨p, ep, hp, z1, z2⟩ st => ⟨p, ep, st p hp, z1, z2⟩⟩
                refine ⟨_, I', q _ μ (Stp.wrote rh hm) (rh.wrote hm (.dt upd_same hz ?_ (paired_mono (fun _ _ z => z.stp (Stp.wrote rh hm)) (paired_put hp e1 e2 ry rv rz)) h5))⟩
                rw [sizeLine_eq]
                exact Nat.le_trans (length_dtPut _ _ _ _) hl
          · cases e
        · cases e
      · rename_i kvs eh
        split at e
        · rename_i k ek
          split at e
          · rename_i hl
            cases e
            have ev := keyD_V ry ek
            cases ro
            cases rh.obj _ _ _ eh hm with
            | dk he hp =>
              have hz2 := Paired.length hp
              refine d_setItem (H' := upd H a (.dK (putK _ k v))) (by omega) I (.inl ⟨_, k, he, ev, by rw [sizeLine_eq]; omega, rfl⟩) ri rv fun s' I' => ⟨_, I', q _ μ (Stp.wrote rh hm) (rh.wrote hm (.dk upd_same (RKV.stp (Stp.wrote rh hm) (paired_dkPut hp rz))))⟩
          · cases e
        · cases e
      · rename_i ds eh
        split at e
        · split at e
          · rename_i i j hj
            cases e
            cases ry
            cases rh.obj _ _ _ eh hm with
            | lst he hp =>
              exact set_list pins s σ H _ _ _ ov iv u Q I ro ri rv ⟨a, _, _, j, rfl, rfl, he, by rw [hp.length]; exact hj, q _ μ (Stp.wrote rh hm) (rh.wrote hm (.lst upd_same (RDs.stp (Stp.wrote rh hm) (hp.set rz j))))⟩
          · cases e
        · cases e
      · cases e
  · cases e

/-! ### {} -/
/-- {} whose keys will be tuples -/
def eNewT : M := fun σ h => .ok (.ref h.length) (h ++ [.dt []])
def tNewT : TE := fun _ H Q => ∀ p, H p = none → (p == sysModules) = false → Q (.ref p) (upd H p (dxO p []))
theorem pe_newT {pos : Pos} : PE X (.Dict [] [] pos) tNewT := ⟨fun pins s σ H Q I h =>
  wpAny_Dict_empty ⟨.ref s.heap.objs.size, _, I.laid (a := s.heap.objs.size) (o := dxO s.heap.objs.size []) (t' := s.toks) (fun _ _ q => Heap.get?_push_of_some _ q) (Nat.le_refl _)
    ⟨⟨_, 0, Heap.get?_push_size _ rfl, ⟨rfl, rfl, rfl⟩, rfl⟩, ⟨_, Heap.get?_push_size _ rfl⟩, fun g1 g2 ⟨p, ep, hp, z1, z2⟩ st => ⟨p, ep, st p hp, z1, z2⟩⟩, rfl,
    h _ (I.hok.fresh (Nat.le_refl _)) (beq_eq_false_iff_ne.mpr (Ne.symm (Nat.ne_of_lt I.big)))⟩⟩
theorem q_newT {W : WX} {pos : Pos} : QE X W eNewT (.Dict [] [] pos) := QE.of pe_newT fun τ H Q ⟨σ, h, μ, rs, rh, q⟩ p hp hz => by
  refine q _ _ (μ.push p) (Stp.more hp) (rh.more hp (.dt (xs := []) upd_same hz (Nat.zero_le _) .nil List.nodup_nil)) ?_
  rw [← rh.len]
  exact RD.last
def eNewK : M := fun σ h => .ok (.ref h.length) (h ++ [.dk []])
theorem q_newK {W : WX} {pos : Pos} : QE X W eNewK (.Dict [] [] pos) := QE.of pe_dnewK fun τ H Q ⟨σ, h, μ, rs, rh, q⟩ p hp => by
  refine q _ _ (μ.push p) (Stp.more hp) (rh.more hp (.dk (qs := []) upd_same .nil)) ?_
  rw [← rh.len]
  exact RD.last

/-! ### slices -/
def cutD (ds : List D) (lo hi : Option Int) : List D := (ds.drop (HT.sIx ds.length 0 lo)).take (HT.sIx ds.length ds.length hi - HT.sIx ds.length 0 lo)
theorem RDs.cut {K : PySem.W.Frag} {ds : List D} {xs : List V} (lo hi : Option Int) (r : RDs K H μ ds xs) : RDs K H μ (cutD ds lo hi) (cutV xs lo hi) := by
  unfold cutD cutV
  rw [r.length]
  exact (r.drop _).take _
abbrev FS := D → Option Int → Option Int → AH → Opt
def dSl : FS := fun x lo hi h => match x with
  | .str a => if a.length ≤ 16777216 then some (.str (cutS a lo hi), h) else none
  | .tup ds => some (.tup (cutD ds lo hi), h)
  | x => match lsq h x with
    | some ds => some (.fro (cutD ds lo hi), h)
    | none => none
/-- a list's slice as a changing list -/
def dSlR : FS := fun x lo hi h => match lsq h x with
  | some ds => some (.ref h.length, h ++ [.lst (cutD ds lo hi)])
  | none => none
def rSl (X : Cx) (f : FS) : V → Option Int → Option Int → Hp → VK → Prop := fun v lo hi H Q => ∃ (x : D) (μ : Mu) (h : AH), RelH X.prog X.w X.K H μ h ∧ RD X.K H μ x v ∧ PO2 X H μ Q (f x lo hi h)
def SlD (X : Cx) (f : FS) : Prop := SlR X (rSl X f)
theorem sld : SlD X dSl := fun pins s σ H v u vl vu lo hi sl Q I rv hsl hl hh ⟨x, μ, h, rh, rx, q⟩ => by
  unfold dSl at q
  split at q
  · split at q
    · rename_i a hl2
      cases rx
      exact sl_str pins s σ H _ u vl vu lo hi sl Q I rv hsl hl hh ⟨_, rfl, by rw [sizeLine_eq]; exact hl2, q.now rfl rh (.str _)⟩
    · exact q.elim
  · rename_i ds
    cases rx with
    | tup t rr =>
      refine sl_tupA pins s σ H _ u vl vu lo hi sl Q I rv hsl hl hh ⟨_, _, rfl, t.sq, fun ⟨c1, c2⟩ => ?_, fun _ => q.tup rh (rr.cut lo hi)⟩
      have e : cutD ds lo hi = ds := by
        unfold cutD
        rw [rr.length] at c1 c2
        rw [c1, c2, List.drop_zero, Nat.sub_zero, List.take_length]
      rw [e] at q
      exact q.now rfl rh (.tup t rr)
  · split at q
    · rename_i ds hq
      obtain ⟨p, xs, rfl, hs, rr⟩ := lsq_ok rh rx hq
      exact sl_list pins s σ H _ u vl vu lo hi sl Q I rv hsl hl hh ⟨p, xs, rfl, hs, q.fro rh (rr.cut lo hi)⟩
    · exact q.elim
theorem sldR : SlD X dSlR := fun pins s σ H v u vl vu lo hi sl Q I rv hsl hl hh ⟨x, μ, h, rh, rx, q⟩ => by
  unfold dSlR at q
  split at q
  · rename_i ds hq
    obtain ⟨p, xs, rfl, hs, rr⟩ := lsq_ok rh rx hq
    exact sl_list pins s σ H _ u vl vu lo hi sl Q I rv hsl hl hh ⟨p, xs, rfl, hs, q.list rh (rr.cut lo hi)⟩
  · exact q.elim
/-- a part of a slice -/
abbrev MO := AS → AH → Res (Option Int)
def rP : Hp → Mu → Option Int → Option Int → Prop := fun _ _ a b => a = b
def QO (X : Cx) (W : WX) (m : MO) (e : Option Expr) : Prop := PO X e (tG X W rP m)
def oNil : MO := fun _ h => .ok none h
def oSome (m : M) : MO := fun σ h => (m σ h).bind fun d h1 => match d with
  | .int i => .ok (some i) h1
  | _ => .stuck
theorem PO.of' {e : Option Expr} {t t' : TO} (h : PO X e t) (i : ∀ σ H Q, t' σ H Q → t σ H Q) : PO X e t' := ⟨fun pins s σ H Q I q => h.run pins s σ H Q I (i _ _ _ q)⟩
theorem qo_nil {W : WX} : QO X W oNil none := PO.of' po_none fun τ H Q ⟨σ, h, μ, rs, rh, q⟩ => q.now rh rfl
theorem qo_some {W : WX} {m : M} {e : Expr} (hm : QE X W m e) : QO X W (oSome m) (some e) := PO.of' (po_some hm) fun τ H Q ⟨σ, h, μ, rs, rh, q⟩ =>
  go rs rh q fun d h1 v H1 μ1 s1 rs1 rh1 rd q1 => by
    split at q1
    · cases rd
      exact ⟨_, rfl, q1.now rh1 rfl⟩
    · exact q1.elim
def eSl (f : FS) (a : M) (lo hi : MO) : M := fun σ h => (a σ h).bind fun x h1 => (lo σ h1).bind fun i h2 => (hi σ h2).bind fun j h3 => lif (f x i j h3)
theorem q_sl {W : WX} {f : FS} {a : M} {lo hi : MO} {e : Expr} {elo ehi : Option Expr} {p2 pos : Pos} (hf : SlD X f) (ha : QE X W a e) (hlo : QO X W lo elo) (hhi : QO X W hi ehi) : QE X W (eSl f a lo hi) (.Subscript e (.Slice elo ehi none p2) pos) :=
  QE.of (pe_slice hf ha hlo hhi) fun τ H Q ⟨σ, h, μ, rs, rh, q⟩ => go rs rh q fun x h1 v H1 μ1 s1 rs1 rh1 rx q1 => go rs1 rh1 q1 fun i h2 i' H2 μ2 s2 rs2 rh2 ri q2 => go rs2 rh2 q2 fun j h3 j' H3 μ3 s3 rs3 rh3 rj q3 => by
    cases (show i = i' from ri)
    cases (show j = j' from rj)
    exact ⟨x, μ3, h3, rh3, (rx.stp s2).stp s3, .of q3⟩
/-- a[b] -/
theorem q_ix {W : WX} {f : F2} {a b : M} {ea eb : Expr} {pos : Pos} (hf : IxD X f) (ha : QE X W a ea) (hb : QE X W b eb) (hs : PlainIx eb := by intro _ _; rfl) : QE X W (eOp f a b) (.Subscript ea eb pos) := QE.of (pe_ix hf ha hb hs) two
end
end Q

/-! Q6: calls of built-ins, methods. -/
namespace Q
open PySem PySem.Spec PyProof.Rows L2

abbrev FC := List D → AH → Opt
section
variable {X : Cx} {W : WX} {pins : List (Addr × Obj)} {σ : L2.St} {H : Hp} {s : Shared} {μ : Mu} {h : AH}
def rCall (X : Cx) (g : FC) : List V → Hp → VK → Prop := fun vs H Q => ∃ (ds : List D) (μ : Mu) (h : AH), RelH X.prog X.w X.K H μ h ∧ RDs X.K H μ ds vs ∧ PO2 X H μ Q (g ds h)
def CallD (X : Cx) (f : Value) (g : FC) : Prop := CallR X f (rCall X g)
theorem CallD.of {f : Value} {r : List V → Hp → VK → Prop} {g : FC} (ho : CallR X f r) (hi : ∀ vs H Q, rCall X g vs H Q → r vs H Q) : CallD X f g := fun pins s σ H xs us Q I rs q => ho pins s σ H xs us Q I rs (hi xs H Q q)
def eCall (g : FC) (r : ML) : M := fun σ h => (r σ h).bind fun ds h1 => lif (g ds h1)
theorem call_go {g : FC} {r : ML} : ∀ τ H Q, tE X W (eCall g r) τ H Q → tCB (rCall X g) (tL X W r) τ H Q := fun τ H Q ⟨σ, h, μ, rs, rh, q⟩ =>
  go rs rh q fun ds h1 vs H1 μ1 s1 rs1 rh1 rds q1 => ⟨ds, μ1, h1, rh1, rds, .of q1⟩
theorem q_bltn {g : FC} {r : ML} {id : String} {x : Str} {e : Expr} {es : List Expr} {p pos : Pos} (hc : CallD X (.builtin id) g) (hg : Gl X x) (hm : X.mg x = none) (hv : bootBuiltins x = some (.builtin id)) (ha : QA X W r (e :: es)) (hn : x ≠ "__name__" := by decide) (hdb : (x == ("__debug__" : Str)) = false := by decide)
    (he : starEach (e :: es) X.env = (false, eval e X.env) :: starEach es X.env := by rfl) (hpl : (backTo pos (starEach es X.env)).any (·.1) = false := by rfl) : QE X W (eCall g r) (.Call (.Name x p) (e :: es) [] pos) :=
  QE.of (pe_callB hc hg hm hv ha hn hdb he hpl) call_go
theorem q_btyp {g : FC} {r : ML} {T : String} {x : Str} {e : Expr} {es : List Expr} {p pos : Pos} (hc : CallD X (.type T) g) (hg : Gl X x) (hm : X.mg x = none) (hv : bootBuiltins x = some (.type T)) (ha : QA X W r (e :: es)) (hn : x ≠ "__name__" := by decide) (hdb : (x == ("__debug__" : Str)) = false := by decide)
    (he : starEach (e :: es) X.env = (false, eval e X.env) :: starEach es X.env := by rfl) (hpl : (backTo pos (starEach es X.env)).any (·.1) = false := by rfl) : QE X W (eCall g r) (.Call (.Name x p) (e :: es) [] pos) :=
  QE.of (pe_callTy hc hg hm hv ha hn hdb he hpl) call_go

/-! ### len, abs, int -/
def gLen : FC := fun ds h => match ds with
  | [x] => match x with
    | .str a => if a.length ≤ 16777216 then some (.int a.length, h) else none
    | x => match objAt h x with
      | some (.dk kvs) => some (.int kvs.length, h)
      | _ => match ssq h x with
        | some es => some (.int es.length, h)
        | none => none
  | _ => none
theorem cd_len : CallD X (.builtin "len") gLen := fun pins s σ H vs us Q I rv ⟨ds, μ, h, rh, rds, q⟩ => by
  unfold gLen at q
  split at q
  · obtain ⟨v, rfl, rx⟩ := rds.one
    split at q
    · split at q
      · rename_i hl
        cases rx
        exact call_len pins s σ H _ us Q I rv ⟨_, _, rfl, ⟨by rw [sizeLine_eq]; exact hl, rfl⟩, q.now rfl rh (.int _)⟩
      · exact q.elim
    · split at q
      · rename_i kvs eo
        obtain ⟨n, b, rfl, hm, rfl, ro⟩ := objAt_ok rh rx eo
        cases ro with
        | dk he hp =>
          refine call_lenD pins s σ H _ us Q I rv ⟨_, _, rfl, he, ?_⟩
          rw [← Paired.length hp]
          exact q.now rfl rh (.int _)
      · split at q
        · rename_i es hq
          obtain ⟨p, xs, rfl, hq2, rr⟩ := ssq_ok rh rx hq
          refine call_len pins s σ H _ us Q I rv ⟨_, es.length, rfl, ?_, q.now rfl rh (.int _)⟩
          rcases hq2 with hq2 | hq2
          · exact .inl ⟨xs, hq2, rr.length.symm⟩
          · exact .inr ⟨xs, hq2, rr.length.symm⟩
        · exact q.elim
  · exact q.elim
def gAbs : FC := fun ds h => match ds with
  | [.int i] => some (.int (if i < 0 then -i else i), h)
  | _ => none
theorem cd_abs : CallD X (.builtin "abs") gAbs := .of call_abs fun vs H Q ⟨ds, μ, h, rh, rds, q⟩ => by
  unfold gAbs at q
  split at q
  · obtain ⟨v, rfl, rx⟩ := rds.one
    cases rx
    exact ⟨_, rfl, q.now rfl rh (.int _)⟩
  · exact q.elim
def gInt : FC := fun ds h => match ds with
  | [.int i] => some (.int i, h)
  | [.bl k] => some (.int (if k then 1 else 0), h)
  | _ => none
theorem cd_int : CallD X (.type "int") gInt := .of call_int1 fun vs H Q ⟨ds, μ, h, rh, rds, q⟩ => by
  unfold gInt at q
  split at q
  · obtain ⟨v, rfl, rx⟩ := rds.one
    cases rx
    exact .inl ⟨_, rfl, q.now rfl rh (.int _)⟩
  · obtain ⟨v, rfl, rx⟩ := rds.one
    cases rx
    exact .inr ⟨_, rfl, q.now rfl rh (.int _)⟩
  · exact q.elim
/-! ### list, tuple -/
theorem ks_items {K : PySem.W.Frag} {P : Program} {w : World} {kvs : List (D × D)} {xs : List (NestedKey × Addr × Value)} (r : Paired (RT K H μ) kvs xs) : ∀ (vs : List Value), vs.length = xs.length → (∀ (j : Nat) (v : Value), vs[j]? = some v → ∃ x, xs[j]? = some x ∧ v = .ref x.2.1) →
    ∃ ys, Vals ys vs ∧ RDs K H μ (kvs.map (·.1)) ys := by
  induction r with
  | nil =>
    intro vs hl _
    cases vs with
    | nil => exact ⟨[], .nil, .nil⟩
    | cons _ _ => cases hl
  | @cons p x ps ys rt t ih =>
    intro vs hl hv
    cases vs with
    | nil => cases hl
    | cons v vs =>
      obtain ⟨x', e, rfl⟩ := hv 0 v rfl
      cases e
      obtain ⟨zs, r1, r2⟩ := ih vs (by simpa using hl) fun j v e => hv (j + 1) v (by simpa using e)
      exact ⟨.ref x.2.1 :: zs, .cons rfl r1, .cons rt.rk r2⟩
theorem list_keys (I : Inv X pins σ H s) (hc : X.calm = true) {Q : VK} {a : Addr} {kvs : List (D × D)} (rh : RelH X.prog X.w X.K H μ h) (ro : _root_.Q.RelO X.prog X.w X.K H μ (.dt kvs) a)
    (q : ∀ (ys : List V), RDs X.K H μ (kvs.map (·.1)) ys → ∀ p, H p = none → Q (.ref p) (upd H p (.lst ys))) : wpAny (model X.prog X.w) X.A (call (.type "list") [.ref a]) (EP X pins σ Q) X.xe s := by
  cases ro with
  | @dt _ _ xs he hz hl hp hn =>
    obtain ⟨⟨o, ep, ho, hcl, hd⟩, _, _⟩ := I.hok a _ he
    have hlen := Paired.length hp
    have hr : s.heap.DictRaw a (xs.map (entryOfKey (nestedKind X.prog X.w))).toArray ep := ⟨o, ho, hcl, hd⟩
    refine PySem.W.kdl_call (PySem.KdlSrc.rawDict (es := (xs.map (entryOfKey (nestedKind X.prog X.w))).toArray) (ep := ep) hz) (I.ok.hd hc) hr (by simp; omega) fun h' tk acc c kp e hit => ?_
    obtain ⟨h1, h2⟩ := hit
    obtain ⟨ys, r1, r2⟩ := ks_items (P := X.prog) (w := X.w) hp acc.toList (by simpa using h1) fun j v hj => by
      obtain ⟨hi, rfl⟩ := h2 j v (by simpa using hj)
      simp at hi
      exact ⟨xs[j], List.getElem?_eq_getElem hi, by simp [entryOfKey]⟩
    have hy : ys.length ≤ sizeLine := by
      have := r2.length
      simp at this
      omega
    exact ⟨.ref s.heap.objs.size, upd H s.heap.objs.size (.lst ys), I.laid (t' := tk) kp (Nat.le_refl _) ⟨hy, acc.toList, c, r1, by simpa using e⟩, rfl, q ys r2 _ (I.hok.fresh (Nat.le_refl _))⟩
/-- the items of a sequence, the keys of a dict -/
def itemsOf (h : AH) (x : D) : Option (List D) := match objAt h x with
  | some (.dt kvs) => some (kvs.map (·.1))
  | _ => ssq h x
def gListR : FC := fun ds h => match ds with
  | [x] => match itemsOf h x with
    | some es => some (.ref h.length, h ++ [.lst es])
    | none => none
  | _ => none
/-- .. as a list that stays -/
def gListF : FC := fun ds h => match ds with
  | [x] => match itemsOf h x with
    | some es => some (.fro es, h)
    | none => none
  | _ => none
theorem cd_list_any (hc : X.calm = true) {x : D} {v : V} {u : Value} {es : List D} {Q : VK} (I : Inv X pins σ H s) (rh : RelH X.prog X.w X.K H μ h) (rx : RD X.K H μ x v) (rv : RelV v u) (e : itemsOf h x = some es)
    (q : ∀ ys, RDs X.K H μ es ys → ∀ p, H p = none → Q (.ref p) (upd H p (.lst ys))) : wpAny (model X.prog X.w) X.A (call (.type "list") [u]) (EP X pins σ Q) X.xe s := by
  unfold itemsOf at e
  split at e
  · rename_i kvs eo
    cases e
    obtain ⟨n, b, rfl, hm, rfl, ro⟩ := objAt_ok rh rx eo
    cases rv
    exact list_keys I hc rh ro q
  · obtain ⟨p, xs, rfl, hq2, rr⟩ := ssq_ok rh rx e
    exact call_list_of pins s σ H _ _ Q I (.cons rv .nil) ⟨p, xs, rfl, hq2, q xs rr⟩
theorem vals_one {v : V} {us : List Value} (r : Vals [v] us) : ∃ u, us = [u] ∧ RelV v u := by
  cases r with | cons r t => cases t; exact ⟨_, rfl, r⟩
theorem cd_listR (hc : X.calm = true) : CallD X (.type "list") gListR := fun pins s σ H vs us Q I rv ⟨ds, μ, h, rh, rds, q⟩ => by
  unfold gListR at q
  split at q
  · obtain ⟨v, rfl, rx⟩ := rds.one
    obtain ⟨u, rfl, r1⟩ := vals_one rv
    split at q
    · rename_i es e
      exact cd_list_any hc I rh rx r1 e fun ys ry => q.list rh ry
    · exact q.elim
  · exact q.elim
theorem cd_listF (hc : X.calm = true) : CallD X (.type "list") gListF := fun pins s σ H vs us Q I rv ⟨ds, μ, h, rh, rds, q⟩ => by
  unfold gListF at q
  split at q
  · obtain ⟨v, rfl, rx⟩ := rds.one
    obtain ⟨u, rfl, r1⟩ := vals_one rv
    split at q
    · rename_i es e
      exact cd_list_any hc I rh rx r1 e fun ys ry => q.fro rh ry
    · exact q.elim
  · exact q.elim
def gTuple : FC := fun ds h => match ds with
  | [x] => match ssq h x with
    | some es => some (.tup es, h)
    | none => none
  | _ => none
theorem cd_tuple : CallD X (.type "tuple") gTuple := .of call_tuple_of fun vs H Q ⟨ds, μ, h, rh, rds, q⟩ => by
  unfold gTuple at q
  split at q
  · rename_i x
    obtain ⟨v, rfl, rx⟩ := rds.one
    cases x with
    | tup es' =>
      cases rx with
      | tup t rr => exact ⟨_, _, rfl, .inr ⟨t.sq, q.now rfl rh (.tup t rr)⟩⟩
    | _ =>
      split at q
      · rename_i es e
        obtain ⟨p, xs, rfl, hq, rr⟩ := lsq_ok (d := _) rh rx e
        exact ⟨p, xs, rfl, .inl ⟨hq, q.tup rh rr⟩⟩
      · exact q.elim
  · exact q.elim

/-! ### all, any, sum, max, min -/
def asBls : List D → Option (List Bool)
  | [] => some []
  | .bl b :: ds => (asBls ds).map (b :: ·)
  | _ :: _ => none
theorem asBls_eq : ∀ {ds : List D} {bs : List Bool}, asBls ds = some bs → ds = bs.map .bl
  | [], bs, e => by cases e; rfl
  | .bl b :: ds, bs, e => by
    rw [asBls] at e
    obtain ⟨cs, h, rfl⟩ := Option.map_eq_some_iff.mp e
    rw [asBls_eq h]; rfl
  | .non :: _, _, e => by cases e
  | .int _ :: _, _, e => by cases e
  | .str _ :: _, _, e => by cases e
  | .tup _ :: _, _, e => by cases e
  | .fro _ :: _, _, e => by cases e
  | .scr _ :: _, _, e => by cases e
  | .ref _ :: _, _, e => by cases e
  | .exn _ _ _ _ _ :: _, _, e => by cases e
theorem asBls_map (bs : List Bool) : asBls (bs.map .bl) = some bs := by
  induction bs with
  | nil => rfl
  | cons b bs ih => show (asBls (bs.map .bl)).map (b :: ·) = _; rw [ih]; rfl
def asInts : List D → Option (List Int)
  | [] => some []
  | .int b :: ds => (asInts ds).map (b :: ·)
  | _ :: _ => none
theorem asInts_eq : ∀ {ds : List D} {bs : List Int}, asInts ds = some bs → ds = bs.map .int
  | [], bs, e => by cases e; rfl
  | .int b :: ds, bs, e => by
    rw [asInts] at e
    obtain ⟨cs, h, rfl⟩ := Option.map_eq_some_iff.mp e
    rw [asInts_eq h]; rfl
  | .non :: _, _, e => by cases e
  | .bl _ :: _, _, e => by cases e
  | .str _ :: _, _, e => by cases e
  | .tup _ :: _, _, e => by cases e
  | .fro _ :: _, _, e => by cases e
  | .scr _ :: _, _, e => by cases e
  | .ref _ :: _, _, e => by cases e
  | .exn _ _ _ _ _ :: _, _, e => by cases e
theorem asInts_map (bs : List Int) : asInts (bs.map .int) = some bs := by
  induction bs with
  | nil => rfl
  | cons b bs ih => show (asInts (bs.map .int)).map (b :: ·) = _; rw [ih]; rfl
def gBls (f : List Bool → Bool) : FC := fun ds h => match ds with
  | [x] => match lsq h x with
    | some es => match asBls es with
      | some bs => some (.bl (f bs), h)
      | none => none
    | none => none
  | _ => none
theorem cd_bls {id : String} {f : List Bool → Bool} (ho : CallR X (.builtin id) fun vs H Q => ∃ (a : Addr) (bs : List Bool), vs = [V.ref a] ∧ SqL X.K H a (bs.map V.bl) ∧ Q (.bl (f bs)) H) : CallD X (.builtin id) (gBls f) := .of ho fun vs H Q ⟨ds, μ, h, rh, rds, q⟩ => by
  unfold gBls at q
  split at q
  · obtain ⟨v, rfl, rx⟩ := rds.one
    split at q
    · rename_i es e
      split at q
      · rename_i bs eb
        obtain ⟨p, xs, rfl, hq, rr⟩ := lsq_ok rh rx e
        rw [asBls_eq eb] at rr
        rw [rr.bls] at hq
        exact ⟨p, bs, rfl, hq, q.now rfl rh (.bl _)⟩
      · exact q.elim
    · exact q.elim
  · exact q.elim
abbrev gAll : FC := gBls fun bs => bs.all id
abbrev gAny : FC := gBls fun bs => bs.any id
theorem cd_all (hc : X.calm = true) : CallD X (.builtin "all") gAll := cd_bls (cr_all hc)
theorem cd_any (hc : X.calm = true) : CallD X (.builtin "any") gAny := cd_bls (cr_any hc)
def gSum : FC := fun ds h => match ds with
  | [x] => match lsq h x with
    | some es => match asInts es with
      | some bs => some (.int bs.sum, h)
      | none => none
    | none => none
  | _ => none
theorem cd_sum (hc : X.calm = true) : CallD X (.builtin "sum") gSum := .of (cr_sum hc) fun vs H Q ⟨ds, μ, h, rh, rds, q⟩ => by
  unfold gSum at q
  split at q
  · obtain ⟨v, rfl, rx⟩ := rds.one
    split at q
    · rename_i es e
      split at q
      · rename_i bs eb
        obtain ⟨p, xs, rfl, hq, rr⟩ := lsq_ok rh rx e
        rw [asInts_eq eb] at rr
        rw [rr.ints] at hq
        exact ⟨p, bs, rfl, hq, q.now rfl rh (.int _)⟩
      · exact q.elim
    · exact q.elim
  · exact q.elim

/-! ### sorted -/
def pdG (d : D) : PyData := (pd d).getD .none
def alikeB (ps : List PyData) : Bool := ps.all fun p => ps.all fun q => PySem.W.alike p q
def isTup1 : PyData → Bool
  | .tuple (_ :: _) => true
  | _ => false
def isPlainKey : PyData → Bool
  | .none => false
  | .tuple _ => false
  | _ => true
def sortable (ds : List D) : Bool := ds.all (fun d => (pd d).isSome) && alikeB (ds.map pdG) && ((ds.map pdG).all isTup1 || (ds.map pdG).all isPlainKey) && decide (ds.length ≤ 16777216) && ds.all fun d => decide ((pdG d).depth ≤ 60)
def leD (a b : D) : Bool := !PySem.W.dataLt (pdG b) (pdG a)
def gSortF : FC := fun ds h => match ds with
  | [x] => match lsq h x with
    | some es => if sortable es = true then some (.fro (es.mergeSort leD), h) else none
    | none => none
  | _ => none
theorem each_of {K : PySem.W.Frag} : ∀ {ds : List D} {vs : List V} {us : List Value}, RDs K H μ ds vs → Vals vs us → PySem.W.EachIs (fun u (b : D × V) => RelV b.2 u ∧ RD K H μ b.1 b.2) us (ds.zip vs)
  | [], _, _, h, r => by cases h; cases r; exact .nil
  | d :: ds, _, _, h, r => by
    cases h with
    | cons h1 h2 =>
      cases r with
      | cons r1 r2 => exact .cons ⟨r1, h1⟩ (each_of h2 r2)
theorem of_each {K : PySem.W.Frag} : ∀ {us : List Value} {bs : List (D × V)}, PySem.W.EachIs (fun u (b : D × V) => RelV b.2 u ∧ RD K H μ b.1 b.2) us bs → RDs K H μ (bs.map (·.1)) (bs.map (·.2)) ∧ Vals (bs.map (·.2)) us
  | _, _, .nil => ⟨.nil, .nil⟩
  | _, _, .cons h t => let ⟨a, b⟩ := of_each t; ⟨.cons h.2 a, .cons h.1 b⟩
theorem each_mem {α β : Type} {R R' : α → β → Prop} : ∀ {as : List α} {bs : List β}, PySem.W.EachIs R as bs → (∀ a b, b ∈ bs → R a b → R' a b) → PySem.W.EachIs R' as bs
  | _, _, .nil, _ => .nil
  | _, _, .cons h t, f => .cons (f _ _ List.mem_cons_self h) (each_mem t fun a b m => f a b (List.mem_cons_of_mem _ m))
theorem cd_sortF (hu : X.A.units + 64 < cLine) : CallD X (.builtin "sorted") gSortF := fun pins s σ H vs us Q I rv ⟨ds, μ, h, rh, rds, q⟩ => by
  unfold gSortF at q
  split at q
  · obtain ⟨v, rfl, rx⟩ := rds.one
    obtain ⟨u, rfl, r1⟩ := vals_one rv
    split at q
    · rename_i es e
      split at q
      · rename_i hs
        simp only [sortable, Bool.and_eq_true, List.all_eq_true, decide_eq_true_eq, Bool.or_eq_true] at hs
        obtain ⟨⟨⟨⟨s1, s2⟩, s3⟩, s4⟩, s5⟩ := hs
        obtain ⟨p, xs, rfl, hq, rr⟩ := lsq_ok rh rx e
        cases r1
        obtain ⟨its, rvs, pl, hz⟩ := I.list hq
        have hl := rr.length
        have hmap : (es.zip xs).map (fun b => pdG b.1) = es.map pdG := by
          rw [show (fun b : D × V => pdG b.1) = pdG ∘ Prod.fst from rfl, ← List.map_map, List.map_fst_zip (by omega)]
        have hsz : (es.zip xs).length = es.length := by rw [List.length_zip]; omega
        have hE := each_of rr rvs
        refine PySem.W.sorted_data (enc := fun b : D × V => pdG b.1) pl.isList hE (each_mem hE fun u b hb rb => ?_) ?_ ?_ (by rw [hsz, sizeLine_eq]; exact s4) (fun b hb => ?_) fun out ho hr => ?_
        · have hm : b.1 ∈ es := (List.of_mem_zip hb).1
          obtain ⟨p', hp'⟩ := Option.isSome_iff_exists.mp (s1 _ hm)
          have := (RD.reads I _ _ _ p' rb.2 rb.1 hp').1
          rw [show pdG b.1 = p' by rw [pdG, hp']; rfl]
          exact this
        · rw [hmap]
          intro d hd d' hd'
          rw [alikeB, List.all_eq_true] at s2
          exact List.all_eq_true.mp (s2 d hd) d' hd'
        · rw [hmap]
          rcases s3 with s3 | s3
          · refine .inl fun d hd => ?_
            have := s3 d hd
            unfold isTup1 at this
            split at this
            · exact ⟨_, _, rfl⟩
            · cases this
          · refine .inr fun d hd => ?_
            have := s3 d hd
            unfold isPlainKey at this
            split at this
            · cases this
            · cases this
            · rename_i h1 h2
              exact ⟨fun e => h1 e, fun xs e => h2 xs e⟩
        · have := s5 b.1 (List.of_mem_zip hb).1
          have h2 : (pdG b.1).depth ≤ 60 := this
          show X.A.units + 2 + (pdG b.1).depth < cLine
          omega
        · obtain ⟨ra, rb⟩ := of_each hr
          have hms : ((es.zip xs).mergeSort (PySem.W.dataLe false fun b : D × V => pdG b.1)).map (·.1) = es.mergeSort leD := by
            have h1 : ((es.zip xs).mergeSort (PySem.W.dataLe false fun b : D × V => pdG b.1)).map Prod.fst = ((es.zip xs).map Prod.fst).mergeSort leD :=
              List.map_mergeSort fun a _ b _ => rfl
            rw [List.map_fst_zip (by omega)] at h1
            exact h1
          rw [hms] at ra
          obtain ⟨ep, he'⟩ := PyProof.Rows.sortedAll_at s.heap its out.toArray
          have hlen : (((es.zip xs).mergeSort (PySem.W.dataLe false fun b : D × V => pdG b.1)).map (·.2)).length ≤ sizeLine := by
            rw [List.length_map, List.length_mergeSort, hsz, sizeLine_eq]; exact s4
          exact ⟨.ref _, upd H (s.heap.objs.size + 1) (.lst _), I.laid (t' := s.toks) (fun _ _ => PyProof.Rows.sortedAll_old) (Nat.le_succ _) ⟨hlen, out, ep, rb, he'⟩, rfl, q.fro rh ra _ (I.hok.fresh (Nat.le_succ _))⟩
      · exact q.elim
    · exact q.elim
  · exact q.elim
end
end Q

/-! Q7: isinstance, methods, calls of the program's own defs. -/
namespace Q
open PySem PySem.Spec PyProof.Rows L2
section
variable {X : Cx} {W : WX} {H : Hp} {μ : Mu} {h : AH}

/-! ### isinstance -/
def tyD (h : AH) : D → Option String
  | .non => some "NoneType"
  | .bl _ => some "bool"
  | .int _ => some "int"
  | .str _ => some "str"
  | .tup _ => some "tuple"
  | .fro _ => some "list"
  | .scr _ => some "list"
  | .ref n => match h[n]? with
    | some (.lst _) => some "list"
    | some (.dk _) => some "dict"
    | _ => none
  | .exn _ _ _ _ _ => none
theorem tyD_ok {P : Program} {w : World} {K : PySem.W.Frag} {d : D} {v : V} {t : String} (rh : RelH P w K H μ h) (r : RD K H μ d v) (e : tyD h d = some t) : TyX K H v (.type t) := by
  cases r with
  | non => cases e; exact .base .non
  | bl b => cases e; exact .base (.bl b)
  | int i => cases e; exact .base (.int i)
  | str s => cases e; exact .base (.str s)
  | tup ta _ =>
    cases e
    rcases ta with ⟨ta | ⟨o, ta⟩, _⟩ | ⟨o, its, n, h1, h2, _⟩
    · exact .base (.tup ta)
    · exact .fTuple ta
    · exact .kTuple h1 h2
  | fro ta _ _ => cases e; exact .base (.lst ta)
  | scr ta _ =>
    cases e
    rcases ta with ⟨ta | ⟨o, ta⟩, _⟩ | ⟨o, its, n, h1, h2, _⟩
    · exact .base (.lst ta)
    · exact .base (.frz ta)
    · exact .kList h1 h2
  | ref hm =>
    simp only [tyD] at e
    split at e
    · rename_i ds eh
      cases e
      cases rh.obj _ _ _ eh hm with
      | lst ha _ => exact .base (.lst ha)
    · rename_i ds eh
      cases e
      cases rh.obj _ _ _ eh hm with
      | dk ha _ => exact .base (.dK ha)
    · cases e
  | exn => cases e
def eIsi (T : String) (a : M) : M := fun σ h => (a σ h).bind fun x h1 => match tyD h1 x with
  | some t => match kitB t T with
    | some b => .ok (.bl b) h1
    | none => .stuck
  | none => .stuck
theorem q_isi {T : String} {a : M} {ea : Expr} {T' : Str} {p p2 pos : Pos} (hg : Gl X "isinstance") (hm : X.mg "isinstance" = none) (ha : QE X W a ea) (hgT : Gl X T') (hmT : X.mg T' = none) (hvT : bootBuiltins T' = some (.type T)) (hnT : T' ≠ "__name__" := by decide) (hdT : (T' == ("__debug__" : Str)) = false := by decide)
    (he : starEach [ea, .Name T' p2] X.env = (false, eval ea X.env) :: starEach [.Name T' p2] X.env := by rfl) (hpl : (backTo pos (starEach [Expr.Name T' p2] X.env)).any (·.1) = false := by rfl) : QE X W (eIsi T a) (.Call (.Name "isinstance" p) [ea, .Name T' p2] [] pos) :=
  QE.of (pe_callB call_isi hg hm (by decide +kernel) (pa_cons ha (pa_cons (pe_bltn (v := .ty T) hgT hmT hvT rfl hnT hdT) pa_nil) he) (by decide) (by decide) he hpl) fun τ H Q ⟨σ, h, μ, rs, rh, q⟩ =>
    go rs rh q fun d h1 v H1 μ1 s1 rs1 rh1 rd q1 => by
      split at q1
      · rename_i t et
        split at q1
        · rename_i b eb
          exact ⟨v, .ty T, _, _, b, rfl, .ty T, tyD_ok rh1 rd et, kit_ty eb, q1.now rh1 (.bl b)⟩
        · exact q1.elim
      · exact q1.elim

/-! ### methods -/
abbrev FM := D → List D → AH → Opt
def rMeth (X : Cx) (g : FM) : V → List V → Hp → VK → Prop := fun v vs H Q => ∃ (x : D) (ds : List D) (μ : Mu) (h : AH), RelH X.prog X.w X.K H μ h ∧ RD X.K H μ x v ∧ RDs X.K H μ ds vs ∧ PO2 X H μ Q (g x ds h)
def MethD (X : Cx) (id : String) (g : FM) : Prop := MtM X id (rMeth X g)
theorem MethD.of {id : String} {r : V → List V → Hp → VK → Prop} {g : FM} (ho : MtM X id r) (hi : ∀ v vs H Q, rMeth X g v vs H Q → r v vs H Q) : MethD X id g := fun pins s σ H x xs v us Q I r rs q => ho pins s σ H x xs v us Q I r rs (hi x xs H Q q)
def isT (T : String) (h : AH) : D → Bool
  | .str _ => T == "str"
  | x => T == "list" && (lsq h x).isSome
theorem isT_ok {P : Program} {w : World} {K : PySem.W.Frag} {T : String} {x : D} {v : V} (rh : RelH P w K H μ h) (r : RD K H μ x v) (e : isT T h x = true) : tyV K T v H := by
  unfold isT at e
  split at e
  · cases r; exact eq_of_beq e
  · rw [Bool.and_eq_true] at e
    obtain ⟨e1, e2⟩ := e
    obtain ⟨ds, hd⟩ := Option.isSome_iff_exists.mp e2
    obtain ⟨p, xs, rfl, hs, _⟩ := lsq_ok rh r hd
    exact .inl ⟨eq_of_beq e1, xs, hs⟩
def eMeth (T : String) (g : FM) (a : M) (r : ML) : M := fun σ h => (a σ h).bind fun x h1 => if isT T h1 x = true then (r σ h1).bind fun ds h2 => lif (g x ds h2) else .stuck
theorem q_meth {T id : String} {name : Str} {g : FM} {a : M} {r : ML} {o e : Expr} {es : List Expr} {apos cpos : Pos} (pa : PlainAttrs T) (slot : Slot T name id) (hty : typeOf (.builtin id) = pure (.type "method_descriptor")) (hm : MethD X id g) (ho : QE X W a o) (ha : QA X W r (e :: es))
    (hbase : attributeBase o name X.env (eval o X.env) = eval o X.env := by rfl)
    (hfew : ((backTo cpos (starEach (e :: es) X.env)).all (fun x => !x.1) && (backToKw cpos (keywordEach [] X.env)).all (fun x => x.1.isSome)
      && decide ((e :: es).length + ([] : List Keyword).length + (if ([] : List Keyword).isEmpty then 0 else 1) < 30)) = true := by rfl)
    (hline : (apos.endLine == cpos.line) = true := by rfl) (hs : starEach (e :: es) X.env = (false, eval e X.env) :: starEach es X.env := by rfl) (hplain : (backTo cpos (starEach es X.env)).any (·.1) = false := by rfl) :
    QE X W (eMeth T g a r) (.Call (.Attribute o name apos) (e :: es) [] cpos) :=
  QE.of (pe_bm pa slot hty hm ho ha hbase hfew hline hs hplain) fun τ H Q ⟨σ, h, μ, rs, rh, q⟩ => go rs rh q fun x h1 v H1 μ1 s1 rs1 rh1 rx q1 => by
    split at q1
    · rename_i ht
      exact ⟨isT_ok rh1 rx ht, go rs1 rh1 q1 fun ds h2 vs H2 μ2 s2 rs2 rh2 rds q2 => ⟨x, ds, μ2, h2, rh2, rx.stp s2, rds, .of q2⟩⟩
    · exact q1.elim
theorem q_meth0 {T id : String} {name : Str} {g : FM} {a : M} {o : Expr} {apos cpos : Pos} (pa : PlainAttrs T) (slot : Slot T name id) (hty : typeOf (.builtin id) = pure (.type "method_descriptor")) (hm : MethD X id g) (ho : QE X W a o)
    (hbase : attributeBase o name X.env (eval o X.env) = eval o X.env := by rfl) (hline : (apos.endLine == cpos.line) = true := by rfl) : QE X W (eMeth T g a aNil) (.Call (.Attribute o name apos) [] [] cpos) :=
  QE.of (pe_bm0 pa slot hty hm ho hbase hline) fun τ H Q ⟨σ, h, μ, rs, rh, q⟩ => go rs rh q fun x h1 v H1 μ1 s1 rs1 rh1 rx q1 => by
    split at q1
    · rename_i ht
      exact ⟨isT_ok rh1 rx ht, x, [], μ1, h1, rh1, rx, .nil, .of q1⟩
    · exact q1.elim
def listAt (h : AH) (n : Nat) : Option (List D) := match h[n]? with
  | some (.lst ds) => some ds
  | _ => none
theorem listAt_some {n : Nat} {ds : List D} (e : listAt h n = some ds) : h[n]? = some (.lst ds) := by
  unfold listAt at e
  split at e
  · cases e; assumption
  · cases e
theorem PO2.wrote {X : Cx} {H : Hp} {μ : Mu} {h : AH} {Q : VK} {n : Nat} {a : Addr} {ds : List D} {xs : List V} {z : D} {v : V} (q : PO2 X H μ Q (some (z, h.set n (.lst ds)))) (rh : RelH X.prog X.w X.K H μ h) (hm : μ.l[n]? = some a) (r : RDs X.K H μ ds xs) (rz : RD X.K H μ z v) : Q v (upd H a (.lst xs)) := by
  obtain ⟨z', h', e, q⟩ := q
  cases e
  have st := Stp.wrote (u := .lst xs) rh hm
  exact q _ _ μ st (rh.wrote hm (.lst upd_same (r.stp st))) (rz.stp st)
def mAppend : FM := fun x ds h => match x, ds with
  | .ref n, [d] => match listAt h n with
    | some es => if es.length < 16777216 then some (.non, h.set n (.lst (es ++ [d]))) else none
    | none => none
  | _, _ => none
theorem md_append : MethD X "list.append" mAppend := .of mt_append fun v vs H Q ⟨x, ds, μ, h, rh, rx, rds, q⟩ => by
  unfold mAppend at q
  split at q
  · obtain ⟨u, rfl, ru⟩ := rds.one
    split at q
    · rename_i es eh
      split at q
      · rename_i hl
        cases rx with
        | ref hm =>
          cases rh.obj _ _ _ (listAt_some eh) hm with
          | lst ha rr => exact ⟨_, _, u, rfl, rfl, ha, by rw [sizeLine_eq, rr.length]; exact hl, q.wrote rh hm (rr.append (.cons ru .nil)) .non⟩
      · exact q.elim
    · exact q.elim
  · exact q.elim
def mPop : FM := fun x ds h => match x, ds with
  | .ref n, [] => match listAt h n with
    | some es => match es[es.length - 1]? with
      | some d => some (d, h.set n (.lst es.dropLast))
      | none => none
    | none => none
  | _, _ => none
theorem md_pop : MethD X "list.pop" mPop := .of mt_pop fun v vs H Q ⟨x, ds, μ, h, rh, rx, rds, q⟩ => by
  unfold mPop at q
  split at q
  · cases rds
    split at q
    · rename_i es eh
      split at q
      · rename_i d hd
        cases rx with
        | ref hm =>
          cases rh.obj _ _ _ (listAt_some eh) hm with
          | lst ha rr =>
            obtain ⟨y, e1, r1⟩ := rr.get hd
            rw [← rr.length] at e1
            exact ⟨_, _, y, rfl, rfl, ha, e1, q.wrote rh hm rr.dropLast r1⟩
      · exact q.elim
    · exact q.elim
  · exact q.elim
def mExtend : FM := fun x ds h => match x, ds with
  | .ref n, [y] => match listAt h n, lchg h y with
    | some es, some fs => if es.length + fs.length ≤ 16777216 then some (.non, h.set n (.lst (es ++ fs))) else none
    | _, _ => none
  | _, _ => none
theorem md_extend : MethD X "list.extend" mExtend := .of mt_extend fun v vs H Q ⟨x, ds, μ, h, rh, rx, rds, q⟩ => by
  unfold mExtend at q
  split at q
  · obtain ⟨u, rfl, ru⟩ := rds.one
    split at q
    · rename_i es fs eh ef
      split at q
      · rename_i hl
        cases rx with
        | ref hm =>
          obtain ⟨b, zs, rfl, hb, rz⟩ := lchg_ok rh ru ef
          cases rh.obj _ _ _ (listAt_some eh) hm with
          | lst ha rr => exact ⟨_, b, _, zs, rfl, rfl, ha, hb, by rw [sizeLine_eq, rr.length, rz.length]; exact hl, q.wrote rh hm (rr.append rz) .non⟩
      · exact q.elim
    · exact q.elim
  · exact q.elim
def mSplit : FM := fun x ds h => match x, ds with
  | .str a, [.str b] => if (b.length == 0) = false ∧ a.length + 2 ≤ 16777216 then some (.fro ((Txt.split a b).map .str), h) else none
  | _, _ => none
theorem md_split : MethD X "str.split" mSplit := .of mt_split fun v vs H Q ⟨x, ds, μ, h, rh, rx, rds, q⟩ => by
  unfold mSplit at q
  split at q
  · split at q
    · rename_i hl
      obtain ⟨u, rfl, ru⟩ := rds.one
      cases rx; cases ru
      exact ⟨_, _, rfl, rfl, hl.1, by rw [sizeLine_eq]; exact hl.2, q.fro rh (RDs.of_strs _)⟩
    · exact q.elim
  · exact q.elim

/-! ### calls of the program's own defs -/
def PostF (P : Program) (w : World) (K : PySem.W.Frag) (mg : Str → Option Value) (H : Hp) (μ : Mu) (Q : VK) (E : XK) : Res D → Prop
  | .stuck => False
  | .ok d h' => ∀ (v : V) (H' : Hp) (μ' : Mu), Stp μ μ' H H' → RelH P w K H' μ' h' → RD K H' μ' d v → Q v H'
  | .ex e h' => ∀ (cls : Value) (dd : Option Addr) (H' : Hp) (μ' : Mu), Stp μ μ' H H' → RelH P w K H' μ' h' → RX mg K H' μ' e cls dd → E cls dd H'
/-- the promise of a def by its mirror -/
def spOf (P : Program) (w : World) (K : PySem.W.Frag) (mg : Str → Option Value) (f : List D → AH → Res D) : Sp := fun vs H Q E => ∃ (ds : List D) (μ : Mu) (h : AH), RelH P w K H μ h ∧ RDs K H μ ds vs ∧ PostF P w K mg H μ Q E (f ds h)
/-- the def that the module's name x holds keeps the promise; the last parameters by their defaults -/
def Cal (X : Cx) (W : WX) (x : Str) (dfl : List D) (f : List D → AH → Res D) : Prop :=
  ∃ (k : Nat) (fa : Addr) (fd : FuncData) (ps : List Str) (dvs : List V) (us : List Value) (CX : CXT), FnOk X.prog X.w X.K X.mg X.base CX k fa fd ps (spOf X.prog X.w X.K X.mg f) ∧ Room k X.A ∧ X.mg x = some (.ref fa) ∧ PySem.W.keepIn X.K (.ref fa) = true ∧ Binds X.K fd ps us ∧ Vals dvs us ∧
    (∀ H μ, RDs X.K H μ dfl dvs) ∧ ∀ σ, PassesAt CX X σ (WE W σ)
def eFn (f : List D → AH → Res D) (dfl : List D) (r : ML) : M := fun σ h => (r σ h).bind fun ds h1 => f (ds ++ dfl) h1
theorem q_fn {f : List D → AH → Res D} {dfl : List D} {x : Str} {r : ML} {e : Expr} {es : List Expr} {p pos : Pos} (c : Cal X W x dfl f) (hg : Gl X x) (ha : QA X W r (e :: es)) (hdb : (x == ("__debug__" : Str)) = false := by decide)
    (he : starEach (e :: es) X.env = (false, eval e X.env) :: starEach es X.env := by rfl) (hpl : (backTo pos (starEach es X.env)).any (·.1) = false := by rfl) : QE X W (eFn f dfl r) (.Call (.Name x p) (e :: es) [] pos) := by
  obtain ⟨k, fa, fd, ps, dvs, us, CX, F, hr, hm, hk, hb, hd, hrd, hx⟩ := c
  refine ⟨fun pins s τ H Q I ⟨σ, h, μ, rs, rh, q⟩ => ?_⟩
  refine wpAny_Call_Name_kw (ld_glob I hg hm ?_ hdb)
  have h2 := ha.run pos pins s τ H (fun vs H1 => spOf X.prog X.w X.K X.mg f (vs ++ dvs) H1 Q (WE W τ)) I (go rs rh q fun ds h1 vs H1 μ1 s1 rs1 rh1 rds q1 => ⟨ds ++ dfl, μ1, h1, rh1, rds.append (hrd _ _), by
    show PostF _ _ _ _ _ _ _ _ (f (ds ++ dfl) h1)
    cases e : f (ds ++ dfl) h1 with
    | stuck => rw [e] at q1; exact q1
    | ok d h' => rw [e] at q1; exact q1
    | ex x h' => rw [e] at q1; exact q1⟩)
  refine PySem.W.callWith_K (h₀ := X.base) I.ok.mod.kin hk (thn h2 fun us' s1 ⟨vs, H1, I1, r1, q1⟩ => ⟨I1.kIn, ?_⟩) he hpl
  have r2 : Vals (vs ++ dvs) (us' ++ us) := r1.append hd
  have hl : (us' ++ us).length = ps.length := by rw [← r2.length]; exact F.len _ _ _ _ q1
  refine wpAny_call (codeAny_mono (F.run X.A X.stack s1 H1 ⟨us', []⟩ (us' ++ us) (vs ++ dvs) Q (WE W τ) hr I1.env0 (hb s1 us' I1.kIn hl) r2 q1) fun r s' hq => ?_)
  cases r with
  | error e => exact hx τ pins H1 s1 e s' I1 hq
  | ok fl =>
    cases fl with
    | ret u => exact I1.after hq
    | next => exact False.elim hq
    | brk => exact False.elim hq
    | cont => exact False.elim hq
end
end Q

/-! Q8: what is walked; targets; statements; loops; comprehensions. -/
namespace Q
open PySem PySem.Spec PyProof.Rows L2

/-! ### what is walked -/
abbrev MI := AS → AH → Res (List D × (AH → Prop))
section
variable {X : Cx} {W : WX} {tg : Expr}
/-- the walk J gives the items ds while G holds, from the state H0, μ0 on -/
structure WalkD (X : Cx) (H0 : Hp) (μ0 : Mu) (p : List D × (AH → Prop)) (J : It) : Prop where
  goes : ∀ (i : Nat) (H : Hp) (μ : Mu) (h : AH), i < p.1.length → Stp0 μ0 μ H0 H → RelH X.prog X.w X.K H μ h → p.2 h → J.go i H
  stops : ∀ (H : Hp) (μ : Mu) (h : AH), Stp0 μ0 μ H0 H → RelH X.prog X.w X.K H μ h → p.2 h → J.stop p.1.length H
  yields : ∀ (i : Nat) (H : Hp) (μ : Mu) (h : AH) (x : V) (H' : Hp), i < p.1.length → Stp0 μ0 μ H0 H → RelH X.prog X.w X.K H μ h → p.2 h → J.yld i H x H' → ∃ d, p.1[i]? = some d ∧ Stp μ μ H H' ∧ RelH X.prog X.w X.K H' μ h ∧ RD X.K H' μ d x
abbrev tI (X : Cx) (W : WX) (m : MI) : TI := tG X W (WalkD X) m
def QI (X : Cx) (W : WX) (tg : Expr) (m : MI) (e : Expr) : Prop := PI X tg e (tI X W m)
/-- a sequence of any sort, or a text -/
def iSeq (m : M) : MI := fun σ h => (m σ h).bind fun x h1 => match x with
  | .str a => .ok (a.cps.toList.map fun c => .str ⟨#[c]⟩, fun _ => True) h1
  | .tup ds => .ok (ds, fun _ => True) h1
  | .fro ds => .ok (ds, fun _ => True) h1
  | .scr ds => .ok (ds, fun _ => True) h1
  | .ref n => match listAt h1 n with
    | some ds => .ok (ds, fun h => listAt h n = some ds) h1
    | none => .stuck
  | _ => .stuck
theorem walk_lst {H0 : Hp} {μ0 : Mu} {a : Addr} {ds : List D} {G : AH → Prop} (hs : ∀ (H : Hp) (μ : Mu) (h : AH), Stp0 μ0 μ H0 H → RelH X.prog X.w X.K H μ h → G h → ∃ xs, SqL X.K H a xs ∧ RDs X.K H μ ds xs) : WalkD X H0 μ0 (ds, G) (Itl X.K a) where
  goes := fun i H μ h hi s rh g => by
    obtain ⟨xs, q, r⟩ := hs H μ h s rh g
    obtain ⟨v, e, _⟩ := r.get (List.getElem?_eq_getElem hi)
    exact ⟨xs, v, q, e⟩
  stops := fun H μ h s rh g => by
    obtain ⟨xs, q, r⟩ := hs H μ h s rh g
    exact ⟨xs, q, Nat.le_of_eq r.length⟩
  yields := fun i H μ h x H' hi s rh g y => by
    obtain ⟨xs, q, r⟩ := hs H μ h s rh g
    obtain ⟨rfl, y⟩ := y
    obtain ⟨d, e, rd⟩ := r.get' (y xs q)
    exact ⟨d, e, Stp.refl, rh, rd⟩
theorem walk_tp {H0 : Hp} {μ0 : Mu} {a : Addr} {ds : List D} {G : AH → Prop} (hs : ∀ (H : Hp) (μ : Mu) (h : AH), Stp0 μ0 μ H0 H → RelH X.prog X.w X.K H μ h → G h → ∃ xs, SqT X.K H a xs ∧ RDs X.K H μ ds xs) : WalkD X H0 μ0 (ds, G) (Itt X.K a) where
  goes := fun i H μ h hi s rh g => by
    obtain ⟨xs, q, r⟩ := hs H μ h s rh g
    obtain ⟨v, e, _⟩ := r.get (List.getElem?_eq_getElem hi)
    exact ⟨xs, v, q, e⟩
  stops := fun H μ h s rh g => by
    obtain ⟨xs, q, r⟩ := hs H μ h s rh g
    exact ⟨xs, q, Nat.le_of_eq r.length⟩
  yields := fun i H μ h x H' hi s rh g y => by
    obtain ⟨xs, q, r⟩ := hs H μ h s rh g
    obtain ⟨rfl, y⟩ := y
    obtain ⟨d, e, rd⟩ := r.get' (y xs q)
    exact ⟨d, e, Stp.refl, rh, rd⟩
theorem walk_txt {H0 : Hp} {μ0 : Mu} {a : Str} : WalkD X H0 μ0 (a.cps.toList.map fun c => .str ⟨#[c]⟩, fun _ => True) (Its a) where
  goes := fun i H μ h hi _ _ _ => by
    show i < a.cps.size
    simpa using hi
  stops := fun H μ h _ _ _ => by
    show a.cps.size ≤ _
    simp
  yields := fun i H μ h x H' hi s rh g y => by
    obtain ⟨rfl, c, e, rfl⟩ := y
    exact ⟨.str ⟨#[c]⟩, by simp [e], Stp.refl, rh, .str _⟩
section
variable {pins : List (Addr × Obj)} {σ : L2.St} {H : Hp} {s : Shared} {R : It → Hp → Prop} {E : Value → Shared → Prop}
theorem iter_l {a : Addr} {xs : List V} (I : Inv X pins σ H s) (hq : SqL X.K H a xs) (q : R (Itl X.K a) H) : wpAny (model X.prog X.w) X.A (pyIter (.ref a)) (PIE X pins σ tg R) E s := by
  obtain ⟨its, rv, p, hz⟩ := I.list hq
  refine wpAny_pyIter_list p.isList ?_
  refine ⟨s.heap.objs.size, [s.heap.objs.size], _, _, H, rfl, I.kept (t' := s.toks) fun b o e => Heap.get?_push_of_some _ e, turn_list a _, ⟨_, Heap.get?_push_size _ rfl, rfl, rfl⟩, fun b hb => ?_, q⟩
  have e : b = s.heap.objs.size := by simpa using hb
  subst e
  exact I.fpOk (Nat.le_refl _) (I.hok.fresh (Nat.le_refl _))
theorem iter_t {a : Addr} {xs : List V} (I : Inv X pins σ H s) (hq : SqT X.K H a xs) (q : R (Itt X.K a) H) : wpAny (model X.prog X.w) X.A (pyIter (.ref a)) (PIE X pins σ tg R) E s := by
  obtain ⟨its, rv, p, hz⟩ := I.tuple hq
  refine wpAny_pyIter_tuple (show s.heap.IsTuple a its.toArray from p) ?_
  refine ⟨s.heap.objs.size, [s.heap.objs.size], _, _, H, rfl, I.kept (t' := s.toks) fun b o e => Heap.get?_push_of_some _ e, turn_tuple a _, ⟨_, Heap.get?_push_size _ rfl, rfl, rfl⟩, fun b hb => ?_, q⟩
  have e : b = s.heap.objs.size := by simpa using hb
  subst e
  exact I.fpOk (Nat.le_refl _) (I.hok.fresh (Nat.le_refl _))
theorem iter_s {a : Str} {t : Tok} (I : Inv X pins σ H s) (q : R (Its a) H) : wpAny (model X.prog X.w) X.A (pyIter (.str a t)) (PIE X pins σ tg R) E s := by
  cases ha : a.cps.all (· < 128)
  · exact wpAny_pyIter_wide ha (pi_one (tk := s.toks) I _ (turn_str _ a t "str_iterator" (.inr rfl)) ⟨_, Heap.get?_push_size _ rfl, rfl, rfl⟩ q)
  · exact wpAny_pyIter_ascii ha (pi_one (tk := s.toks) I _ (turn_str _ a t "str_ascii_iterator" (.inl rfl)) ⟨_, Heap.get?_push_size _ rfl, rfl, rfl⟩ q)
end
theorem qi_seq {m : M} {e : Expr} (hm : QE X W m e) : QI X W tg (iSeq m) e := by
  refine ⟨fun pins s τ H R I ⟨σ, h, μ, rs, rh, q⟩ => ?_⟩
  refine thn (hm.run pins s τ H (fun v H1 => ∃ d μ1 h1, Stp μ μ1 H H1 ∧ RelH X.prog X.w X.K H1 μ1 h1 ∧ RD X.K H1 μ1 d v ∧ Post X W τ H1 μ1 (WalkD X) R ((fun x h1 => match x with
    | .str a => .ok (a.cps.toList.map fun c => .str ⟨#[c]⟩, fun _ => True) h1
    | .tup ds => .ok (ds, fun _ => True) h1
    | .fro ds => .ok (ds, fun _ => True) h1
    | .scr ds => .ok (ds, fun _ => True) h1
    | .ref n => match listAt h1 n with
      | some ds => .ok (ds, fun h => listAt h n = some ds) h1
      | none => .stuck
    | _ => .stuck : D → AH → Res (List D × (AH → Prop))) d h1)) I (go rs rh q fun d h1 v H1 μ1 s1 rs1 rh1 rd q1 => ⟨d, μ1, h1, s1, rh1, rd, q1⟩)) fun u s1 ⟨v, H1, I1, rv, d, μ1, h1, s01, rh1, rd, q1⟩ => ?_
  cases rd with
  | str a =>
    obtain ⟨t, rfl⟩ := rv
    exact iter_s I1 (q1.now rh1 walk_txt)
  | tup ta rr =>
    cases rv
    exact iter_t I1 ta.sq (q1.now rh1 (walk_tp fun H μ h st _ _ => ⟨_, (ta.stp0 st).sq, rr.stp0 st⟩))
  | fro ta nm rr =>
    cases rv
    exact iter_l I1 (SqL.of ta) (q1.now rh1 (walk_lst fun H μ h st _ _ => ⟨_, SqL.of (st.keep _ _ ta nm), rr.stp0 st⟩))
  | scr ta rr =>
    cases rv
    exact iter_l I1 ta.sq (q1.now rh1 (walk_lst fun H μ h st _ _ => ⟨_, (ta.stp0 st).sq, rr.stp0 st⟩))
  | ref hm =>
    cases rv
    dsimp only at q1
    split at q1
    · rename_i ds eh
      cases rh1.obj _ _ _ (listAt_some eh) hm with
      | lst ha rr =>
        refine iter_l I1 (SqL.of ha) (q1.now rh1 (walk_lst fun H μ h st rh' g => ?_))
        cases rh'.obj _ _ _ (listAt_some g) (st.pre _ _ hm) with
        | lst ha' rr' => exact ⟨_, SqL.of ha', rr'⟩
    · exact q1.elim
  | _ => exact q1.elim
/-- range -/
def rangeD (lo : Int) (n : Nat) : List D := (List.range n).map fun i => .int (lo + (i : Nat))
theorem walk_rng {H0 : Hp} {μ0 : Mu} {lo : Int} {n : Nat} : WalkD X H0 μ0 (rangeD lo n, fun _ => True) (Itr lo n) where
  goes := fun i H μ h hi _ _ _ => by
    show i < n
    simpa [rangeD] using hi
  stops := fun H μ h _ _ _ => by
    show n ≤ _
    simp [rangeD]
  yields := fun i H μ h x H' hi s rh g y => by
    obtain ⟨rfl, rfl⟩ := y
    have hi' : i < n := by simpa [rangeD] using hi
    exact ⟨.int (lo + i), by simp [rangeD, hi'], Stp.refl, rh, .int _⟩
def iRange1 (m : M) : MI := fun σ h => (m σ h).bind fun x h1 => match x with
  | .int j => if -(2 ^ 62) ≤ j ∧ j < 2 ^ 62 then .ok (rangeD 0 j.toNat, fun _ => True) h1 else .stuck
  | _ => .stuck
theorem qi_range1 {m : M} {e : Expr} {p pos : Pos} (hg : Gl X "range") (hm : X.mg "range" = none) (he : QE X W m e) (hs : starEach [e] X.env = (false, eval e X.env) :: starEach [] X.env := by rfl) : QI X W tg (iRange1 m) (.Call (.Name "range" p) [e] [] pos) :=
  ⟨fun pins s τ H R I ⟨σ, h, μ, rs, rh, q⟩ => (pi_range1 hg hm (pa_cons he pa_nil hs) hs).run pins s τ H R I (go rs rh q fun d h1 v H1 μ1 s1 rs1 rh1 rd q1 => by
    split at q1
    · split at q1
      · rename_i hb
        cases rd
        exact ⟨_, rfl, hb.1, hb.2, q1.now rh1 walk_rng⟩
      · exact q1.elim
    · exact q1.elim)⟩
def iRange2 (m n : M) : MI := fun σ h => (m σ h).bind fun x h1 => (n σ h1).bind fun y h2 => match x, y with
  | .int i, .int j => if (-(2 ^ 62) ≤ i ∧ i < 2 ^ 62) ∧ -(2 ^ 62) ≤ j ∧ j < 2 ^ 62 then .ok (rangeD i (j - i).toNat, fun _ => True) h2 else .stuck
  | _, _ => .stuck
theorem qi_range2 {m n : M} {e e2 : Expr} {p pos : Pos} (hg : Gl X "range") (hm : X.mg "range" = none) (he : QE X W m e) (he2 : QE X W n e2) (hs : starEach [e, e2] X.env = (false, eval e X.env) :: starEach [e2] X.env := by rfl) (hs2 : starEach [e2] X.env = (false, eval e2 X.env) :: starEach [] X.env := by rfl)
    (hs3 : starEach [e, e2] X.env = [(false, eval e X.env), (false, eval e2 X.env)] := by rfl) (hs4 : starEach [e2] X.env = [(false, eval e2 X.env)] := by rfl) : QI X W tg (iRange2 m n) (.Call (.Name "range" p) [e, e2] [] pos) :=
  ⟨fun pins s τ H R I ⟨σ, h, μ, rs, rh, q⟩ => (pi_range2 hg hm (pa_cons he (pa_cons he2 pa_nil hs2) hs) hs3 hs4).run pins s τ H R I (go rs rh q fun d h1 v H1 μ1 s1 rs1 rh1 rd q1 => go rs1 rh1 q1 fun d2 h2 v2 H2 μ2 s2 rs2 rh2 rd2 q2 => by
    split at q2
    · split at q2
      · rename_i hb
        cases rd; cases rd2
        exact ⟨_, _, rfl, ⟨hb.1.1, hb.1.2, hb.2⟩, q2.now rh2 walk_rng⟩
      · exact q2.elim
    · exact q2.elim)⟩
/-- zip of two tuples, of two lists that stay -/
def zipD (as bs : List D) : List D := List.zipWith (fun a b => .tup [a, b]) as bs
def iZip (m n : M) : MI := fun σ h => (m σ h).bind fun x h1 => (n σ h1).bind fun y h2 => match x, y with
  | .tup as, .tup bs => .ok (zipD as bs, fun _ => True) h2
  | .fro as, .fro bs => .ok (zipD as bs, fun _ => True) h2
  | _, _ => .stuck
theorem zip_get {as bs : List D} {i : Nat} {a b : D} (ha : as[i]? = some a) (hb : bs[i]? = some b) : (zipD as bs)[i]? = some (.tup [a, b]) := by
  simp [zipD, List.getElem?_zipWith, ha, hb]
theorem walk_zipT {H0 : Hp} {μ0 : Mu} {a b : Addr} {as bs : List D} (ha : ∀ (H : Hp) (μ : Mu), Stp0 μ0 μ H0 H → ∃ xs, SqT X.K H a xs ∧ RDs X.K H μ as xs) (hb : ∀ (H : Hp) (μ : Mu), Stp0 μ0 μ H0 H → ∃ xs, SqT X.K H b xs ∧ RDs X.K H μ bs xs) : WalkD X H0 μ0 (zipD as bs, fun _ => True) (RZ.ItzT X.K a b) where
  goes := fun i H μ h hi s rh g => by
    obtain ⟨xs, q, r⟩ := ha H μ s
    obtain ⟨ys, q', r'⟩ := hb H μ s
    have hi : i < as.length ∧ i < bs.length := by simpa [zipD, Nat.lt_min] using hi
    obtain ⟨v, e, _⟩ := r.get (List.getElem?_eq_getElem hi.1)
    obtain ⟨v', e', _⟩ := r'.get (List.getElem?_eq_getElem hi.2)
    exact ⟨xs, ys, v, v', q, q', e, e'⟩
  stops := fun H μ h s rh g => by
    obtain ⟨xs, q, r⟩ := ha H μ s
    obtain ⟨ys, q', r'⟩ := hb H μ s
    refine ⟨xs, ys, q, q', ?_⟩
    have h1 := r.length
    have h2 := r'.length
    have h3 : (zipD as bs).length = min as.length bs.length := by simp [zipD]
    show xs.length ≤ (zipD as bs).length ∨ ys.length ≤ (zipD as bs).length
    omega
  yields := fun i H μ h x H' hi s rh g y => by
    obtain ⟨xs, q, r⟩ := ha H μ s
    obtain ⟨ys, q', r'⟩ := hb H μ s
    obtain ⟨T, u, v, rfl, hT, rfl, y1, y2⟩ := y
    obtain ⟨d, e, rd⟩ := r.get' (y1 xs q)
    obtain ⟨d', e', rd'⟩ := r'.get' (y2 ys q')
    exact ⟨_, zip_get e e', Stp.laid hT, rh.laid hT, RD.tup_laid rh hT (.cons rd (.cons rd' .nil))⟩
theorem walk_zipL {H0 : Hp} {μ0 : Mu} {a b : Addr} {as bs : List D} (ha : ∀ (H : Hp) (μ : Mu), Stp0 μ0 μ H0 H → ∃ xs, SqL X.K H a xs ∧ RDs X.K H μ as xs) (hb : ∀ (H : Hp) (μ : Mu), Stp0 μ0 μ H0 H → ∃ xs, SqL X.K H b xs ∧ RDs X.K H μ bs xs) : WalkD X H0 μ0 (zipD as bs, fun _ => True) (Itz X.K a b) where
  goes := fun i H μ h hi s rh g => by
    obtain ⟨xs, q, r⟩ := ha H μ s
    obtain ⟨ys, q', r'⟩ := hb H μ s
    have hi : i < as.length ∧ i < bs.length := by simpa [zipD, Nat.lt_min] using hi
    obtain ⟨v, e, _⟩ := r.get (List.getElem?_eq_getElem hi.1)
    obtain ⟨v', e', _⟩ := r'.get (List.getElem?_eq_getElem hi.2)
    exact ⟨xs, ys, v, v', q, q', e, e'⟩
  stops := fun H μ h s rh g => by
    obtain ⟨xs, q, r⟩ := ha H μ s
    obtain ⟨ys, q', r'⟩ := hb H μ s
    refine ⟨xs, ys, q, q', ?_⟩
    have h1 := r.length
    have h2 := r'.length
    have h3 : (zipD as bs).length = min as.length bs.length := by simp [zipD]
    show xs.length ≤ (zipD as bs).length ∨ ys.length ≤ (zipD as bs).length
    omega
  yields := fun i H μ h x H' hi s rh g y => by
    obtain ⟨xs, q, r⟩ := ha H μ s
    obtain ⟨ys, q', r'⟩ := hb H μ s
    obtain ⟨T, u, v, rfl, hT, rfl, y1, y2⟩ := y
    obtain ⟨d, e, rd⟩ := r.get' (y1 xs q)
    obtain ⟨d', e', rd'⟩ := r'.get' (y2 ys q')
    exact ⟨_, zip_get e e', Stp.laid hT, rh.laid hT, RD.tup_laid rh hT (.cons rd (.cons rd' .nil))⟩
theorem qi_zip {m n : M} {e e2 : Expr} {p pos tpos : Pos} {elts : List Expr} {kk : Nat} (hg : Gl X "zip") (hm : X.mg "zip" = none) (he : QE X W m e) (he2 : QE X W n e2) (hs : starEach [e, e2] X.env = (false, eval e X.env) :: starEach [e2] X.env := by rfl) (hs2 : starEach [e2] X.env = (false, eval e2 X.env) :: starEach [] X.env := by rfl)
    (hpl : (backTo pos (starEach [e2] X.env)).any (·.1) = false := by rfl) : QI X W (.Tuple elts kk tpos) (iZip m n) (.Call (.Name "zip" p) [e, e2] [] pos) :=
  ⟨fun pins s τ H R I ⟨σ, h, μ, rs, rh, q⟩ => (RZ.pi_zipA hg hm (pa_cons he (pa_cons he2 pa_nil hs2) hs) hs hpl).run pins s τ H R I (go rs rh q fun d h1 v H1 μ1 s1 rs1 rh1 rd q1 => go rs1 rh1 q1 fun d2 h2 v2 H2 μ2 s2 rs2 rh2 rd2 q2 => by
    have rd := rd.stp s2
    split at q2
    · cases rd with
      | tup ta ra =>
        cases rd2 with
        | tup tb rb =>
          exact ⟨_, _, _, _, rfl, .inr ⟨ta.sq, tb.sq, q2.now rh2 (walk_zipT (fun H μ st => ⟨_, (ta.stp0 st).sq, ra.stp0 st⟩) fun H μ st => ⟨_, (tb.stp0 st).sq, rb.stp0 st⟩)⟩⟩
    · cases rd with
      | fro ta na ra =>
        cases rd2 with
        | fro tb nb rb =>
          exact ⟨_, _, _, _, rfl, .inl ⟨SqL.of ta, SqL.of tb, q2.now rh2 (walk_zipL (fun H μ st => ⟨_, SqL.of (st.keep _ _ ta na), ra.stp0 st⟩) fun H μ st => ⟨_, SqL.of (st.keep _ _ tb nb), rb.stp0 st⟩)⟩⟩
    · exact q2.elim)⟩
end

/-! ### targets -/
abbrev MG := D → AS → AH → Option (AS × AH)
section
variable {X : Cx} {W : WX} {pos : Pos}
/-- what follows a store: the slots besides `is` stay -/
def PostG (X : Cx) (is : List Nat) (τ : L2.St) (H : Hp) (μ : Mu) (Q : L2.St → Hp → Prop) (r : Option (AS × AH)) : Prop :=
  ∃ σ' h', r = some (σ', h') ∧ ∀ (τ' : L2.St) (H' : Hp) (μ' : Mu), Stp μ μ' H H' → RelS X.K H' μ' σ' τ' → RelH X.prog X.w X.K H' μ' h' → τ'.length = τ.length → (∀ j, j ∉ is → τ'[j]? = τ[j]?) → Q τ' H'
def tGt (X : Cx) (g : MG) (is : List Nat) : TG := fun v τ H Q => ∃ (d : D) (σ : AS) (h : AH) (μ : Mu), RelS X.K H μ σ τ ∧ RelH X.prog X.w X.K H μ h ∧ RD X.K H μ d v ∧ PostG X is τ H μ Q (g d σ h)
def QG (X : Cx) (g : MG) (is : List Nat) (target : Expr) : Prop := PG X target (tGt X g is)
def gSlot (i : Nat) : MG := fun d σ h => some (σ.set i (some d), h)
theorem PG.of {t t' : TG} {e : Expr} (h : PG X e t) (i : ∀ v τ H Q, t' v τ H Q → t v τ H Q) : PG X e t' := ⟨fun pins s σ H v u Q I r q => h.run pins s σ H v u Q I r (i _ _ _ _ q)⟩
theorem qg_name {i : Nat} {x : Str} (hN : X.N.Nodup) (hi : X.N[i]? = some x) (hx : Loc X.env.scope x) (hf : X.fn x = true ∨ X.env.scope.names.lookup x = some .local := by first | exact .inl rfl | exact .inr rfl | assumption) : QG X (gSlot i) [i] (.Name x pos) :=
  PG.of (pg_name hN hi hx hf) fun v τ H Q ⟨d, σ, h, μ, rs, rh, rd, σ', h', e, q⟩ => by
    cases e
    refine q _ H μ Stp.refl (rs.set rd i) rh (by simp) fun j hj => ?_
    have hne : i ≠ j := fun e => hj (by simp [e])
    exact List.getElem?_set_ne hne
/-- targets from the left -/
def gsNil : List D → AS → AH → Option (AS × AH) := fun ds σ h => match ds with
  | [] => some (σ, h)
  | _ => none
def gsCons (g : MG) (r : List D → AS → AH → Option (AS × AH)) : List D → AS → AH → Option (AS × AH) := fun ds σ h => match ds with
  | d :: ds => match g d σ h with
    | some (σ1, h1) => r ds σ1 h1
    | none => none
  | [] => none
def tGts (X : Cx) (g : List D → AS → AH → Option (AS × AH)) (is : List Nat) : TGs := fun vs τ H Q => ∃ (ds : List D) (σ : AS) (h : AH) (μ : Mu), RelS X.K H μ σ τ ∧ RelH X.prog X.w X.K H μ h ∧ RDs X.K H μ ds vs ∧ PostG X is τ H μ Q (g ds σ h)
def QGs (X : Cx) (g : List D → AS → AH → Option (AS × AH)) (is : List Nat) (es : List Expr) : Prop := PGs X es (tGts X g is)
theorem PGs.of {t t' : TGs} {es : List Expr} (h : PGs X es t) (i : ∀ v τ H Q, t' v τ H Q → t v τ H Q) : PGs X es t' := ⟨fun pins s σ H v u Q I r q => h.run pins s σ H v u Q I r (i _ _ _ _ q)⟩
theorem qgs_nil : QGs X gsNil [] [] := PGs.of pgs_nil fun v τ H Q ⟨ds, σ, h, μ, rs, rh, rd, σ', h', e, q⟩ => by
  cases ds with
  | nil =>
    cases rd; cases e
    exact ⟨rfl, q τ H μ Stp.refl rs rh rfl fun _ _ => rfl⟩
  | cons _ _ => cases e
theorem qgs_cons {g : MG} {r : List D → AS → AH → Option (AS × AH)} {is js : List Nat} {e : Expr} {es : List Expr} (h1 : QG X g is e) (h2 : QGs X r js es)
    (hs : (assignEach (e :: es) X.env).map (·.2) = assign e X.env :: (assignEach es X.env).map (·.2) := by rfl) : QGs X (gsCons g r) (is ++ js) (e :: es) :=
  PGs.of (pgs_cons h1 h2 hs) fun v τ H Q ⟨ds, σ, h, μ, rs, rh, rd, σ', h', e, q⟩ => by
    cases ds with
    | nil => cases e
    | cons d ds =>
      cases rd with
      | cons rd rds =>
        refine ⟨_, _, rfl, d, σ, h, μ, rs, rh, rd, ?_⟩
        simp only [gsCons] at e
        split at e
        · rename_i σ1 h1 eg
          refine ⟨σ1, h1, eg, fun τ1 H1 μ1 st1 rs1 rh1 l1 f1 => ⟨ds, σ1, h1, μ1, rs1, rh1, rds.stp st1, σ', h', e, fun τ2 H2 μ2 st2 rs2 rh2 l2 f2 => q τ2 H2 μ2 (st1.trans st2) rs2 rh2 (l2.trans l1) fun j hj => ?_⟩⟩
          rw [List.mem_append, not_or] at hj
          exact (f2 j hj.2).trans (f1 j hj.1)
        · cases e
def gTupD (n : Nat) (g : List D → AS → AH → Option (AS × AH)) : MG := fun d σ h => match d with
  | .tup ds => if ds.length = n then g ds σ h else none
  | _ => none
theorem qg_tup {es : List Expr} {k : Nat} {g : List D → AS → AH → Option (AS × AH)} {is : List Nat} {n : Nat} (hc : X.calm = true) (hg : QGs X g is es)
    (hn : (assignEach es X.env).length = n := by rfl) (hst : (assignEach es X.env).findIdx? (·.1) = none := by rfl) : QG X (gTupD n g) is (.Tuple es k pos) :=
  PG.of (pg_tup hc hg hn hst) fun v τ H Q ⟨d, σ, h, μ, rs, rh, rd, σ', h', e, q⟩ => by
    unfold gTupD at e
    split at e
    · split at e
      · rename_i hl
        cases rd with
        | tup ta rr => exact ⟨_, _, rfl, ta.sq, by rw [rr.length]; exact hl, _, σ, h, μ, rs, rh, rr, σ', h', e, q⟩
      · cases e
    · cases e
/-- o[i] = .. -/
def gSubD (f : D → D → D → AH → Option AH) (a b : M) : MG := fun d σ h => match a σ h with
  | .ok x h1 => match b σ h1 with
    | .ok y h2 => (f x y d h2).map fun h3 => (σ, h3)
    | _ => none
  | _ => none
theorem qg_sub {f : D → D → D → AH → Option AH} {a b : M} {ea eb : Expr} (hf : SetD X f) (ha : QE X W a ea) (hb : QE X W b eb)
    (hx : ∀ v, assign (.Subscript ea eb pos) X.env v = (do
      let ov ← holding [v] (eval ea X.env)
      let iv ← holding [v, ov] (eval eb X.env)
      standAt pos
      holding [v, ov, iv] (setItem ov iv v)
      release [v, ov, iv] []) := by intro _; rfl) : QG X (gSubD f a b) [] (.Subscript ea eb pos) :=
  PG.of (pg_sub ha hb hf hx) fun v τ H Q ⟨d, σ, h, μ, rs, rh, rd, σ', h', e, q⟩ => by
    unfold gSubD at e
    refine ⟨σ, h, μ, rs, rh, ?_⟩
    split at e
    · rename_i x h1 ex
      rw [ex]
      intro o H1 μ1 st1 rh1 rx
      refine ⟨σ, h1, μ1, rs.stp st1, rh1, ?_⟩
      split at e
      · rename_i y h2 ey
        rw [ey]
        intro i H2 μ2 st2 rh2 ry
        obtain ⟨h3, e3, e4⟩ := Option.map_eq_some_iff.mp e
        cases e4
        refine ⟨x, y, d, μ2, h2, rh2, rx.stp st2, ry, (rd.stp st1).stp st2, h', e3, fun H3 μ3 st3 rh3 => ?_⟩
        have st := (st1.trans st2).trans st3
        exact q τ H3 μ3 st (rs.stp st) rh3 rfl fun _ _ => rfl
      · cases e
    · cases e
end
end Q

/-! Q9: statements, loops, comprehensions. -/
namespace Q
open PySem PySem.Spec PyProof.Rows L2

inductive Out where
  | stuck | nx (σ : AS) (h : AH) | rt (d : D) (h : AH) | bk (σ : AS) (h : AH) | ct (σ : AS) (h : AH) | ex (e : Ex) (σ : AS) (h : AH)
abbrev MS := AS → AH → Out
section
variable {X : Cx} {W : WX} {D D' : Ends} {H : Hp} {μ : Mu}
def PostS (X : Cx) (W : WX) (D : Ends) (H : Hp) (μ : Mu) : Out → Prop
  | .stuck => False
  | .nx σ h => ∀ (τ : L2.St) (H' : Hp) (μ' : Mu), Stp μ μ' H H' → RelS X.K H' μ' σ τ → RelH X.prog X.w X.K H' μ' h → D.nx τ H'
  | .rt d h => ∀ (v : V) (H' : Hp) (μ' : Mu), Stp μ μ' H H' → RelH X.prog X.w X.K H' μ' h → RD X.K H' μ' d v → D.rt v H'
  | .bk σ h => ∀ (τ : L2.St) (H' : Hp) (μ' : Mu), Stp μ μ' H H' → RelS X.K H' μ' σ τ → RelH X.prog X.w X.K H' μ' h → D.bk τ H'
  | .ct σ h => ∀ (τ : L2.St) (H' : Hp) (μ' : Mu), Stp μ μ' H H' → RelS X.K H' μ' σ τ → RelH X.prog X.w X.K H' μ' h → D.ct τ H'
  | .ex e σ h => ∀ (cls : Value) (dd : Option Addr) (τ : L2.St) (H' : Hp) (μ' : Mu), Stp μ μ' H H' → RelS X.K H' μ' σ τ → RelH X.prog X.w X.K H' μ' h → RX X.mg X.K H' μ' e cls dd → W cls dd τ H'
def tXS (X : Cx) (W : WX) (m : MS) : TS := fun D τ H => ∃ (σ : AS) (h : AH) (μ : Mu), RelS X.K H μ σ τ ∧ RelH X.prog X.w X.K H μ h ∧ PostS X W D H μ (m σ h)
def QS (X : Cx) (W : WX) (m : MS) (st : Stmt) : Prop := PS X st (tXS X W m)
def QSs (X : Cx) (W : WX) (m : MS) (ss : List Stmt) : Prop := PSs X ss (tXS X W m)
theorem PS.of {t t' : TS} {st : Stmt} (h : PS X st t) (i : ∀ D τ H, t' D τ H → t D τ H) : PS X st t' := ⟨fun pins s σ H D I q => h.run pins s σ H D I (i _ _ _ q)⟩
theorem PSs.of {t t' : TS} {ss : List Stmt} (h : PSs X ss t) (i : ∀ D τ H, t' D τ H → t D τ H) : PSs X ss t' := ⟨fun pins s σ H D I q => h.run pins s σ H D I (i _ _ _ q)⟩
theorem PostS.mono {H' : Hp} {μ' : Mu} (s : Stp μ μ' H H') {r : Out} (q : PostS X W D H μ r) : PostS X W D H' μ' r := by
  cases r with
  | stuck => exact q
  | nx σ h => exact fun τ H2 μ2 s2 => q τ H2 μ2 (s.trans s2)
  | rt d h => exact fun v H2 μ2 s2 => q v H2 μ2 (s.trans s2)
  | bk σ h => exact fun τ H2 μ2 s2 => q τ H2 μ2 (s.trans s2)
  | ct σ h => exact fun τ H2 μ2 s2 => q τ H2 μ2 (s.trans s2)
  | ex e σ h => exact fun c d τ H2 μ2 s2 => q c d τ H2 μ2 (s.trans s2)
/-- an expression ahead of something -/
def Res.andS {α : Type} (σ : AS) (r : Res α) (f : α → AH → Out) : Out := match r with
  | .stuck => .stuck
  | .ok a h => f a h
  | .ex e h => .ex e σ h
@[simp] theorem Res.andS_ok {α : Type} (σ : AS) (a : α) (h : AH) (f : α → AH → Out) : (Res.ok a h).andS σ f = f a h := rfl
@[simp] theorem Res.andS_ex {α : Type} (σ : AS) (e : Ex) (h : AH) (f : α → AH → Out) : (Res.ex e h : Res α).andS σ f = .ex e σ h := rfl
@[simp] theorem Res.andS_stuck {α : Type} (σ : AS) (f : α → AH → Out) : (Res.stuck : Res α).andS σ f = .stuck := rfl
theorem goS {α β : Type} {RA : Hp → Mu → α → β → Prop} {σ : AS} {τ : L2.St} {h : AH} {m : AS → AH → Res α} {f : α → AH → Out} {k : β → Hp → Prop} (rs : RelS X.K H μ σ τ) (rh : RelH X.prog X.w X.K H μ h) (q : PostS X W D H μ ((m σ h).andS σ f))
    (hk : ∀ (a : α) (h1 : AH) (b : β) (H1 : Hp) (μ1 : Mu), Stp μ μ1 H H1 → RelS X.K H1 μ1 σ τ → RelH X.prog X.w X.K H1 μ1 h1 → RA H1 μ1 a b → PostS X W D H1 μ1 (f a h1) → k b H1) : tG X W RA m τ H k := by
  refine ⟨σ, h, μ, rs, rh, ?_⟩
  cases e : m σ h with
  | stuck => rw [e] at q; exact q
  | ex x h' =>
    rw [e] at q
    exact fun cls dd H' μ' s rh' rx => q cls dd τ H' μ' s (rs.stp s) rh' rx
  | ok a h' =>
    rw [e] at q
    exact fun b H' μ' s rh' ra => hk a h' b H' μ' s (rs.stp s) rh' ra (q.mono s)

/-! ### blocks -/
def sNil : MS := fun σ h => .nx σ h
def sCons (a b : MS) : MS := fun σ h => match a σ h with
  | .nx σ' h' => b σ' h'
  | r => r
theorem qss_nil : QSs X W sNil [] := PSs.of pss_nil fun D τ H ⟨σ, h, μ, rs, rh, q⟩ => q τ H μ Stp.refl rs rh
theorem seq_go {a b : MS} {σ : AS} {h : AH} (q : PostS X W D H μ (sCons a b σ h)) : PostS X W { D with nx := fun τ H => tXS X W b D τ H } H μ (a σ h) := by
  unfold sCons at q
  cases e : a σ h with
  | nx σ' h' =>
    rw [e] at q
    exact fun τ H' μ' s rs rh => ⟨σ', h', μ', rs, rh, q.mono s⟩
  | _ => rw [e] at q; exact q
theorem qss_cons {a b : MS} {st : Stmt} {ss : List Stmt} (ha : QS X W a st) (hb : QSs X W b ss) : QSs X W (sCons a b) (st :: ss) :=
  PSs.of (pss_cons ha hb) fun D τ H ⟨σ, h, μ, rs, rh, q⟩ => ⟨σ, h, μ, rs, rh, seq_go q⟩

/-! ### plain statements -/
def sRet (m : M) : MS := fun σ h => (m σ h).andS σ fun d h1 => .rt d h1
theorem qs_ret {m : M} {e : Expr} {pos : Pos} (hm : QE X W m e) : QS X W (sRet m) (.Return (some e) pos) :=
  PS.of (ps_ret hm) fun D τ H ⟨σ, h, μ, rs, rh, q⟩ => goS rs rh q fun d h1 v H1 μ1 s1 rs1 rh1 rd q1 => q1 v H1 μ1 Stp.refl rh1 rd
def sRetN : MS := fun _ h => .rt .non h
theorem qs_retN {pos : Pos} : QS X W sRetN (.Return none pos) := PS.of ps_retN fun D τ H ⟨σ, h, μ, rs, rh, q⟩ => q .non H μ Stp.refl rh .non
def sExpr (m : M) : MS := fun σ h => (m σ h).andS σ fun _ h1 => .nx σ h1
theorem qs_expr {m : M} {e : Expr} {pos : Pos} (hm : QE X W m e) (hs : swapsWith e none pos.line X.env = pure false := by rfl) : QS X W (sExpr m) (.Expr e pos) :=
  PS.of (ps_expr hm hs) fun D τ H ⟨σ, h, μ, rs, rh, q⟩ => goS rs rh q fun d h1 v H1 μ1 s1 rs1 rh1 rd q1 => q1 τ H1 μ1 Stp.refl rs1 rh1
theorem qs_doc {x j} {pos pos' : Pos} : QS X W sNil (.Expr (.Constant (.str x) j pos) pos') := PS.of ps_doc fun D τ H ⟨σ, h, μ, rs, rh, q⟩ => q τ H μ Stp.refl rs rh
theorem qs_pass {pos : Pos} : QS X W sNil (.Pass pos) := PS.of ps_pass fun D τ H ⟨σ, h, μ, rs, rh, q⟩ => q τ H μ Stp.refl rs rh
def sBreak : MS := fun σ h => .bk σ h
def sCont : MS := fun σ h => .ct σ h
theorem qs_break {pos : Pos} : QS X W sBreak (.Break pos) := PS.of ps_break fun D τ H ⟨σ, h, μ, rs, rh, q⟩ => q τ H μ Stp.refl rs rh
theorem qs_continue {pos : Pos} : QS X W sCont (.Continue pos) := PS.of ps_continue fun D τ H ⟨σ, h, μ, rs, rh, q⟩ => q τ H μ Stp.refl rs rh
/-- never reached -/
def sNever : MS := fun _ _ => .stuck
theorem qs_never {st : Stmt} : QS X W sNever st := PS.of ps_never fun D τ H ⟨σ, h, μ, rs, rh, q⟩ => q
def sIf (c : MB) (a b : MS) : MS := fun σ h => (c σ h).andS σ fun k h1 => if k = true then a σ h1 else b σ h1
theorem qs_if {c : MB} {a b : MS} {e : Expr} {as bs : List Stmt} {pos : Pos} (hc : QT X W c e) (ha : QSs X W a as) (hb : QSs X W b bs) : QS X W (sIf c a b) (.If e as bs pos) :=
  PS.of (ps_if hc ha hb) fun D τ H ⟨σ, h, μ, rs, rh, q⟩ => goS rs rh q fun k h1 k' H1 μ1 s1 rs1 rh1 rk q1 => by
    cases (show k = k' from rk)
    cases k with
    | true => rw [if_pos rfl] at q1 ⊢; exact ⟨σ, h1, μ1, rs1, rh1, q1⟩
    | false => rw [if_neg Bool.false_ne_true] at q1 ⊢; exact ⟨σ, h1, μ1, rs1, rh1, q1⟩
/-- a store -/
def stO (r : Option (AS × AH)) : Out := match r with
  | some (σ, h) => .nx σ h
  | none => .stuck
@[simp] theorem stO_some (σ : AS) (h : AH) : stO (some (σ, h)) = .nx σ h := rfl
@[simp] theorem stO_none : stO none = .stuck := rfl
theorem PostG.of {is : List Nat} {τ : L2.St} {r : Option (AS × AH)} (q : PostS X W D H μ (stO r)) : PostG X is τ H μ D.nx r := by
  cases r with
  | none => exact False.elim q
  | some p => exact ⟨p.1, p.2, rfl, fun τ' H' μ' s rs rh _ _ => q τ' H' μ' s rs rh⟩
def sAsg (m : M) (g : MG) : MS := fun σ h => (m σ h).andS σ fun d h1 => stO (g d σ h1)
theorem qs_asg {m : M} {g : MG} {is : List Nat} {tg e : Expr} {pos : Pos} (hm : QE X W m e) (hg : QG X g is tg) (hs : swapsWithSole [tg] e pos.line X.env = pure false := by rfl) (hw : swappedStores [tg] e X.env = pure none := by rfl)
    (h1 : (assignEach [tg] X.env).map (·.2) = [assign tg X.env] := by rfl) : QS X W (sAsg m g) (.Assign [tg] e pos) :=
  PS.of (ps_asg hm hg hs hw h1) fun D τ H ⟨σ, h, μ, rs, rh, q⟩ => goS rs rh q fun d h1 v H1 μ1 s1 rs1 rh1 rd q1 => ⟨d, σ, h1, μ1, rs1, rh1, rd, .of q1⟩
theorem qs_set {m : M} {i : Nat} {x : Str} {e : Expr} {pos pos' : Pos} (hN : X.N.Nodup) (hi : X.N[i]? = some x) (hx : Loc X.env.scope x) (hm : QE X W m e) (hs : swapsWith e (some (.Name x pos')) pos.line X.env = pure false := by rfl)
    (hf : X.fn x = true ∨ X.env.scope.names.lookup x = some .local := by first | exact .inl rfl | exact .inr rfl | assumption) : QS X W (sAsg m (gSlot i)) (.Assign [.Name x pos'] e pos) :=
  PS.of (ps_set hN hi hx hm hs hf) fun D τ H ⟨σ, h, μ, rs, rh, q⟩ => goS rs rh q fun d h1 v H1 μ1 s1 rs1 rh1 rd q1 => q1 _ H1 μ1 Stp.refl (rs1.set rd i) rh1
/-- a, b = e1, e2 -/
def sPar (i j : Nat) (r : ML) : MS := fun σ h => (r σ h).andS σ fun ds h1 => match ds with
  | [a, b] => .nx ((σ.set i (some a)).set j (some b)) h1
  | _ => .stuck
theorem qs_par {r : ML} {i j : Nat} {x y : Str} {a b : Expr} {px py pt pos : Pos} {kt k2 pt2} (hc : X.calm = true) (hN : X.N.Nodup) (hi : X.N[i]? = some x) (hj : X.N[j]? = some y) (hij : i ≠ j)
    (hx : X.env.scope.names.lookup x = some .local) (hy : X.env.scope.names.lookup y = some .local) (ha : QA X W r [a, b])
    (hw : swappedStores [.Tuple [.Name x px, .Name y py] kt pt] (.Tuple [a, b] k2 pt2) X.env = pure (some [x, y]))
    (hs : swapsWithSole [.Tuple [.Name x px, .Name y py] kt pt] (.Tuple [a, b] k2 pt2) pos.line X.env = pure false := by rfl) :
    QS X W (sPar i j r) (.Assign [.Tuple [.Name x px, .Name y py] kt pt] (.Tuple [a, b] k2 pt2) pos) :=
  PS.of (ps_par hc hN hi hj hij hx hy ha hw hs) fun D τ H ⟨σ, h, μ, rs, rh, q⟩ => goS rs rh q fun ds h1 vs H1 μ1 s1 rs1 rh1 rds q1 => by
    split at q1
    · obtain ⟨v, w, rfl, rv, rw⟩ := rds.two
      exact ⟨v, w, rfl, q1 _ H1 μ1 Stp.refl ((rs1.set rv i).set rw j) rh1⟩
    · exact q1.elim
/-- x += e, numbers -/
def sAug (i : Nat) (f : Int → Int → Int) (m : M) : MS := fun σ h => match σ[i]? with
  | some (some (.int a)) => (m σ h).andS σ fun d h1 => match d with
    | .int b => .nx (σ.set i (some (.int (f a b)))) h1
    | _ => .stuck
  | _ => .stuck
theorem qs_aug {m : M} {i : Nat} {x : Str} {e : Expr} {op : Operator} {f : Int → Int → Int} {pos pos' : Pos} (hN : X.N.Nodup) (hi : X.N[i]? = some x) (hx : Loc X.env.scope x) (hm : QE X W m e) (ho : PIp X op (ipI f))
    (hf : X.fn x = true ∨ X.env.scope.names.lookup x = some .local := by first | exact .inl rfl | exact .inr rfl | assumption) : QS X W (sAug i f m) (.AugAssign (.Name x pos') op e pos) :=
  PS.of (ps_aug hN hi hx hm ho hf) fun D τ H ⟨σ, h, μ, rs, rh, q⟩ => by
    unfold sAug at q
    split at q
    · rename_i a ea
      obtain ⟨v, ev, rv⟩ := rs.2 i _ ea
      cases rv
      refine ⟨_, ev, goS rs rh q fun d h1 v H1 μ1 s1 rs1 rh1 rd q1 => ?_⟩
      split at q1
      · cases rd
        exact ⟨_, _, rfl, rfl, q1 _ H1 μ1 Stp.refl (rs1.set (.int _) i) rh1⟩
      · exact q1.elim
    · exact q.elim

/-! ### for -/
open Classical in
noncomputable def forL (G : AH → Prop) (g : MG) (body : MS) : List _root_.Q.D → AS → AH → Out
  | [], σ, h => if G h then .nx σ h else .stuck
  | d :: ds, σ, h => if G h then (match g d σ h with
    | some (σ1, h1) => match body σ1 h1 with
      | .nx σ2 h2 => forL G g body ds σ2 h2
      | .ct σ2 h2 => forL G g body ds σ2 h2
      | .bk σ2 h2 => .nx σ2 h2
      | r => r
    | none => .stuck) else .stuck
noncomputable def sFor (it : MI) (g : MG) (body : MS) : MS := fun σ h => (it σ h).andS σ fun p h1 => forL p.2 g body p.1 σ h1
theorem qs_for {it : MI} {g : MG} {is : List Nat} {body : MS} {tg iter : Expr} {ss : List Stmt} {pos : Pos} (hp : PassesOwn (model X.prog X.w) X.A X.env X.xe) (hc : X.calm = true) (hi : QI X W tg it iter) (hg : QG X g is tg) (hb : QSs X W body ss)
    (hs : ∀ x, foldedSetIterable iter X.env x = pure x := by intro _; rfl) : QS X W (sFor it g body) (.For tg iter ss [] pos) :=
  PS.of (ps_for hp hc hi hg hb hs) fun D τ H ⟨σ, h, μ, rs, rh, q⟩ => goS rs rh q fun p h1 J H1 μ1 s1 rs1 rh1 w q1 => by
    obtain ⟨ds, G⟩ := p
    refine ⟨fun i m τ H => m = ds.length - i ∧ i ≤ ds.length ∧ ∃ σ h μ, Stp μ1 μ H1 H ∧ RelS X.K H μ σ τ ∧ RelH X.prog X.w X.K H μ h ∧ PostS X W D H μ (forL G g body (ds.drop i) σ h), ⟨ds.length, rfl, Nat.zero_le _, σ, h1, μ1, Stp.refl, rs1, rh1, q1⟩, ?_⟩
    rintro i m τ H ⟨rfl, hi, σ, h, μ, st, rs, rh, q⟩
    by_cases hlt : i < ds.length
    · rw [List.drop_eq_getElem_cons hlt, forL] at q
      by_cases hG : G h
      · rw [if_pos hG] at q
        refine .inr ⟨w.goes i H μ h hlt st.toStp0 rh hG, fun τ H => ∃ σ h μ, Stp μ1 μ H1 H ∧ RelS X.K H μ σ τ ∧ RelH X.prog X.w X.K H μ h ∧ PostS X W D H μ (forL G g body (ds.drop (i + 1)) σ h), fun τ' H' p' => ⟨ds.length - (i + 1), by omega, rfl, hlt, p'⟩, fun x H' y => ?_⟩
        obtain ⟨d, ed, st', rh', rd⟩ := w.yields i H μ h x H' hlt st.toStp0 rh hG y
        have ed' : ds[i] = d := by
          rw [List.getElem?_eq_getElem hlt] at ed
          exact Option.some.inj ed
        rw [ed'] at q
        refine ⟨d, σ, h, μ, rs.stp st', rh', rd, ?_⟩
        split at q
        · rename_i σ1 h2 eg
          refine ⟨σ1, h2, eg, fun τ2 H2 μ2 st2 rs2 rh2 _ _ => ⟨σ1, h2, μ2, rs2, rh2, ?_⟩⟩
          have sta := (st.trans st').trans st2
          split at q
          · rename_i σ2 h3 eb
            rw [eb]
            exact fun τ3 H3 μ3 st3 rs3 rh3 => ⟨σ2, h3, μ3, sta.trans st3, rs3, rh3, q.mono ((st'.trans st2).trans st3)⟩
          · rename_i σ2 h3 eb
            rw [eb]
            exact fun τ3 H3 μ3 st3 rs3 rh3 => ⟨σ2, h3, μ3, sta.trans st3, rs3, rh3, q.mono ((st'.trans st2).trans st3)⟩
          · rename_i σ2 h3 eb
            rw [eb]
            exact fun τ3 H3 μ3 st3 rs3 rh3 => q τ3 H3 μ3 ((st'.trans st2).trans st3) rs3 rh3
          · rename_i n1 n2 n3
            have q2 := q.mono (st'.trans st2)
            cases eb : body σ1 h2 with
            | nx a b => exact absurd eb (n1 a b)
            | ct a b => exact absurd eb (n2 a b)
            | bk a b => exact absurd eb (n3 a b)
            | stuck => rw [eb] at q2; exact q2
            | rt a b => rw [eb] at q2; exact q2
            | ex a b c => rw [eb] at q2; exact q2
        · exact q.elim
      · rw [if_neg hG] at q
        exact q.elim
    · have ei : i = ds.length := by omega
      subst ei
      rw [List.drop_length, forL] at q
      by_cases hG : G h
      · rw [if_pos hG] at q
        exact .inl ⟨w.stops H μ h st.toStp0 rh hG, q τ H μ Stp.refl rs rh⟩
      · rw [if_neg hG] at q
        exact q.elim

/-! ### list comprehensions -/
def WNever : WX := fun _ _ _ _ => False
open Classical in
noncomputable def lcL (G : AH → Prop) (g : MG) (t : MB) (m : M) (σ : AS) : List _root_.Q.D → List _root_.Q.D → AH → Res (List _root_.Q.D)
  | [], acc, h => if G h then .ok acc h else .stuck
  | d :: ds, acc, h => if G h then (match g d σ h with
    | some (σ1, h1) => match t σ1 h1 with
      | .ok true h2 => match m σ1 h2 with
        | .ok y h3 => if acc.length < 16777216 then lcL G g t m σ ds (acc ++ [y]) h3 else .stuck
        | _ => .stuck
      | .ok false h2 => lcL G g t m σ ds acc h2
      | _ => .stuck
    | none => .stuck) else .stuck
noncomputable def eLc (it : MI) (g : MG) (t : MB) (m : M) (vs : List Nat) : M := fun σ h => (it σ h).bind fun p h1 => (lcL p.2 g t m (wipeA σ vs) p.1 [] h1).bind fun ds h2 => .ok (.fro ds) h2
theorem wipe_get {τ : L2.St} : ∀ {vs : List Nat} {j : Nat}, j ∉ vs → (L2.wipe τ vs)[j]? = τ[j]?
  | [], _, _ => rfl
  | v :: vs, j, h => by
    rw [List.mem_cons, not_or] at h
    unfold L2.wipe
    rw [List.getElem?_set_ne (Ne.symm h.1)]
    exact wipe_get h.2
theorem wipe_in {τ : L2.St} : ∀ {vs : List Nat} {j : Nat}, j ∈ vs → (L2.wipe τ vs)[j]? = if j < τ.length then some none else none
  | [], _, h => by cases h
  | v :: vs, j, h => by
    unfold L2.wipe
    by_cases hv : v = j
    · subst hv
      by_cases hl : v < τ.length
      · rw [List.getElem?_set_self (by rw [wipe_length]; exact hl), if_pos hl]
      · rw [if_neg hl, List.getElem?_eq_none (by rw [List.length_set, wipe_length]; omega)]
    · rw [List.getElem?_set_ne hv]
      rcases List.mem_cons.mp h with e | e
      · exact absurd e.symm hv
      · exact wipe_in e
theorem wipe_ext {τ τ' : L2.St} {vs : List Nat} (hl : τ'.length = τ.length) (h : ∀ j, j ∉ vs → τ'[j]? = τ[j]?) : L2.wipe τ' vs = L2.wipe τ vs := by
  apply List.ext_getElem?
  intro j
  by_cases hj : j ∈ vs
  · rw [wipe_in hj, wipe_in hj, hl]
  · rw [wipe_get hj, wipe_get hj, h j hj]
theorem Stp.poke_new {H' : Hp} {μ' : Mu} {A : Addr} {u : HO} (s : Stp μ μ' H H') (hA : H A = none) : Stp μ μ' H (upd H' A u) :=
  ⟨⟨s.pre, s.new, fun a o e n => by rw [upd_ne (ne_of_none e hA)]; exact s.keep a o e n⟩, s.fz, fun a o m e => by rw [upd_ne (ne_of_none e hA)]; exact s.hid a o m e⟩
theorem Res.bind_ok_inv {α β : Type} {r : Res α} {f : α → AH → Res β} : True := trivial
theorem lc_go {it : MI} {g : MG} {t : MB} {m : M} {vs is : List Nat} (his : ∀ j, j ∈ is → j ∈ vs) : ∀ τ H Q, tE X W (eLc it g t m vs) τ H Q → tLc (tI X W it) (tGt X g is) (tT X WNever t) (tE X WNever m) vs τ H Q := fun τ H Q ⟨σ, h, μ, rs, rh, q⟩ =>
  go rs rh q fun p h1 J H1 μ1 s1 rs1 rh1 w q1 A hA => by
    obtain ⟨ds, G⟩ := p
    have hA1 : upd H1 A (.lst []) A = some (.lst []) := upd_same
    let Inv' : Nat → Hp → Prop := fun i H => ∃ h μ acc xs, Stp0 μ1 μ H1 H ∧ Stp μ1 ⟨μ.l, μ1.f⟩ H1 H ∧ μ.f = A :: μ1.f ∧ RelH X.prog X.w X.K H μ h ∧ H A = some (.lst xs) ∧ RDs X.K H μ acc xs ∧
      Post X W τ H1 μ1 (RD X.K) Q ((lcL G g t m (wipeA σ vs) (ds.drop i) acc h).bind fun ds h2 => .ok (.fro ds) h2)
    refine ⟨fun i m' H => m' = ds.length - i ∧ i ≤ ds.length ∧ Inv' i H, ⟨ds.length, rfl, Nat.zero_le _, h1, μ1.hide A, [], [], Stp0.hide hA, Stp.laid hA, rfl, rh1.hide hA, hA1, .nil, ?_⟩, ?_⟩
    · rw [List.drop_zero]; exact q1
    rintro i m' H ⟨rfl, hi, h, μ, acc, xs, st0, st, hf, rh, hHA, racc, q⟩
    have mA : A ∈ μ.f := by rw [hf]; exact List.mem_cons_self
    by_cases hlt : i < ds.length
    · rw [List.drop_eq_getElem_cons hlt, lcL] at q
      by_cases hG : G h
      · rw [if_pos hG] at q
        refine .inr ⟨w.goes i H μ h hlt st0 rh hG, Inv' (i + 1), fun H' p' => ⟨ds.length - (i + 1), by omega, rfl, hlt, p'⟩, fun x H' y => ?_⟩
        obtain ⟨d, ed, st', rh', rd⟩ := w.yields i H μ h x H' hlt st0 rh hG y
        have ed' : ds[i] = d := by
          rw [List.getElem?_eq_getElem hlt] at ed
          exact Option.some.inj ed
        rw [ed'] at q
        have rs0 : RelS X.K H' μ σ τ := ⟨rs1.1, fun i d e => let ⟨v, a, b⟩ := rs1.2 i d e; ⟨v, a, b.stp0 (st0.trans st'.toStp0)⟩⟩
        refine ⟨d, wipeA σ vs, h, μ, rs0.wipe vs, rh', rd, ?_⟩
        cases eg : g d (wipeA σ vs) h with
        | none => rw [eg] at q; exact q.elim
        | some p =>
          obtain ⟨σ1, h2⟩ := p
          rw [eg] at q
          refine ⟨σ1, h2, rfl, fun τ2 H2 μ2 st2 rs2 rh2 hl2 f2 => ⟨?_, σ1, h2, μ2, rs2, rh2, ?_⟩⟩
          · have e1 : L2.wipe τ2 vs = L2.wipe (L2.wipe τ vs) vs := wipe_ext hl2 fun j hj => f2 j fun z => hj (his j z)
            rw [e1]
            exact wipe_ext (wipe_length _ _) fun j hj => wipe_get hj
          dsimp only at q
          cases et : t σ1 h2 with
          | stuck => rw [et] at q; exact q.elim
          | ex e h3 => rw [et] at q; exact q.elim
          | ok k h3 =>
            rw [et] at q
            intro b H3 μ3 st3 rh3 rb
            cases (show k = b from rb)
            cases k with
            | false =>
              rw [if_neg Bool.false_ne_true]
              have sta := (st'.trans st2).trans st3
              exact ⟨h3, μ3, acc, xs, st0.trans sta.toStp0, st.within (f := μ1.f) hA hf sta rh3.dj, sta.fz.trans hf, rh3, sta.hid _ _ mA hHA, racc.stp sta, q⟩
            | true =>
              rw [if_pos rfl]
              refine ⟨σ1, h3, μ3, rs2.stp st3, rh3, ?_⟩
              dsimp only at q
              cases em : m σ1 h3 with
              | stuck => rw [em] at q; exact q.elim
              | ex e h4 => rw [em] at q; exact q.elim
              | ok yd h4 =>
                rw [em] at q
                intro v H4 μ4 st4 rh4 rv
                dsimp only at q
                by_cases hl : acc.length < 16777216
                · rw [if_pos hl] at q
                  have sta := ((st'.trans st2).trans st3).trans st4
                  have hA4 := sta.hid _ _ mA hHA
                  have mA4 : A ∈ μ4.f := by rw [sta.fz]; exact mA
                  have pk : Stp0 μ4 μ4 H4 (upd H4 A (.lst (xs ++ [v]))) := Stp0.poke mA4
                  refine ⟨xs, hA4, by rw [sizeLine_eq, racc.length]; exact hl, h4, μ4, acc ++ [yd], xs ++ [v], (st0.trans sta.toStp0).trans pk, (st.within (f := μ1.f) hA hf sta rh4.dj).poke_new hA, sta.fz.trans hf, rh4.poke mA4, upd_same, ?_, q⟩
                  exact ((racc.stp sta).append (.cons rv .nil)).stp0 pk
                · rw [if_neg hl] at q
                  exact q.elim
      · rw [if_neg hG] at q
        exact q.elim
    · have ei : i = ds.length := by omega
      subst ei
      rw [List.drop_length, lcL] at q
      by_cases hG : G h
      · rw [if_pos hG] at q
        refine .inl ⟨w.stops H μ h st0 rh hG, q _ H _ st (rh.show fun a m => by rw [hf]; exact List.mem_cons_of_mem _ m) ?_⟩
        have sh : Stp0 μ ⟨μ.l, μ1.f⟩ H H := Stp0.show fun a m => by rw [hf]; exact List.mem_cons_of_mem _ m
        refine .fro hHA (fun z => ?_) (racc.stp0 sh)
        rcases z with z | z
        · exact rh.dj A z mA
        · obtain ⟨u, e⟩ := rh1.fo A z
          rw [hA] at e; cases e
      · rw [if_neg hG] at q
        exact q.elim
def QTs (X : Cx) (W : WX) (t : MB) (es : List Expr) : Prop := PTs X es (tT X W t)
def tYesM : MB := fun _ h => .ok true h
theorem qts_nil : QTs X W tYesM [] := ⟨fun pins s τ H Q I ⟨σ, h, μ, rs, rh, q⟩ => pts_nil.run pins s τ H Q I (q.now rh rfl)⟩
theorem qts_one {t : MB} {c : Expr} (h : QT X W t c) : QTs X W t [c] := pts_one h
variable {N : List Str}
theorem q_lc {it : MI} {g : MG} {t : MB} {m : M} {is : List Nat} {elt tg iter : Expr} {ifs : List Expr} {scope : Scope} {own : List (Str × Nat)} {pos : Pos} (hc : X.calm = true) (hN : X.N.Nodup) (hi : QI X W tg it iter) (ok : BlkOk X.N X.env.scope scope own)
    (hg : ∀ (s : Shared) (H : Hp) (C : Addr) (cl : List (Str × Addr)) (fp : List Addr), QG (X.blk s H scope (compEnvC scope cl C X.env) fp) g is tg) (ht : ∀ (s : Shared) (H : Hp) (C : Addr) (cl : List (Str × Addr)) (fp : List Addr), QTs (X.blk s H scope (compEnvC scope cl C X.env) fp) WNever t ifs)
    (he : ∀ (s : Shared) (H : Hp) (C : Addr) (cl : List (Str × Addr)) (fp : List Addr), QE (X.blk s H scope (compEnvC scope cl C X.env) fp) WNever m elt) (his : ∀ j, j ∈ is → j ∈ own.map (·.2) := by decide) (hs : ∀ x, foldedSetIterable iter X.env x = pure x := by intro _; rfl) :
    QE X W (eLc it g t m (own.map (·.2))) (.ListComp elt [⟨tg, iter, ifs, 0⟩] scope pos) :=
  QE.of (pe_lc hc hN hi ok (g := tGt X g is) (tt := tT X WNever t) (te := tE X WNever m) hg ht he hs) (lc_go his)
/-- name = [..] -/
theorem qs_setLc {it : MI} {g : MG} {t : MB} {m : M} {is : List Nat} {i : Nat} {y : Str} {py : Pos} {elt tg iter : Expr} {ifs : List Expr} {scope : Scope} {own : List (Str × Nat)} {pos spos : Pos} (hc : X.calm = true) (hN : X.N.Nodup) (hy : X.N[i]? = some y) (hyl : X.env.scope.names.lookup y = some .local)
    (hsw : swapsWith (.ListComp elt [⟨tg, iter, ifs, 0⟩] scope pos) (some (.Name y py)) spos.line X.env = pure true) (hi : QI X W tg it iter) (ok : BlkOk X.N X.env.scope scope own)
    (hg : ∀ (s : Shared) (H : Hp) (C : Addr) (cl : List (Str × Addr)) (fp : List Addr), QG (X.blk s H scope (compEnvC scope cl C X.env) fp) g is tg) (ht : ∀ (s : Shared) (H : Hp) (C : Addr) (cl : List (Str × Addr)) (fp : List Addr), QTs (X.blk s H scope (compEnvC scope cl C X.env) fp) WNever t ifs)
    (he : ∀ (s : Shared) (H : Hp) (C : Addr) (cl : List (Str × Addr)) (fp : List Addr), QE (X.blk s H scope (compEnvC scope cl C X.env) fp) WNever m elt) (his : ∀ j, j ∈ is → j ∈ own.map (·.2) := by decide) (hs : ∀ x, foldedSetIterable iter X.env x = pure x := by intro _; rfl) :
    QS X W (sAsg (eLc it g t m (own.map (·.2))) (gSlot i)) (.Assign [.Name y py] (.ListComp elt [⟨tg, iter, ifs, 0⟩] scope pos) spos) :=
  PS.of (ps_setLc hc hN hy hyl hsw hi ok (g := tGt X g is) (tt := tT X WNever t) (te := tE X WNever m) hg ht he hs) fun D τ H ⟨σ, h, μ, rs, rh, q⟩ =>
    lc_go his τ H _ (goS rs rh q fun d h1 v H1 μ1 s1 rs1 rh1 rd q1 => q1 _ H1 μ1 Stp.refl (rs1.set rd i) rh1)
end
end Q

/-! Q10: the program's own defs. -/
namespace Q
open PySem PySem.Spec PyProof.Rows L2

mutual
/-- no reference to a changing object from n on -/
def closed (n : Nat) : D → Bool
  | .ref k => decide (k < n)
  | .tup ds => closeds n ds
  | .fro ds => closeds n ds
  | .scr ds => closeds n ds
  | .non => true
  | .bl _ => true
  | .int _ => true
  | .str _ => true
  | .exn _ _ _ _ xs => closeds n xs
def closeds (n : Nat) : List D → Bool
  | [] => true
  | d :: ds => closed n d && closeds n ds
end
def closedO (n : Nat) : O → Bool
  | .lst ds => closeds n ds
  | .dk kvs => kvs.all fun p => closed n p.2
  | .dt kvs => kvs.all fun p => closed n p.1 && closed n p.2
  | .ins _ fs => fs.all fun p => closed n p.2
def okT (h h' : AH) : Prop := ∀ o ∈ h'.take h.length, o ∈ h ∨ closedO h.length o = true
def froOf (b : Bool) (n : Nat) (h' : AH) : D → Option D
  | .ref k => if b = true ∧ n ≤ k then (listAt h' k).map .fro else none
  | _ => none
open Classical in
/-- what a call leaves: the callee's own changing objects, which nothing refers to, are forgotten; a list that comes back stands still (b) -/
noncomputable def trimR (h : AH) (b : Bool) : Res D → Res D
  | .ok d h' => if h'.length = h.length then .ok d h' else if okT h h' ∧ closed h.length d = true then .ok d (h'.take h.length) else match froOf b h.length h' d with
    | some e => if okT h h' ∧ closed h.length e = true then .ok e (h'.take h.length) else .ok d h'
    | none => .ok d h'
  | r => r
open Classical in
theorem trimR_ok {h h' : AH} {b : Bool} {d : D} : trimR h b (.ok d h') = if h'.length = h.length then .ok d h' else if okT h h' ∧ closed h.length d = true then .ok d (h'.take h.length) else match froOf b h.length h' d with
    | some e => if okT h h' ∧ closed h.length e = true then .ok e (h'.take h.length) else .ok d h'
    | none => .ok d h' := rfl
theorem trim_same {h h' : AH} {b : Bool} {d : D} (e : h'.length = h.length) : trimR h b (.ok d h') = .ok d h' := by
  rw [trimR_ok]
  rw [if_pos e]
theorem trim_ex {h h' : AH} {b : Bool} {e : Ex} : trimR h b (.ex e h') = .ex e h' := rfl
theorem trim_drop {h h1 g : AH} {b : Bool} {d : D} (e : h1.length = h.length) (ho : ∀ o ∈ h1, o ∈ h ∨ closedO h.length o = true) (hd : closed h.length d = true) : trimR h b (.ok d (h1 ++ g)) = .ok d h1 := by
  rw [trimR_ok]
  have ht : (h1 ++ g).take h.length = h1 := by rw [← e, List.take_left]
  by_cases hl : (h1 ++ g).length = h.length
  · rw [if_pos hl]
    have hg : g = [] := by
      rw [List.length_append] at hl
      exact List.length_eq_zero_iff.mp (by omega)
    rw [hg, List.append_nil]
  · rw [if_neg hl, if_pos ⟨fun o m => ho o (by rw [ht] at m; exact m), hd⟩, ht]
theorem trim_fro {h h1 g : AH} {k : Nat} {ds : List D} (e : h1.length = h.length) (ho : ∀ o ∈ h1, o ∈ h ∨ closedO h.length o = true) (hk : g[k]? = some (.lst ds)) (hd : closeds h.length ds = true) : trimR h true (.ok (.ref (h.length + k)) (h1 ++ g)) = .ok (.fro ds) h1 := by
  rw [trimR_ok]
  have ht : (h1 ++ g).take h.length = h1 := by rw [← e, List.take_left]
  have hg : 0 < g.length := Nat.lt_of_le_of_lt (Nat.zero_le k) (List.getElem?_eq_some_iff.mp hk).1
  have hn : ¬ (h1 ++ g).length = h.length := by rw [List.length_append]; omega
  have hc : ¬ closed h.length (.ref (h.length + k)) = true := by simp [closed]
  rw [if_neg hn, if_neg fun z => hc z.2]
  have hf : froOf true h.length (h1 ++ g) (.ref (h.length + k)) = some (.fro ds) := by
    simp only [froOf, true_and, Nat.le_add_right, if_true, listAt]
    rw [List.getElem?_append_right (by omega), e, Nat.add_sub_cancel_left, hk]
    rfl
  rw [hf]
  exact (if_pos ⟨fun o m => ho o (by rw [ht] at m; exact m), by rw [closed]; exact hd⟩).trans (by rw [ht])
theorem trim_keep {h h' : AH} {d : D} (hd : closed h.length d = false) : trimR h false (.ok d h') = .ok d h' := by
  rw [trimR_ok]
  by_cases hl : h'.length = h.length
  · rw [if_pos hl]
  · rw [if_neg hl, if_neg fun z => by rw [hd] at z; exact Bool.false_ne_true z.2]
    have hf : froOf false h.length h' d = none := by
      unfold froOf
      split
      · rw [if_neg fun z => Bool.false_ne_true z.1]
      · rfl
    rw [hf]
/-- the result of a body -/
def retOf : Out → Res D
  | .nx _ h => .ok .non h
  | .rt d h => .ok d h
  | .ex e _ h => .ex e h
  | _ => .stuck
@[simp] theorem retOf_nx (σ : AS) (h : AH) : retOf (.nx σ h) = .ok .non h := rfl
@[simp] theorem retOf_rt (d : D) (h : AH) : retOf (.rt d h) = .ok d h := rfl
@[simp] theorem retOf_ex (e : Ex) (σ : AS) (h : AH) : retOf (.ex e σ h) = .ex e h := rfl
/-- the mirror of a def: n parameters, N names -/
noncomputable def fnR (b : Bool) (n N : Nat) (body : MS) (ds : List D) (h : AH) : Res D := if ds.length = n then trimR h b (retOf (body (ds.map some ++ List.replicate (N - n) none) h)) else .stuck

section
variable {P : Program} {w : World} {K : PySem.W.Frag} {H H' : Hp} {μ μ' : Mu} {h h' : AH}
mutual
theorem RD.closed : ∀ {d : D} {v : V}, RD K H μ d v → Q.closed μ.l.length d = true
  | .non, _, _ => rfl
  | .bl _, _, _ => rfl
  | .int _, _, _ => rfl
  | .str _, _, _ => rfl
  | .tup ds, _, r => by cases r with | tup t rr => rw [Q.closed]; exact RDs.closed rr
  | .fro ds, _, r => by cases r with | fro t n rr => rw [Q.closed]; exact RDs.closed rr
  | .scr ds, _, r => by cases r with | scr t rr => rw [Q.closed]; exact RDs.closed rr
  | .ref n, _, r => by
    cases r with
    | ref e => rw [Q.closed]; exact decide_eq_true (List.getElem?_eq_some_iff.mp e).1
  | .exn _ _ _ _ xs, _, r => by cases r with | exn t n rr => rw [Q.closed]; exact RDs.closed rr
theorem RDs.closed : ∀ {ds : List D} {vs : List V}, RDs K H μ ds vs → closeds μ.l.length ds = true
  | [], _, _ => rfl
  | d :: ds, _, r => by cases r with | cons r1 r2 => rw [closeds, RD.closed r1, RDs.closed r2]; rfl
end
theorem RelO.closed {o : O} {a : Addr} (r : RelO P w K H μ o a) : closedO μ.l.length o = true := by
  cases r with
  | lst e rr => exact rr.closed
  | dk e rr =>
    rename_i kvs qs
    show kvs.all _ = true
    unfold RKV at rr
    clear e
    induction rr with
    | nil => rfl
    | cons r1 t ih => rw [List.all_cons, ih, r1.2.closed]; rfl
  | dt e hz hl rr hn =>
    rename_i kvs xs
    show kvs.all _ = true
    clear e hn hl
    induction rr with
    | nil => rfl
    | cons r1 t ih =>
      obtain ⟨v, _, rv⟩ := r1.val
      rw [List.all_cons, ih, r1.rk.closed, rv.closed]; rfl
  | ins e e2 n rr =>
    rename_i c fs dx vs
    show fs.all _ = true
    unfold FldR at rr
    clear e
    induction rr with
    | nil => rfl
    | cons r1 t ih => rw [List.all_cons, ih, r1.2.closed]; rfl
/-- the callee's objects forgotten -/
theorem rd_back (s : Stp μ μ' H H') : ∀ {d : D} {v : V}, RD K H' μ' d v → closed μ.l.length d = true → RD K H' μ d v := by
  have hl : ∀ k a, k < μ.l.length → μ'.l[k]? = some a → μ.l[k]? = some a := fun k a hk e => by
    have h1 := List.getElem?_eq_getElem hk
    have h2 := s.pre k _ h1
    rw [e] at h2; cases h2
    exact h1
  have hm : ∀ a, a ∉ μ' → a ∉ μ := fun a n m => n (by
    rcases m with m | m
    · obtain ⟨k, e⟩ := List.mem_iff_getElem?.mp m
      exact mem_at (s.pre k a e)
    · exact .inr (by rw [s.fz]; exact m))
  have tt : ∀ {a xs}, TupAt K H' μ' a xs → TupAt K H' μ a xs := fun t => t.imp (fun z => ⟨z.1, hm _ z.2⟩) id
  have ll : ∀ {a xs}, LstAt K H' μ' a xs → LstAt K H' μ a xs := fun t => t.imp (fun z => ⟨z.1, hm _ z.2⟩) id
  intro d v
  induction d using D.rec (motive_2 := fun ds => ∀ {vs}, RDs K H' μ' ds vs → closeds μ.l.length ds = true → RDs K H' μ ds vs) generalizing v with
  | non => intro r _; cases r; exact .non
  | bl b => intro r _; cases r; exact .bl b
  | int b => intro r _; cases r; exact .int b
  | str b => intro r _; cases r; exact .str b
  | tup ds ih => intro r c; rw [closed] at c; cases r with | tup t rr => exact .tup (tt t) (ih rr c)
  | fro ds ih => intro r c; rw [closed] at c; cases r with | fro t n rr => exact .fro t (hm _ n) (ih rr c)
  | scr ds ih => intro r c; rw [closed] at c; cases r with | scr t rr => exact .scr (ll t) (ih rr c)
  | ref k => intro r c; rw [closed] at c; cases r with | ref e => exact .ref (hl _ _ (of_decide_eq_true c) e)
  | exn a d c ns xs ih => intro r c; rw [closed] at c; cases r with | exn t n rr => exact .exn t (hm _ n) (ih rr c)
  | nil => rename_i vs r _; cases r; exact .nil
  | cons d ds ih1 ih2 =>
    rename_i vs r c
    rw [closeds, Bool.and_eq_true] at c
    cases r with
    | cons r1 r2 => exact .cons (ih1 r1 c.1) (ih2 r2 c.2)
theorem rds_back (s : Stp μ μ' H H') : ∀ {ds : List D} {vs : List V}, RDs K H' μ' ds vs → closeds μ.l.length ds = true → RDs K H' μ ds vs
  | [], _, r, _ => by cases r; exact .nil
  | d :: ds, _, r, c => by
    rw [closeds, Bool.and_eq_true] at c
    cases r with
    | cons r1 r2 => exact .cons (rd_back s r1 c.1) (rds_back s r2 c.2)
theorem relO_back (s : Stp μ μ' H H') {o : O} {a : Addr} (r : RelO P w K H' μ' o a) (c : closedO μ.l.length o = true) : RelO P w K H' μ o a := by
  cases r with
  | lst e rr => exact .lst e (rds_back s rr c)
  | dk e rr =>
    rename_i kvs qs
    refine .dk e ?_
    unfold RKV at rr ⊢
    replace c : kvs.all (fun p => closed μ.l.length p.2) = true := c
    clear e
    induction rr with
    | nil => exact .nil
    | cons r1 t ih =>
      rw [List.all_cons, Bool.and_eq_true] at c
      exact .cons ⟨r1.1, rd_back s r1.2 c.1⟩ (ih c.2)
  | dt e hz hl rr hn =>
    rename_i kvs xs
    refine .dt e hz hl ?_ hn
    replace c : kvs.all (fun p => closed μ.l.length p.1 && closed μ.l.length p.2) = true := c
    clear e hn hl
    induction rr with
    | nil => exact .nil
    | cons r1 t ih =>
      rw [List.all_cons, Bool.and_eq_true, Bool.and_eq_true] at c
      obtain ⟨v, rv, rd⟩ := r1.val
      exact .cons ⟨r1.key, r1.dep, rd_back s r1.rk c.1.1, v, rv, rd_back s rd c.1.2⟩ (ih c.2)
  | ins e e2 n rr =>
    rename_i cn fs dx vs
    have hm : dx ∉ μ := fun m => n (by
      rcases m with m | m
      · obtain ⟨k, ek⟩ := List.mem_iff_getElem?.mp m
        exact mem_at (s.pre k dx ek)
      · exact .inr (by rw [s.fz]; exact m))
    refine .ins e e2 hm ?_
    unfold FldR at rr ⊢
    replace c : fs.all (fun p => closed μ.l.length p.2) = true := c
    clear e
    induction rr with
    | nil => exact .nil
    | cons r1 t ih =>
      rw [List.all_cons, Bool.and_eq_true] at c
      exact .cons ⟨r1.1, rd_back s r1.2 c.1⟩ (ih c.2)
theorem stp_back (s : Stp μ μ' H H') : Stp μ μ H H' := ⟨⟨fun _ _ z => z, fun _ m n => absurd m n, s.keep⟩, rfl, s.hid⟩
theorem relH_back (s : Stp μ μ' H H') (r0 : RelH P w K H μ h) (r : RelH P w K H' μ' h') (c : okT h h') : RelH P w K H' μ (h'.take h.length) where
  len := by
    have h1 : μ.l.length ≤ μ'.l.length := by
      cases hl : μ.l.length with
      | zero => exact Nat.zero_le _
      | succ n =>
        have h2 := s.pre n _ (List.getElem?_eq_getElem (by omega : n < μ.l.length))
        exact (List.getElem?_eq_some_iff.mp h2).1
    rw [List.length_take, ← r.len, ← r0.len]
    omega
  nd := r0.nd
  dj := r0.dj
  fo := fun a m => let ⟨u, e⟩ := r0.fo a m; ⟨u, s.hid a u m e⟩
  obj := fun n o a e1 e2 => by
    have hn : n < h.length := by rw [← r0.len]; exact (List.getElem?_eq_some_iff.mp e2).1
    have e3 : h'[n]? = some o := by rw [List.getElem?_take_of_lt hn] at e1; exact e1
    have ro := r.obj n o a e3 (s.pre n a e2)
    refine relO_back s ro ?_
    rw [r0.len]
    rcases c o (List.mem_of_getElem? e1) with m | m
    · obtain ⟨k, ek⟩ := List.mem_iff_getElem?.mp m
      obtain ⟨b, _, rb⟩ := r0.addr ek
      have := rb.closed
      rw [r0.len] at this
      exact this
    · exact m
end

section
variable {P : Program} {w : World} {K : PySem.W.Frag} {mg : Str → Option Value} {base : Heap} {CX : CXT} {x qual : Str} {params : Arguments} {ss : List Stmt} {scope : Scope} {dvs : List V} {kws : List (Str × V)} {f : Addr} {fd : FuncData}
/-- what a def lets out, in its own context -/
abbrev WFn (E : XK) : WX := fun cls d _ H => E cls d H
/-- the promise of a mirror, as a reading of its body -/
theorem sp_body {X : Cx} {E : XK} {N : List Str} {n : Nat} {b : Bool} {body : MS} {vs : List V} {H : Hp} {Q : VK} (hsp : spOf X.prog X.w X.K X.mg (fnR b n N.length body) vs H Q E) : tXS X (WFn E) body { nx := fun _ H' => Q .non H', rt := Q } (L2.start N vs) H := by
  have hvl : vs.length = n := by
    obtain ⟨ds, μ, h, rh, rds, q⟩ := hsp
    rw [rds.length]
    unfold fnR at q
    by_cases hl : ds.length = n
    · exact hl
    · rw [if_neg hl] at q
      exact q.elim
  obtain ⟨ds, μ, h, rh, rds, q⟩ := hsp
  have hl : ds.length = n := by rw [← rds.length]; exact hvl
  unfold fnR at q
  rw [if_pos hl] at q
  refine ⟨ds.map some ++ List.replicate (N.length - n) none, h, μ, ⟨?_, fun i d e => ?_⟩, rh, ?_⟩
  · show _ = (L2.start N vs).length
    unfold L2.start
    simp [hl, hvl]
  · by_cases hi : i < ds.length
    · rw [List.getElem?_append_left (by simpa using hi), List.getElem?_map] at e
      cases ed : ds[i]? with
      | none => rw [ed] at e; cases e
      | some d' =>
        rw [ed] at e
        cases e
        obtain ⟨v, ev, rv⟩ := rds.get ed
        refine ⟨v, ?_, rv⟩
        unfold L2.start
        have hiv : i < vs.length := by rw [rds.length]; exact hi
        rw [List.getElem?_append_left (by simpa using hiv), List.getElem?_map, ev]
        rfl
    · rw [List.getElem?_append_right (by simpa using hi)] at e
      have := List.mem_replicate.mp (List.mem_of_getElem? e)
      cases this.2
  · cases eb : body (ds.map some ++ List.replicate (N.length - n) none) h with
    | stuck => rw [eb] at q; exact q
    | bk a c => rw [eb] at q; exact q.elim
    | ct a c => rw [eb] at q; exact q.elim
    | ex e a c =>
      rw [eb] at q
      exact fun cls dd τ H' μ' s' _ rh' rx => q cls dd H' μ' s' rh' rx
    | nx a h' =>
      rw [eb] at q
      intro τ H' μ' s' rs' rh'
      show Q .non H'
      have qq : PostF X.prog X.w X.K X.mg H μ Q E (trimR h b (.ok .non h')) := q
      rw [trimR_ok] at qq
      by_cases h1 : h'.length = h.length
      · rw [if_pos h1] at qq
        exact qq .non H' μ' s' rh' .non
      · rw [if_neg h1] at qq
        by_cases h2 : okT h h' ∧ closed h.length .non = true
        · rw [if_pos h2] at qq
          exact qq .non H' μ (stp_back s') (relH_back s' rh rh' h2.1) .non
        · rw [if_neg h2] at qq
          exact qq .non H' μ' s' rh' .non
    | rt d h' =>
      rw [eb] at q
      intro v H' μ' s' rh' rd
      show Q v H'
      have qq : PostF X.prog X.w X.K X.mg H μ Q E (trimR h b (.ok d h')) := q
      rw [trimR_ok] at qq
      by_cases h1 : h'.length = h.length
      · rw [if_pos h1] at qq
        exact qq v H' μ' s' rh' rd
      · rw [if_neg h1] at qq
        by_cases h2 : okT h h' ∧ closed h.length d = true
        · rw [if_pos h2] at qq
          exact qq v H' μ (stp_back s') (relH_back s' rh rh' h2.1) (rd_back s' rd (by rw [rh.len]; exact h2.2))
        · rw [if_neg h2] at qq
          split at qq
          · rename_i e ef
            by_cases h3 : okT h h' ∧ closed h.length e = true
            · rw [if_pos h3] at qq
              refine qq v H' μ (stp_back s') (relH_back s' rh rh' h3.1) ?_
              unfold froOf at ef
              split at ef
              · split at ef
                · rename_i k' hk
                  obtain ⟨es, ee, rfl⟩ := Option.map_eq_some_iff.mp ef
                  cases rd with
                  | @ref _ a hm =>
                    cases rh'.obj _ _ _ (listAt_some ee) hm with
                    | lst ha rr =>
                      have hc := h3.2
                      rw [closed] at hc
                      refine .fro ha (fun m => ?_) (rds_back s' rr (by rw [rh.len]; exact hc))
                      rcases m with m | m
                      · obtain ⟨j, ej⟩ := List.mem_iff_getElem?.mp m
                        have ej' := s'.pre j _ ej
                        obtain ⟨g1, g2⟩ := List.getElem?_eq_some_iff.mp ej'
                        obtain ⟨g3, g4⟩ := List.getElem?_eq_some_iff.mp hm
                        have ejk := (List.getElem_inj rh'.nd).mp (g2.trans g4.symm)
                        have hj : j < h.length := by rw [← rh.len]; exact (List.getElem?_eq_some_iff.mp ej).1
                        have := hk.2
                        omega
                      · exact rh'.dj a (List.mem_of_getElem? hm) (by rw [s'.fz]; exact m)
                · cases ef
              · cases ef
            · rw [if_neg h3] at qq
              exact qq v H' μ' s' rh' rd
          · exact qq v H' μ' s' rh' rd
/-- a def keeps the promise of its mirror -/
theorem fn_ok {N ps : List Str} {k : Nat} {b : Bool} {body : MS} (F : FunD K x qual params ss scope dvs kws f fd) (S : FnScope N ps scope)
    (hbody : ∀ (cdv : Value) (A : Around) (outer : List Env) (s : Shared) (H : Hp) (E : XK), Room k (A.deeper (envOfC qual scope s.heap.objs.size f cdv)) → QSs (cxOf CX P w K mg base N qual scope f cdv A outer s H E) (WFn E) body ss) :
    FnOk P w K mg base CX (k + 1) f fd ps (spOf P w K mg (fnR b ps.length N.length body)) := by
  have hlen : ∀ vs H Q E, spOf P w K mg (fnR b ps.length N.length body) vs H Q E → vs.length = ps.length := fun vs H Q E ⟨ds, μ, h, rh, rds, q⟩ => by
    rw [rds.length]
    unfold fnR at q
    by_cases hl : ds.length = ps.length
    · exact hl
    · rw [if_neg hl] at q
      exact q.elim
  refine F.ok S hlen fun cdv A outer s H vs Q E hr hsp => ⟨_, hbody cdv A outer s H E hr, sp_body (X := cxOf CX P w K mg base N qual scope f cdv A outer s H E) hsp⟩
/-- a def as it stands: its promise by the mirror f; dfl fills up what a call leaves out -/
def Def (P : Program) (w : World) (K : PySem.W.Frag) (mg : Str → Option Value) (base : Heap) (CX : CXT) (k : Nat) (x : Str) (dfl : List D) (f : List D → AH → Res D) : Prop :=
  ∃ (fa : Addr) (fd : FuncData) (ps : List Str) (dvs : List V) (us : List Value), FnOk P w K mg base CX k fa fd ps (spOf P w K mg f) ∧ mg x = some (.ref fa) ∧ PySem.W.keepIn K (.ref fa) = true ∧ Binds K fd ps us ∧ Vals dvs us ∧ ∀ H μ, RDs K H μ dfl dvs
theorem Def.cal {X : Cx} {W : WX} {k : Nat} {x : Str} {dfl : List D} {f : List D → AH → Res D} (d : Def X.prog X.w X.K X.mg X.base CX k x dfl f) (hr : Room k X.A) (hx : ∀ σ, PassesAt CX X σ (WE W σ)) : Cal X W x dfl f := by
  obtain ⟨fa, fd, ps, dvs, us, F, h1, h2, h3, h4, h5⟩ := d
  exact ⟨k, fa, fd, ps, dvs, us, CX, F, hr, h1, h2, h3, h4, h5, hx⟩
theorem pass0At {X : Cx} {W : WX} (σ : L2.St) : PassesAt CX0 X σ (WE W σ) := fun _ _ _ _ _ _ h => h.elim
end
end Q

/-! Q11: short forms for printed texts. -/
namespace Q
open PySem PySem.Spec PyProof.Rows L2
section
variable {X : Cx} {W : WX} {pos pos' : Pos}
theorem qv (i : Nat) {x : Str} (hN : X.N[i]? = some x := by rfl) (hv : Vis X.env.scope x := by first | exact Or.inl rfl | exact Or.inr (Or.inl rfl) | exact Or.inr (Or.inr rfl)) (hd : (x == ("__debug__" : Str)) = false := by decide)
    (hcd : (x == ("__classdict__" : Str)) = false := by decide) : QE X W (eVar i) (.Name x pos) := q_var hN hv hd hcd
theorem qgn {i : Nat} {x : Str} (hN : X.N.Nodup) (hi : X.N[i]? = some x := by rfl) (hx : Loc X.env.scope x := by first | exact Or.inl rfl | exact Or.inr rfl) (hf : X.fn x = true ∨ X.env.scope.names.lookup x = some .local := by first | exact .inl rfl | exact .inr rfl | assumption) : QG X (gSlot i) [i] (.Name x pos) := qg_name hN hi hx hf
theorem qsn {m : M} {i : Nat} {x : Str} {e : Expr} (hN : X.N.Nodup) (hm : QE X W m e) (hi : X.N[i]? = some x := by rfl) (hx : Loc X.env.scope x := by first | exact Or.inl rfl | exact Or.inr rfl) (hs : swapsWith e (some (.Name x pos')) pos.line X.env = pure false := by rfl)
    (hf : X.fn x = true ∨ X.env.scope.names.lookup x = some .local := by first | exact .inl rfl | exact .inr rfl | assumption) : QS X W (sAsg m (gSlot i)) (.Assign [.Name x pos'] e pos) := qs_set hN hi hx hm hs hf
/-! + of any sort -/
def dPlus : F2 := fun x y h => match dAdd x y h with
  | some r => some r
  | none => dCat x y h
theorem opd_plus : OpD X (binaryOp .Add) dPlus := fun pins s σ H v u v' u' Q I rv ru ⟨x, y, μ, h, rh, rx, ry, q⟩ => by
  unfold dPlus at q
  split at q
  · rename_i r e
    exact opd_add pins s σ H v u v' u' Q I rv ru ⟨x, y, μ, h, rh, rx, ry, by rw [e]; exact q⟩
  · exact opd_cat pins s σ H v u v' u' Q I rv ru ⟨x, y, μ, h, rh, rx, ry, q⟩
abbrev dPlusR : F2 := dCatR
theorem opd_plusR : OpD X (binaryOp .Add) dPlusR := opd_catR
def eNeg (a : M) : M := fun σ h => (a σ h).bind fun x h1 => match x with
  | .int i => .ok (.int (-i)) h1
  | _ => .stuck
theorem q_neg {a : M} {ea : Expr} (ha : QE X W a ea) : QE X W (eNeg a) (.UnaryOp .USub ea pos) := QE.of (pe_un un_neg ha) fun τ H Q ⟨σ, h, μ, rs, rh, q⟩ => go rs rh q fun x h1 v H1 μ1 s1 rs1 rh1 rx q1 => by
  split at q1
  · cases rx
    exact ⟨_, rfl, q1.now rh1 (.int _)⟩
  · exact q1.elim
end
theorem fnR_pos {b : Bool} {n N : Nat} {body : MS} {ds : List D} {h : AH} {σ : AS} (hl : ds.length = n) (hs : ds.map some ++ List.replicate (N - n) none = σ) : fnR b n N body ds h = trimR h b (retOf (body σ h)) := by
  rw [fnR, if_pos hl, hs]
theorem hu64 {k : Nat} {A : Around} (r : Room k A) : A.units + 64 < cLine := by have := r.un; omega
/-- a constant of the module -/
def GCm (mg : Str → Option Value) (K : PySem.W.Frag) (x : Str) (d : D) : Prop := ∃ (v : V) (u : Value), mg x = some u ∧ RelV v u ∧ ∀ H μ, RD K H μ d v
theorem Def.calE {P : Program} {w : World} {K : PySem.W.Frag} {mg : Str → Option Value} {base : Heap} {CX : CXT} {X : Cx} {W : WX} {k : Nat} {x : Str} {dfl : List D} {f : List D → AH → Res D} {A : Around} (d : Def P w K mg base CX k x dfl f) (hr : Room k A) (hx : ∀ σ, PassesAt CX X σ (WE W σ))
    (e1 : X.prog = P) (e2 : X.w = w) (e3 : X.K = K) (e4 : X.mg = mg) (e5 : X.base = base) (e6 : X.A = A) : Cal X W x dfl f := by
  subst e1 e2 e3 e4 e5 e6
  exact d.cal hr hx
/-- calls where every parameter is written -/
theorem Def.mk0 {P : Program} {w : World} {K : PySem.W.Frag} {mg : Str → Option Value} {base : Heap} {CX : CXT} {k : Nat} {x qual : Str} {params : Arguments} {body : List Stmt} {scope : Scope} {ps : List Str} {fa : Addr} {fd : FuncData} {f : List D → AH → Res D}
    (F : FunD K x qual params body scope [] [] fa fd) (ok : FnOk P w K mg base CX k fa fd ps (spOf P w K mg f)) (g : mg x = some (.ref fa))
    (h : ∀ (kV doc pm : Value) (an : Option Addr) (cdv ct : Value) (us : List Value), us.length = ps.length → bindArgs (PySem.W.fnOf x qual params body scope .none kV doc pm an cdv ct) ⟨us, []⟩ = pure (ps.zip us)) : Def P w K mg base CX k x [] f :=
  ⟨fa, fd, ps, [], [], ok, g, F.kp, F.bindsN h, .nil, fun _ _ => .nil⟩
/-- a def with defaults: n parameters are written -/
theorem Def.mk1 {P : Program} {w : World} {K : PySem.W.Frag} {mg : Str → Option Value} {base : Heap} {CX : CXT} {k : Nat} {x qual : Str} {params : Arguments} {body : List Stmt} {scope : Scope} {ps : List Str} {fa : Addr} {fd : FuncData} {f : List D → AH → Res D} {dvs : List V} {dfl : List D} (n j : Nat)
    (F : FunD K x qual params body scope dvs [] fa fd) (ok : FnOk P w K mg base CX k fa fd ps (spOf P w K mg f)) (g : mg x = some (.ref fa)) (hd : dvs ≠ []) (hn : n + (dvs.length - j) = ps.length) (hr : ∀ H μ, RDs K H μ dfl (dvs.drop j))
    (h : ∀ (T : Addr) (kV doc pm : Value) (an : Option Addr) (cdv ct : Value) (us its : List Value), us.length = n → its.length = dvs.length →
      ∃ k, bindArgs (PySem.W.fnOf x qual params body scope (.ref T) kV doc pm an cdv ct) ⟨us, []⟩ = seqItems? (.ref T) >>= k ∧ k (some its.toArray) = pure (ps.zip (us ++ its.drop j))) : Def P w K mg base CX k x dfl f := by
  obtain ⟨ds, r, b⟩ := F.binds1 n j hd hn h
  exact ⟨fa, fd, ps, _, ds, ok, g, F.kp, b, r, hr⟩
end Q
namespace Q
open PySem PySem.Spec PyProof.Rows L2
/-- the law's promise at its entry -/
theorem sp_law {P : Program} {w : World} {K : PySem.W.Frag} {mg : Str → Option Value} {f : List D → AH → Res D} {n : Nat} {H : Hp} {a : Addr} {ns : List Int} (hlaw : ∀ ns : List Int, ns.length ≤ n → ∃ h', f [.scr (ns.map .int)] [] = .ok (.bl true) h') (hl : ns.length ≤ n) (hO : Only H) (hS : SqL K H a (ns.map V.int)) :
    spOf P w K mg f [.ref a] H (fun v _ => v = .bl true) fun _ _ _ => False := by
  obtain ⟨h', e⟩ := hlaw ns hl
  refine ⟨[.scr (ns.map .int)], ⟨[], []⟩, [], ⟨rfl, List.nodup_nil, (fun a m => nomatch m), (fun a m => nomatch m), fun n o a e => by simp at e⟩, .cons (.scr ?_ (RDs.of_ints ns)) .nil, ?_⟩
  · rcases hS with h | h
    · exact .inl ⟨h, fun m => m.elim (fun z => nomatch z) fun z => nomatch z⟩
    · exact .inr h
  · rw [e]
    intro v H' μ' _ _ rd
    cases rd
    rfl
end Q

/-! Q12: evaluation. -/
namespace Q
open PySem PySem.Spec PyProof.Rows L2

/-! ### statements -/
def Out.seq (r : Out) (b : MS) : Out := match r with
  | .nx σ h => b σ h
  | r => r
section
variable {σ σ' : AS} {h h' : AH} {b : MS} {d : D} {e : Ex}
@[simp] theorem seq_nx : (Out.nx σ h).seq b = b σ h := rfl
@[simp] theorem seq_rt : (Out.rt d h).seq b = .rt d h := rfl
@[simp] theorem seq_bk : (Out.bk σ h).seq b = .bk σ h := rfl
@[simp] theorem seq_ct : (Out.ct σ h).seq b = .ct σ h := rfl
@[simp] theorem seq_ex : (Out.ex e σ h).seq b = .ex e σ h := rfl
@[simp] theorem seq_stuck : Out.stuck.seq b = .stuck := rfl
end
section
variable {a b : MS} {σ : AS} {h : AH} {m n : M} {r : ML} {t u : MB} {d x y : D} {i j : Nat} {f g : F2}
@[simp] theorem run_sCons : sCons a b σ h = (a σ h).seq b := rfl
@[simp] theorem run_sNil : sNil σ h = .nx σ h := rfl
@[simp] theorem run_sRet : sRet m σ h = (m σ h).andS σ fun d h1 => .rt d h1 := rfl
@[simp] theorem run_sRetN : sRetN σ h = .rt .non h := rfl
@[simp] theorem run_sExpr : sExpr m σ h = (m σ h).andS σ fun _ h1 => .nx σ h1 := rfl
@[simp] theorem run_sBreak : sBreak σ h = .bk σ h := rfl
@[simp] theorem run_sCont : sCont σ h = .ct σ h := rfl
@[simp] theorem run_sNever : sNever σ h = .stuck := rfl
@[simp] theorem run_sIf : sIf t a b σ h = (t σ h).andS σ fun k h1 => if k = true then a σ h1 else b σ h1 := rfl
@[simp] theorem run_sAsg {g : MG} : sAsg m g σ h = (m σ h).andS σ fun d h1 => stO (g d σ h1) := rfl
@[simp] theorem run_gSlot : gSlot i d σ h = some (σ.set i (some d), h) := rfl
@[simp] theorem run_gTupD {gs : List D → AS → AH → Option (AS × AH)} {k : Nat} {ds : List D} : gTupD k gs (.tup ds) σ h = if ds.length = k then gs ds σ h else none := rfl
@[simp] theorem run_gsNil : gsNil [] σ h = some (σ, h) := rfl
@[simp] theorem run_gsCons {k : Nat} {gs : List D → AS → AH → Option (AS × AH)} {ds : List D} : gsCons (gSlot k) gs (d :: ds) σ h = gs ds (σ.set k (some d)) h := rfl
/-! ### expressions -/
@[simp] theorem run_eVar0 : eVar 0 (some d :: σ) h = .ok d h := rfl
@[simp] theorem run_eVarS {x : Option D} : eVar (i + 1) (x :: σ) h = eVar i σ h := rfl
@[simp] theorem run_eC : eC d σ h = .ok d h := rfl
@[simp] theorem run_aNil : aNil σ h = .ok [] h := rfl
@[simp] theorem run_aCons : aCons m r σ h = (m σ h).bind fun d h1 => (r σ h1).bind fun ds h2 => .ok (d :: ds) h2 := rfl
@[simp] theorem run_eTup : eTup r σ h = (r σ h).bind fun ds h1 => if ds.length ≤ 16777216 then .ok (.tup ds) h1 else .stuck := rfl
@[simp] theorem run_eLst : eLst r σ h = (r σ h).bind fun ds h1 => if ds.length ≤ 16777216 then .ok (.fro ds) h1 else .stuck := rfl
@[simp] theorem run_eNewL : eNewL r σ h = (r σ h).bind fun ds h1 => if ds.length ≤ 16777216 then .ok (.ref h1.length) (h1 ++ [.lst ds]) else .stuck := rfl
@[simp] theorem run_eNewT : eNewT σ h = .ok (.ref h.length) (h ++ [.dt []]) := rfl
@[simp] theorem run_eOp : eOp f m n σ h = (m σ h).bind fun x h1 => (n σ h1).bind fun y h2 => lif (f x y h2) := rfl
/-- a two-way choice by a value -/
def dif (d : D) (x y : Res D) : Res D := match d with
  | .bl true => x
  | .bl false => y
  | _ => .stuck
@[simp] theorem dif_bl {k : Bool} {x y : Res D} : dif (.bl k) x y = if k = true then x else y := by cases k <;> rfl
@[simp] theorem run_eAnd : eAnd m n σ h = (m σ h).bind fun c h1 => dif c (n σ h1) (.ok (.bl false) h1) := by
  unfold eAnd
  refine congrArg _ (funext fun c => funext fun h1 => ?_)
  cases c with
  | bl k => cases k <;> rfl
  | _ => rfl
@[simp] theorem run_eOr : eOr m n σ h = (m σ h).bind fun c h1 => dif c (.ok (.bl true) h1) (n σ h1) := by
  unfold eOr
  refine congrArg _ (funext fun c => funext fun h1 => ?_)
  cases c with
  | bl k => cases k <;> rfl
  | _ => rfl
def dnot (d : D) (h : AH) : Res D := match d with
  | .bl k => .ok (.bl (!k)) h
  | _ => .stuck
@[simp] theorem dnot_bl {k : Bool} : dnot (.bl k) h = .ok (.bl (!k)) h := rfl
@[simp] theorem run_eNot : eNot m σ h = (m σ h).bind fun c h1 => dnot c h1 := rfl
@[simp] theorem run_eIf : eIf t m n σ h = (t σ h).bind fun c h1 => if c = true then m σ h1 else n σ h1 := rfl
@[simp] theorem run_eChain {c : M} : eChain f g m n c σ h = (m σ h).bind fun x h1 => (n σ h1).bind fun y h2 => (lif (f x y h2)).bind fun z h3 => dif z ((c σ h3).bind fun w h4 => lif (g y w h4)) (.ok (.bl false) h3) := by
  unfold eChain
  refine congrArg _ (funext fun x => funext fun h1 => congrArg _ (funext fun y => funext fun h2 => congrArg _ (funext fun z => funext fun h3 => ?_)))
  cases z with
  | bl k => cases k <;> rfl
  | _ => rfl
@[simp] theorem run_mB : mB m σ h = asB (m σ h) := rfl
@[simp] theorem run_tAnd : tAndM t u σ h = (t σ h).bind fun c h1 => if c = true then u σ h1 else .ok false h1 := rfl
@[simp] theorem run_tOr : tOrM t u σ h = (t σ h).bind fun c h1 => if c = true then .ok true h1 else u σ h1 := rfl
@[simp] theorem run_tNot : tNotM t σ h = (t σ h).bind fun c h1 => .ok (!c) h1 := rfl
@[simp] theorem run_tYes : tYesM σ h = .ok true h := rfl
@[simp] theorem run_eCall {g : FC} : eCall g r σ h = (r σ h).bind fun ds h1 => lif (g ds h1) := rfl
@[simp] theorem run_eFn {f : List D → AH → Res D} {dfl : List D} : eFn f dfl r σ h = (r σ h).bind fun ds h1 => f (ds ++ dfl) h1 := rfl
@[simp] theorem run_eMeth {T : String} {g : FM} : eMeth T g m r σ h = (m σ h).bind fun x h1 => if isT T h1 x = true then (r σ h1).bind fun ds h2 => lif (g x ds h2) else .stuck := rfl
def isiK (T : String) (h : AH) (x : D) : Res D := match tyD h x with
  | some t => match kitB t T with
    | some b => .ok (.bl b) h
    | none => .stuck
  | none => .stuck
@[simp] theorem run_eIsi {T : String} : eIsi T m σ h = (m σ h).bind fun x h1 => isiK T h1 x := rfl
@[simp] theorem run_eSl {f : FS} {lo hi : MO} : eSl f m lo hi σ h = (m σ h).bind fun x h1 => (lo σ h1).bind fun i h2 => (hi σ h2).bind fun j h3 => lif (f x i j h3) := rfl
@[simp] theorem run_oNil : oNil σ h = .ok none h := rfl
def dInt? (d : D) (h : AH) : Res (Option Int) := match d with
  | .int i => .ok (some i) h
  | _ => .stuck
@[simp] theorem dInt?_int {i : Int} : dInt? (.int i) h = .ok (some i) h := rfl
@[simp] theorem run_oSome : oSome m σ h = (m σ h).bind fun d h1 => dInt? d h1 := rfl
end
@[simp] theorem bind_ite {α β : Type} {c : Prop} [Decidable c] {x y : Res α} {f : α → AH → Res β} : (if c then x else y).bind f = if c then x.bind f else y.bind f := by split <;> rfl
@[simp] theorem retOf_seq_nil {r : Out} : retOf (r.seq sNil) = retOf r := by cases r <;> rfl

/-! ### isinstance -/
section
variable {h : AH} {b : Bool} {i : Int} {s : Str} {ds : List D}
theorem isi_of {T t : String} {x : D} {k : Bool} (h1 : tyD h x = some t) (h2 : kitB t T = some k) : isiK T h x = .ok (.bl k) h := by
  unfold isiK
  rw [h1]
  dsimp only
  rw [h2]
@[simp] theorem isi_int_int : isiK "int" h (.int i) = .ok (.bl true) h := isi_of rfl (by decide +kernel)
@[simp] theorem isi_int_bl : isiK "int" h (.bl b) = .ok (.bl true) h := isi_of rfl (by decide +kernel)
@[simp] theorem isi_int_str : isiK "int" h (.str s) = .ok (.bl false) h := isi_of rfl (by decide +kernel)
@[simp] theorem isi_int_tup : isiK "int" h (.tup ds) = .ok (.bl false) h := isi_of rfl (by decide +kernel)
@[simp] theorem isi_int_non : isiK "int" h .non = .ok (.bl false) h := isi_of rfl (by decide +kernel)
@[simp] theorem isi_int_fro : isiK "int" h (.fro ds) = .ok (.bl false) h := isi_of rfl (by decide +kernel)
@[simp] theorem isi_bool_int : isiK "bool" h (.int i) = .ok (.bl false) h := isi_of rfl (by decide +kernel)
@[simp] theorem isi_bool_bl : isiK "bool" h (.bl b) = .ok (.bl true) h := isi_of rfl (by decide +kernel)
@[simp] theorem isi_bool_str : isiK "bool" h (.str s) = .ok (.bl false) h := isi_of rfl (by decide +kernel)
@[simp] theorem isi_bool_tup : isiK "bool" h (.tup ds) = .ok (.bl false) h := isi_of rfl (by decide +kernel)
@[simp] theorem isi_bool_non : isiK "bool" h .non = .ok (.bl false) h := isi_of rfl (by decide +kernel)
@[simp] theorem isi_bool_fro : isiK "bool" h (.fro ds) = .ok (.bl false) h := isi_of rfl (by decide +kernel)
@[simp] theorem isi_str_int : isiK "str" h (.int i) = .ok (.bl false) h := isi_of rfl (by decide +kernel)
@[simp] theorem isi_str_bl : isiK "str" h (.bl b) = .ok (.bl false) h := isi_of rfl (by decide +kernel)
@[simp] theorem isi_str_str : isiK "str" h (.str s) = .ok (.bl true) h := isi_of rfl (by decide +kernel)
@[simp] theorem isi_str_tup : isiK "str" h (.tup ds) = .ok (.bl false) h := isi_of rfl (by decide +kernel)
@[simp] theorem isi_str_non : isiK "str" h .non = .ok (.bl false) h := isi_of rfl (by decide +kernel)
@[simp] theorem isi_str_fro : isiK "str" h (.fro ds) = .ok (.bl false) h := isi_of rfl (by decide +kernel)
@[simp] theorem isi_tuple_int : isiK "tuple" h (.int i) = .ok (.bl false) h := isi_of rfl (by decide +kernel)
@[simp] theorem isi_tuple_bl : isiK "tuple" h (.bl b) = .ok (.bl false) h := isi_of rfl (by decide +kernel)
@[simp] theorem isi_tuple_str : isiK "tuple" h (.str s) = .ok (.bl false) h := isi_of rfl (by decide +kernel)
@[simp] theorem isi_tuple_tup : isiK "tuple" h (.tup ds) = .ok (.bl true) h := isi_of rfl (by decide +kernel)
@[simp] theorem isi_tuple_non : isiK "tuple" h .non = .ok (.bl false) h := isi_of rfl (by decide +kernel)
@[simp] theorem isi_tuple_fro : isiK "tuple" h (.fro ds) = .ok (.bl false) h := isi_of rfl (by decide +kernel)
@[simp] theorem isi_list_int : isiK "list" h (.int i) = .ok (.bl false) h := isi_of rfl (by decide +kernel)
@[simp] theorem isi_list_bl : isiK "list" h (.bl b) = .ok (.bl false) h := isi_of rfl (by decide +kernel)
@[simp] theorem isi_list_str : isiK "list" h (.str s) = .ok (.bl false) h := isi_of rfl (by decide +kernel)
@[simp] theorem isi_list_tup : isiK "list" h (.tup ds) = .ok (.bl false) h := isi_of rfl (by decide +kernel)
@[simp] theorem isi_list_non : isiK "list" h .non = .ok (.bl false) h := isi_of rfl (by decide +kernel)
@[simp] theorem isi_list_fro : isiK "list" h (.fro ds) = .ok (.bl true) h := isi_of rfl (by decide +kernel)
end

/-! ### operators -/
section
variable {h : AH} {i j : Int} {b c : Bool} {s t : Str} {ds es : List D}
@[simp] theorem run_dInt {C : Int → Int → Prop} [∀ i j, Decidable (C i j)] {g : Int → Int → Int} : dInt C g (.int i) (.int j) h = if C i j then some (.int (g i j), h) else none := rfl
@[simp] theorem plus_int : dPlus (.int i) (.int j) h = some (.int (i + j), h) := rfl
theorem plus_str (hl : s.length + t.length ≤ 16777216) : dPlus (.str s) (.str t) h = some (.str (s ++ t), h) := by
  unfold dPlus dAdd
  dsimp only
  rw [if_pos hl]
theorem plus_tup (hl : ds.length + es.length ≤ 16777216) : dPlus (.tup ds) (.tup es) h = some (.tup (ds ++ es), h) := by
  unfold dPlus dAdd
  dsimp only
  rw [if_pos hl]
theorem plus_fro (hl : ds.length + es.length ≤ 16777216) : dPlus (.fro ds) (.fro es) h = some (.fro (ds ++ es), h) := by
  show (if ds.length + es.length ≤ 16777216 then some (D.fro (ds ++ es), h) else none) = _
  rw [if_pos hl]
theorem cmp_of {C g : PyData → PyData → Bool} {x y : D} {p q : PyData} (h1 : pdH h x = some p) (h2 : pdH h y = some q) (hc : C p q = true) (hd : p.depth ≤ 64) : dCmp C g x y h = some (.bl (g p q), h) := by
  unfold dCmp
  rw [h1, h2]
  exact if_pos ⟨hc, by omega⟩
theorem cmp_is {C g : PyData → PyData → Bool} {x y : D} {p q : PyData} {k : Bool} (h1 : pdH h x = some p) (h2 : pdH h y = some q) (hc : C p q = true) (hd : p.depth ≤ 64) (hg : g p q = k) : dCmp C g x y h = some (.bl k, h) := by
  rw [cmp_of h1 h2 hc hd, hg]
theorem beq_dec {α : Type} [BEq α] [LawfulBEq α] [DecidableEq α] (a b : α) : (a == b) = decide (a = b) := by rw [Bool.eq_iff_iff]; simp
theorem dep_int : PyData.depth (.int i) ≤ 64 := by simp [PyData.depth]
theorem dep_str : PyData.depth (.str s) ≤ 64 := by simp [PyData.depth]
theorem dep_bl : PyData.depth (.bool b) ≤ 64 := by simp [PyData.depth]
@[simp] theorem eq_int : dEq (.int i) (.int j) h = some (.bl (decide (i = j)), h) := cmp_is (p := .int i) (q := .int j) rfl rfl rfl dep_int (by simp only [PyData.eqv]; exact beq_dec _ _)
@[simp] theorem eq_str : dEq (.str s) (.str t) h = some (.bl (decide (s = t)), h) := cmp_is (p := .str s) (q := .str t) rfl rfl rfl dep_str (by simp only [PyData.eqv]; exact beq_dec _ _)
@[simp] theorem eq_bl : dEq (.bl b) (.bl c) h = some (.bl (b == c), h) := cmp_is (p := .bool b) (q := .bool c) rfl rfl rfl dep_bl (by simp only [PyData.eqv])
@[simp] theorem ne_int : dNe (.int i) (.int j) h = some (.bl (!decide (i = j)), h) := cmp_is (p := .int i) (q := .int j) rfl rfl rfl dep_int (by simp only [PyData.eqv]; rw [beq_dec])
@[simp] theorem ne_str : dNe (.str s) (.str t) h = some (.bl (!decide (s = t)), h) := cmp_is (p := .str s) (q := .str t) rfl rfl rfl dep_str (by simp only [PyData.eqv]; rw [beq_dec])
@[simp] theorem ne_bl : dNe (.bl b) (.bl c) h = some (.bl (!(b == c)), h) := cmp_is (p := .bool b) (q := .bool c) rfl rfl rfl dep_bl (by simp only [PyData.eqv])
@[simp] theorem lt_int' : dLt (.int i) (.int j) h = some (.bl (decide (i < j)), h) := cmp_is (p := .int i) (q := .int j) rfl rfl rfl dep_int (PySem.W.dataLt_int _ _)
@[simp] theorem gt_int' : dGt (.int i) (.int j) h = some (.bl (decide (j < i)), h) := cmp_is (p := .int i) (q := .int j) rfl rfl rfl dep_int (PySem.W.dataLt_int _ _)
@[simp] theorem le_int' : dLe (.int i) (.int j) h = some (.bl (decide (i ≤ j)), h) := cmp_is (p := .int i) (q := .int j) rfl rfl rfl dep_int (by rw [PySem.W.dataLt_int, Bool.eq_iff_iff]; simp)
@[simp] theorem ge_int' : dGe (.int i) (.int j) h = some (.bl (decide (j ≤ i)), h) := cmp_is (p := .int i) (q := .int j) rfl rfl rfl dep_int (by rw [PySem.W.dataLt_int, Bool.eq_iff_iff]; simp)
/-- texts by their signs -/
def strLt (s t : Str) : Bool := decide (s.cps.toList < t.cps.toList)
@[simp] theorem lt_str' : dLt (.str s) (.str t) h = some (.bl (strLt s t), h) := cmp_is (p := .str s) (q := .str t) rfl rfl rfl dep_str (PySem.W.dataLt_str _ _)
@[simp] theorem le_str' : dLe (.str s) (.str t) h = some (.bl (!strLt t s), h) := cmp_is (p := .str s) (q := .str t) rfl rfl rfl dep_str (by rw [PySem.W.dataLt_str]; rfl)
@[simp] theorem is_bl : dIs (.bl b) (.bl c) h = some (.bl (decide (b = c)), h) := rfl
@[simp] theorem isNot_bl : dIsNot (.bl b) (.bl c) h = some (.bl (!decide (b = c)), h) := rfl
@[simp] theorem isN_of {x : D} : dIsN x .non h = some (.bl (isNonD x), h) := rfl
@[simp] theorem notN_of {x : D} : dNotN x .non h = some (.bl (!isNonD x), h) := rfl
/-! ### places -/
@[simp] theorem atI_0 {α : Type} {x : α} {xs : List α} : atI (x :: xs) 0 = some x := by
  simp [atI, ixN]
@[simp] theorem atI_1 {α : Type} {x y : α} {xs : List α} : atI (x :: y :: xs) 1 = some y := by
  have h1 : (1 : Int) < (xs.length : Int) + 1 + 1 := by omega
  simp [atI, ixN, h1]
@[simp] theorem atI_2 {α : Type} {x y z : α} {xs : List α} : atI (x :: y :: z :: xs) 2 = some z := by
  have h1 : (2 : Int) < (xs.length : Int) + 1 + 1 + 1 := by omega
  simp [atI, ixN, h1]
theorem atI_n {α : Type} {xs : List α} {n : Nat} {x : α} (e : xs[n]? = some x) : atI xs (n : Int) = some x := by
  have hn := (List.getElem?_eq_some_iff.mp e).1
  have h1 : (n : Int) < (xs.length : Int) := by omega
  have h0 : (0 : Int) ≤ (n : Int) := by omega
  simp [atI, ixN, h1, h0, e]
theorem atI_i {α : Type} {xs : List α} {i : Int} (h0 : 0 ≤ i) (h1 : i < xs.length) : ∃ x, xs[i.toNat]? = some x ∧ atI xs i = some x := by
  have hn : i.toNat < xs.length := by omega
  refine ⟨xs[i.toNat], List.getElem?_eq_getElem hn, ?_⟩
  have := atI_n (List.getElem?_eq_getElem hn)
  rw [Int.toNat_of_nonneg h0] at this
  exact this
@[simp] theorem ix_tup' : dIx (.tup ds) (.int i) h = (atI ds i).map fun d => (d, h) := rfl
@[simp] theorem ix_fro' : dIx (.fro ds) (.int i) h = (atI ds i).map fun d => (d, h) := rfl
@[simp] theorem ix_scr' : dIx (.scr ds) (.int i) h = (atI ds i).map fun d => (d, h) := rfl
theorem ix_str'' (hl : s.length ≤ 16777216) : dIx (.str s) (.int i) h = (atI s.cps.toList i).map fun c => (.str ⟨#[c]⟩, h) := by
  show (if s.length ≤ 16777216 then _ else _) = _
  rw [if_pos hl]
theorem ssq_ref {n : Nat} (e : listAt h n = some ds) : ssq h (.ref n) = some ds := by
  have e2 := listAt_some e
  unfold ssq
  dsimp only
  rw [e2]
theorem listAt_obj {n : Nat} (e : listAt h n = some ds) : objAt h (.ref n) = some (.lst ds) := listAt_some e
theorem ix_ref {n : Nat} (e : listAt h n = some ds) : dIx (.ref n) (.int i) h = (atI ds i).map fun d => (d, h) := by
  unfold dIx
  rw [listAt_obj e]
  show (match ssq h (.ref n) with | some ds => _ | none => none) = _
  rw [show ssq h (.ref n) = some ds from ssq_ref e]
/-! ### len -/
@[simp] theorem len_tup' : gLen [.tup ds] h = some (.int ds.length, h) := rfl
@[simp] theorem len_fro' : gLen [.fro ds] h = some (.int ds.length, h) := rfl
@[simp] theorem len_scr' : gLen [.scr ds] h = some (.int ds.length, h) := rfl
theorem len_str' (hl : s.length ≤ 16777216) : gLen [.str s] h = some (.int s.length, h) := by
  show (if s.length ≤ 16777216 then _ else _) = _
  rw [if_pos hl]
theorem len_ref {n : Nat} (e : listAt h n = some ds) : gLen [.ref n] h = some (.int ds.length, h) := by
  unfold gLen
  dsimp only
  rw [listAt_obj e]
  show (match ssq h (.ref n) with | some ds => _ | none => none) = _
  rw [show ssq h (.ref n) = some ds from ssq_ref e]
@[simp] theorem int_int : gInt [.int i] h = some (.int i, h) := rfl
@[simp] theorem int_bl : gInt [.bl b] h = some (.int (if b then 1 else 0), h) := rfl
@[simp] theorem abs_int : gAbs [.int i] h = some (.int (if i < 0 then -i else i), h) := rfl
@[simp] theorem tuple_tup : gTuple [.tup ds] h = some (.tup ds, h) := rfl
@[simp] theorem tuple_fro : gTuple [.fro ds] h = some (.tup ds, h) := rfl
theorem tuple_ref {n : Nat} (e : listAt h n = some ds) : gTuple [.ref n] h = some (.tup ds, h) := by
  unfold gTuple
  show (match ssq h (.ref n) with | some ds => _ | none => none) = _
  rw [show ssq h (.ref n) = some ds from ssq_ref e]
@[simp] theorem listF_scr : gListF [.scr ds] h = some (.fro ds, h) := rfl
@[simp] theorem listF_tup : gListF [.tup ds] h = some (.fro ds, h) := rfl
@[simp] theorem listF_fro : gListF [.fro ds] h = some (.fro ds, h) := rfl
theorem bls_fro {f : List Bool → Bool} {bs : List Bool} : gBls f [.fro (bs.map .bl)] h = some (.bl (f bs), h) := by
  show (match asBls (bs.map .bl) with | some bs => _ | none => none) = _
  rw [asBls_map]
end
/-! ### loops -/
theorem listAt_eq {h : AH} {n : Nat} {ds : List D} (e : h[n]? = some (.lst ds)) : listAt h n = some ds := by
  unfold listAt; rw [e]
section
variable {G : AH → Prop} {g : MG} {body : MS} {t : MB} {m : M} {σ σ' : AS} {h h' : AH} {d : D} {ds acc : List D}
theorem forL_nil (hG : G h) : forL G g body [] σ h = .nx σ h := by rw [forL, if_pos hG]
theorem forL_cons (hG : G h) {σ1 : AS} {h1 : AH} (hg : g d σ h = some (σ1, h1)) : forL G g body (d :: ds) σ h = (match body σ1 h1 with
  | .nx σ2 h2 => forL G g body ds σ2 h2
  | .ct σ2 h2 => forL G g body ds σ2 h2
  | .bk σ2 h2 => .nx σ2 h2
  | r => r) := by
  rw [forL, if_pos hG, hg] <;> rfl
/-- a loop by an invariant of what is left, the slots and the heap -/
theorem forL_inv {R : Out → Prop} (I : List D → AS → AH → Prop) (hn : ∀ σ h, I [] σ h → G h ∧ R (.nx σ h))
    (hc : ∀ d ds σ h, I (d :: ds) σ h → G h ∧ ∃ σ1 h1, g d σ h = some (σ1, h1) ∧ (match body σ1 h1 with
      | .nx σ2 h2 => I ds σ2 h2
      | .ct σ2 h2 => I ds σ2 h2
      | .bk σ2 h2 => R (.nx σ2 h2)
      | r => R r)) : ∀ ds σ h, I ds σ h → R (forL G g body ds σ h)
  | [], σ, h, i => by
    obtain ⟨a, b⟩ := hn σ h i
    rw [forL_nil a]; exact b
  | d :: ds, σ, h, i => by
    obtain ⟨a, σ1, h1, e, q⟩ := hc d ds σ h i
    rw [forL_cons a e]
    cases eb : body σ1 h1 with
    | nx σ2 h2 => rw [eb] at q; exact forL_inv I hn hc ds σ2 h2 q
    | ct σ2 h2 => rw [eb] at q; exact forL_inv I hn hc ds σ2 h2 q
    | bk σ2 h2 => rw [eb] at q; exact q
    | rt a b => rw [eb] at q; exact q
    | ex a b c => rw [eb] at q; exact q
    | stuck => rw [eb] at q; exact q
@[simp] theorem run_sFor {it : MI} : sFor it g body σ h = (it σ h).andS σ fun p h1 => forL p.2 g body p.1 σ h1 := rfl
/-- a comprehension whose items leave the heap as it is -/
theorem lcL_map {p : D → Bool} {f : D → D} (hG : G h) : ∀ (ds acc : List D), (∀ d ∈ ds, ∃ σ1, g d σ h = some (σ1, h) ∧ t σ1 h = .ok (p d) h ∧ (p d = true → m σ1 h = .ok (f d) h)) → acc.length + ds.length ≤ 16777216 → lcL G g t m σ ds acc h = .ok (acc ++ (ds.filter p).map f) h
  | [], acc, _, _ => by rw [lcL, if_pos hG]; simp
  | d :: ds, acc, hd, hl => by
    obtain ⟨σ1, e1, e2, e3⟩ := hd d List.mem_cons_self
    rw [lcL, if_pos hG, e1]
    dsimp only
    rw [e2]
    cases hp : p d with
    | true =>
      dsimp only
      rw [e3 hp]
      dsimp only
      rw [List.length_cons] at hl
      rw [if_pos (by omega), lcL_map hG ds (acc ++ [f d]) (fun x hx => hd x (List.mem_cons_of_mem _ hx)) (by simp; omega)]
      simp [hp]
    | false =>
      dsimp only
      rw [List.length_cons] at hl
      rw [lcL_map hG ds acc (fun x hx => hd x (List.mem_cons_of_mem _ hx)) (by omega)]
      simp [hp]
/-- .. by an invariant -/
theorem lcL_inv {R : List D → AH → Prop} (I : List D → List D → AH → Prop) (hn : ∀ acc h, I [] acc h → G h ∧ R acc h)
    (hc : ∀ d ds acc h, I (d :: ds) acc h → G h ∧ ∃ σ1 h1 k h2, g d σ h = some (σ1, h1) ∧ t σ1 h1 = .ok k h2 ∧ (if k = true then ∃ y h3, m σ1 h2 = .ok y h3 ∧ acc.length < 16777216 ∧ I ds (acc ++ [y]) h3 else I ds acc h2)) :
    ∀ ds acc h, I ds acc h → ∃ out h', lcL G g t m σ ds acc h = .ok out h' ∧ R out h'
  | [], acc, h, i => by
    obtain ⟨a, b⟩ := hn acc h i
    exact ⟨acc, h, by rw [lcL, if_pos a], b⟩
  | d :: ds, acc, h, i => by
    obtain ⟨a, σ1, h1, k, h2, e1, e2, q⟩ := hc d ds acc h i
    rw [lcL, if_pos a, e1]
    dsimp only
    rw [e2]
    cases k with
    | true =>
      rw [if_pos rfl] at q
      obtain ⟨y, h3, e3, hl, q⟩ := q
      dsimp only
      rw [e3]
      dsimp only
      rw [if_pos hl]
      exact lcL_inv I hn hc ds _ h3 q
    | false =>
      rw [if_neg Bool.false_ne_true] at q
      exact lcL_inv I hn hc ds _ h2 q
@[simp] theorem run_eLc {it : MI} {vs : List Nat} : eLc it g t m vs σ h = (it σ h).bind fun p h1 => (lcL p.2 g t m (wipeA σ vs) p.1 [] h1).bind fun ds h2 => .ok (.fro ds) h2 := rfl
end
/-- what is walked -/
def seqK (x : D) (h1 : AH) : Res (List D × (AH → Prop)) := match x with
  | .str a => .ok (a.cps.toList.map fun c => .str ⟨#[c]⟩, fun _ => True) h1
  | .tup ds => .ok (ds, fun _ => True) h1
  | .fro ds => .ok (ds, fun _ => True) h1
  | .scr ds => .ok (ds, fun _ => True) h1
  | .ref n => match listAt h1 n with
    | some ds => .ok (ds, fun h => listAt h n = some ds) h1
    | none => .stuck
  | _ => .stuck
section
variable {σ : AS} {h : AH} {m n : M} {ds es : List D} {s : Str} {i j : Int}
@[simp] theorem run_iSeq : iSeq m σ h = (m σ h).bind fun x h1 => seqK x h1 := rfl
@[simp] theorem seqK_str : seqK (.str s) h = .ok (s.cps.toList.map fun c => .str ⟨#[c]⟩, fun _ => True) h := rfl
@[simp] theorem seqK_tup : seqK (.tup ds) h = .ok (ds, fun _ => True) h := rfl
@[simp] theorem seqK_fro : seqK (.fro ds) h = .ok (ds, fun _ => True) h := rfl
@[simp] theorem seqK_scr : seqK (.scr ds) h = .ok (ds, fun _ => True) h := rfl
theorem seqK_ref {k : Nat} (e : listAt h k = some ds) : seqK (.ref k) h = .ok (ds, fun h => listAt h k = some ds) h := by
  unfold seqK
  dsimp only
  rw [e]
def rngK (x : D) (h1 : AH) : Res (List D × (AH → Prop)) := match x with
  | .int j => if -(2 ^ 62) ≤ j ∧ j < 2 ^ 62 then .ok (rangeD 0 j.toNat, fun _ => True) h1 else .stuck
  | _ => .stuck
@[simp] theorem run_iRange1 : iRange1 m σ h = (m σ h).bind fun x h1 => rngK x h1 := rfl
@[simp] theorem rngK_int : rngK (.int j) h = if -(2 ^ 62) ≤ j ∧ j < 2 ^ 62 then .ok (rangeD 0 j.toNat, fun _ => True) h else .stuck := rfl
theorem rngK_of (h0 : -(2 ^ 62) ≤ j) (h1 : j < 2 ^ 62) : rngK (.int j) h = .ok (rangeD 0 j.toNat, fun _ => True) h := if_pos ⟨h0, h1⟩
def zipK (x y : D) (h2 : AH) : Res (List D × (AH → Prop)) := match x, y with
  | .tup as, .tup bs => .ok (zipD as bs, fun _ => True) h2
  | .fro as, .fro bs => .ok (zipD as bs, fun _ => True) h2
  | _, _ => .stuck
@[simp] theorem run_iZip : iZip m n σ h = (m σ h).bind fun x h1 => (n σ h1).bind fun y h2 => zipK x y h2 := rfl
@[simp] theorem zipK_tup : zipK (.tup ds) (.tup es) h = .ok (zipD ds es, fun _ => True) h := rfl
end
end Q
namespace Q
open PySem PySem.Spec PyProof.Rows L2
section
variable {h : AH} {s : Str} {ks ls : List Str} {σ : AS}
@[simp] theorem ite_bl {c : Prop} [Decidable c] {a b : Bool} : (if c then Res.ok (D.bl a) h else Res.ok (D.bl b) h) = .ok (.bl (if c then a else b)) h := by split <;> rfl
@[simp] theorem ite_okb {c : Prop} [Decidable c] {a b : Bool} : (if c then Res.ok a h else Res.ok b h) = .ok (if c then a else b) h := by split <;> rfl
/-! ### lists of texts -/
theorem pds_strs : ∀ ks : List Str, pds (ks.map .str) = some (ks.map .str)
  | [] => rfl
  | k :: ks => by
    show (match pd (.str k), pds (ks.map .str) with | some k, some ks => some (k :: ks) | _, _ => none) = _
    rw [pds_strs ks]; rfl
theorem depth_strs : ∀ ks : List Str, PyData.depthAll (ks.map .str) = 0
  | [] => by simp [PyData.depthAll]
  | k :: ks => by
    show PyData.depthAll (.str k :: ks.map .str) = 0
    rw [PyData.depthAll, depth_strs ks]; simp [PyData.depth]
theorem any_strs (ks : List Str) : (ks.map PyData.str).any (fun z => PyData.eqv z (.str s)) = decide (s ∈ ks) := by
  induction ks with
  | nil => rfl
  | cons k ks ih =>
    rw [List.map_cons, List.any_cons, ih]
    simp only [PyData.eqv, List.mem_cons, Bool.decide_or]
    rw [beq_dec, show decide (k = s) = decide (s = k) from by rw [Bool.eq_iff_iff]; simp [eq_comm]]
theorem in_tup : dIn false (.str s) (.tup (ks.map .str)) h = some (.bl (decide (s ∈ ks)), h) := by
  show dInS false (.str s) (.tup (ks.map .str)) h = _
  unfold dInS
  rw [show pd (.str s) = some (.str s) from rfl, show pdH h (.tup (ks.map .str)) = some (.tuple (ks.map .str)) from by
    show (pds (ks.map .str)).map PyData.tuple = _
    rw [pds_strs]; rfl]
  dsimp only
  rw [depth_strs, if_pos (by omega), any_strs, Bool.false_bne]
theorem in_ref {n : Nat} {neg : Bool} (e : listAt h n = some (ks.map .str)) : dIn neg (.str s) (.ref n) h = some (.bl (neg != decide (s ∈ ks)), h) := by
  have e2 := listAt_some e
  unfold dIn
  rw [listAt_obj e]
  show dInS neg (.str s) (.ref n) h = _
  unfold dInS
  rw [show pd (.str s) = some (.str s) from rfl, show pdH h (.ref n) = some (.list (ks.map .str)) from by
    unfold pdH
    dsimp only
    rw [e2]
    show (pds (ks.map .str)).map PyData.list = _
    rw [pds_strs]; rfl]
  dsimp only
  rw [depth_strs, if_pos (by omega), any_strs]
theorem eqv_strs : ∀ ks ls : List Str, PyData.eqvAll (ks.map .str) (ls.map .str) = decide (ks = ls)
  | [], [] => by simp [PyData.eqvAll]
  | [], l :: ls => by simp [PyData.eqvAll]
  | k :: ks, [] => by simp [PyData.eqvAll]
  | k :: ks, l :: ls => by
    show PyData.eqvAll (.str k :: ks.map .str) (.str l :: ls.map .str) = _
    rw [PyData.eqvAll, eqv_strs ks ls]
    simp only [PyData.eqv]
    rw [beq_dec, Bool.eq_iff_iff]
    simp
theorem eq_strs : dEq (.tup (ks.map .str)) (.tup (ls.map .str)) h = some (.bl (decide (ks = ls)), h) :=
  cmp_is (p := .tuple (ks.map .str)) (q := .tuple (ls.map .str)) (by show (pds _).map _ = _; rw [pds_strs]; rfl) (by show (pds _).map _ = _; rw [pds_strs]; rfl) rfl (by rw [PyData.depth, depth_strs]; omega) (by simp only [PyData.eqv]; exact eqv_strs _ _)
/-! ### all of a comprehension -/
@[simp] theorem all_true {n : Nat} : gAll [.fro (List.replicate n (.bl true))] h = some (.bl true, h) := by
  have := bls_fro (h := h) (f := fun bs => bs.all id) (bs := List.replicate n true)
  rw [List.map_replicate] at this
  refine this.trans ?_
  simp
theorem lc_all {G : AH → Prop} {g : MG} {m : M} {σ : AS} (hG : G h) (ds : List D) (hd : ∀ d ∈ ds, ∃ σ1, g d σ h = some (σ1, h) ∧ m σ1 h = .ok (.bl true) h) (hl : ds.length ≤ 16777216) : lcL G g tYesM m σ ds [] h = .ok (List.replicate ds.length (.bl true)) h := by
  rw [lcL_map (t := tYesM) (p := fun _ => true) (f := fun _ => .bl true) hG ds [] (fun d hm => let ⟨σ1, a, b⟩ := hd d hm; ⟨σ1, a, rfl, fun _ => b⟩) (by simpa using hl)]
  rw [List.filter_eq_self.mpr fun _ _ => rfl, List.nil_append, List.map_const']
theorem lc_map {G : AH → Prop} {g : MG} {m : M} {σ : AS} (f : D → D) (hG : G h) (ds : List D) (hd : ∀ d ∈ ds, ∃ σ1, g d σ h = some (σ1, h) ∧ m σ1 h = .ok (f d) h) (hl : ds.length ≤ 16777216) : lcL G g tYesM m σ ds [] h = .ok (ds.map f) h := by
  rw [lcL_map (t := tYesM) (p := fun _ => true) (f := f) hG ds [] (fun d hm => let ⟨σ1, a, b⟩ := hd d hm; ⟨σ1, a, rfl, fun _ => b⟩) (by simpa using hl)]
  rw [List.filter_eq_self.mpr fun _ _ => rfl, List.nil_append]
theorem mem_rangeD {lo : Int} {n : Nat} {d : D} (hd : d ∈ rangeD lo n) : ∃ i : Nat, i < n ∧ d = .int (lo + i) := by
  obtain ⟨i, hi, rfl⟩ := List.mem_map.mp hd
  exact ⟨i, List.mem_range.mp hi, rfl⟩
@[simp] theorem rangeD_len {lo : Int} {n : Nat} : (rangeD lo n).length = n := by simp [rangeD]
end
end Q

/-! Q13: dicts with tuple keys, by values. -/
namespace Q
open PySem PySem.Spec PyProof.Rows L2
theorem dtGet_nil {k : NestedKey} : dtGet [] k = none := rfl
theorem dtGet_cons {p : D × D} {kvs : List (D × D)} {k : NestedKey} : dtGet (p :: kvs) k = if nk p.1 = some k then some p.2 else dtGet kvs k := by
  unfold dtGet
  rw [List.find?_cons]
  by_cases e : nk p.1 = some k
  · simp [e]
  · simp [e]
theorem dtGet_append {kvs : List (D × D)} {p : D × D} {k : NestedKey} : dtGet (kvs ++ [p]) k = (match dtGet kvs k with | some v => some v | none => if nk p.1 = some k then some p.2 else none) := by
  induction kvs with
  | nil => rw [List.nil_append, dtGet_cons, dtGet_nil]
  | cons q kvs ih =>
    rw [List.cons_append, dtGet_cons, dtGet_cons]
    by_cases e : nk q.1 = some k
    · rw [if_pos e, if_pos e]
    · rw [if_neg e, if_neg e, ih]
theorem dtGet_map {kvs : List (D × D)} {k k' : NestedKey} {v : D} : dtGet (kvs.map fun p => if nk p.1 = some k then (p.1, v) else p) k' = if k' = k then (dtGet kvs k).map fun _ => v else dtGet kvs k' := by
  induction kvs with
  | nil =>
    simp only [List.map_nil, dtGet_nil]
    split <;> rfl
  | cons q kvs ih =>
    rw [List.map_cons, dtGet_cons, dtGet_cons, dtGet_cons, ih]
    by_cases e : nk q.1 = some k
    · rw [if_pos e]
      by_cases ek : k' = k
      · subst ek
        simp [e]
      · have ne : ¬ nk q.1 = some k' := by rw [e]; simp [Ne.symm ek]
        simp [ne, ek]
    · rw [if_neg e]
      by_cases ek : k' = k
      · subst ek
        simp [e]
      · simp [e, ek]
theorem dtGet_put {kvs : List (D × D)} {d v : D} {k k' : NestedKey} (hk : nk d = some k) : dtGet (dtPut kvs d k v) k' = if k' = k then some v else dtGet kvs k' := by
  unfold dtPut
  split
  · rename_i hs
    rw [dtGet_map]
    split
    · obtain ⟨u, hu⟩ := Option.isSome_iff_exists.mp hs
      rw [hu]; rfl
    · rfl
  · rename_i hs
    rw [dtGet_append]
    have hn : dtGet kvs k = none := by
      cases e : dtGet kvs k with
      | none => rfl
      | some u => rw [e] at hs; exact absurd rfl hs
    by_cases ek : k' = k
    · subst ek
      rw [hn]
      simp [hk]
    · have ne : ¬ nk d = some k' := by rw [hk]; simp [Ne.symm ek]
      cases dtGet kvs k' <;> simp [ne, ek]
/-- values as keys -/
structure KeyEnc (α : Type) [DecidableEq α] where
  enc : α → D
  key : α → NestedKey
  nk : ∀ a, nk (enc a) = some (key a)
  dep : ∀ a, (key a).depth ≤ 8
  inj : ∀ a b, key a = key b → a = b
  tup : ∀ a, ∃ ds, enc a = .tup ds
  clo : ∀ n a, closed n (enc a) = true
variable {α : Type} [DecidableEq α] (E : KeyEnc α)
theorem KeyEnc.tkey (a : α) : tkey (E.enc a) = some (E.key a) := by
  obtain ⟨ds, e⟩ := E.tup a
  have h1 := E.nk a
  rw [e] at h1 ⊢
  unfold Q.tkey
  dsimp only
  rw [h1]
  exact if_pos (E.dep a)
/-- a dict that tells which stand in it -/
def KeyEnc.set (as : List α) : List (D × D) := as.map fun a => (E.enc a, .bl true)
theorem KeyEnc.get (as : List α) (a : α) : dtGet (E.set as) (E.key a) = if a ∈ as then some (.bl true) else none := by
  induction as with
  | nil => rfl
  | cons b as ih =>
    show dtGet ((E.enc b, .bl true) :: E.set as) _ = _
    rw [dtGet_cons, ih, E.nk]
    by_cases e : b = a
    · subst e; simp
    · have ne : ¬ some (E.key b) = some (E.key a) := fun z => e (E.inj _ _ (Option.some.inj z))
      have ne2 : ¬ a = b := fun z => e z.symm
      simp [ne, ne2]
def add (as : List α) (a : α) : List α := if a ∈ as then as else as ++ [a]
theorem KeyEnc.put (as : List α) (a : α) : dtPut (E.set as) (E.enc a) (E.key a) (.bl true) = E.set (add as a) := by
  unfold dtPut add
  rw [E.get]
  by_cases e : a ∈ as
  · rw [if_pos e, if_pos e]
    simp only [Option.isSome_some, if_true]
    unfold KeyEnc.set
    rw [List.map_map]
    refine List.map_congr_left fun b _ => ?_
    show (if _ then _ else _) = _
    split <;> rfl
  · rw [if_neg e, if_neg e]
    simp only [Option.isSome_none, Bool.false_eq_true, if_false]
    simp [KeyEnc.set]
/-- the different ones, each where it stands first -/
def ddp : List α → List α → List α
  | acc, [] => acc
  | acc, a :: as => ddp (add acc a) as
theorem add_nodup {as : List α} {a : α} (h : as.Nodup) : (add as a).Nodup := by
  unfold add
  split
  · exact h
  · rename_i hn
    rw [List.nodup_append]
    exact ⟨h, by simp, fun b hb c hc => by rw [List.mem_singleton.mp hc]; exact fun z => hn (z ▸ hb)⟩
theorem ddp_nodup : ∀ (bs acc : List α), acc.Nodup → (ddp acc bs).Nodup
  | [], _, h => h
  | b :: bs, acc, h => ddp_nodup bs _ (add_nodup h)
theorem mem_add {as : List α} {a b : α} : b ∈ add as a ↔ b ∈ as ∨ b = a := by
  unfold add
  split
  · rename_i h
    exact ⟨.inl, fun z => z.elim id fun z => z ▸ h⟩
  · simp
theorem mem_ddp {b : α} : ∀ (bs acc : List α), b ∈ ddp acc bs ↔ b ∈ acc ∨ b ∈ bs
  | [], acc => by simp [ddp]
  | c :: bs, acc => by
    rw [ddp, mem_ddp bs, mem_add]
    simp only [List.mem_cons]
    constructor
    · rintro ((h | h) | h)
      · exact .inl h
      · exact .inr (.inl h)
      · exact .inr (.inr h)
    · rintro (h | h | h)
      · exact .inl (.inl h)
      · exact .inl (.inr h)
      · exact .inr h
theorem len_add {as : List α} {a : α} : (add as a).length ≤ as.length + 1 := by
  unfold add
  split <;> simp
theorem len_ddp : ∀ (bs acc : List α), (ddp acc bs).length ≤ acc.length + bs.length
  | [], acc => by simp [ddp]
  | c :: bs, acc => by
    have h1 := len_ddp bs (add acc c)
    have h2 := len_add (as := acc) (a := c)
    rw [ddp, List.length_cons]
    omega
theorem ddp_id : ∀ (bs acc : List α), (acc ++ bs).Nodup → ddp acc bs = acc ++ bs
  | [], acc, _ => by simp [ddp]
  | c :: bs, acc, h => by
    have hn : c ∉ acc := fun z => by
      rw [List.nodup_append] at h
      exact h.2.2 c z c List.mem_cons_self rfl
    rw [ddp, add, if_neg hn, ddp_id bs _ (by simpa using h)]
    simp
/-! ### the last object of the heap -/
section
variable {h : AH} {o o' : O} {d v : D} {ds : List D} {n : Nat}
@[simp] theorem last_get : (h ++ [o])[h.length]? = some o := by simp
@[simp] theorem last_obj : objAt (h ++ [o]) (.ref h.length) = some o := last_get
@[simp] theorem last_set : (h ++ [o]).set h.length o' = h ++ [o'] := by simp
@[simp] theorem last_list : listAt (h ++ [.lst ds]) h.length = some ds := listAt_eq last_get
theorem objAt_app (hn : n < h.length) {g : AH} : objAt (h ++ g) (.ref n) = objAt h (.ref n) := List.getElem?_append_left hn
theorem listAt_app (hn : n < h.length) {g : AH} : listAt (h ++ g) n = listAt h n := by
  unfold listAt
  rw [List.getElem?_append_left hn]
theorem set_app {g : AH} (hn : n < h.length) : (h ++ g).set n o = h.set n o ++ g := by
  rw [List.set_append_left _ _ hn]
theorem in_set {as : List α} {a : α} {neg : Bool} {r : Nat} (e : objAt h (.ref r) = some (.dt (E.set as))) : dIn neg (E.enc a) (.ref r) h = some (.bl (neg != decide (a ∈ as)), h) := by
  unfold dIn
  rw [e]
  dsimp only
  rw [E.tkey]
  dsimp only
  rw [E.get]
  by_cases ha : a ∈ as <;> simp [ha]
theorem set_set {as : List α} {a : α} (hl : as.length < 16777216) : dSet (.ref h.length) (E.enc a) (.bl true) (h ++ [.dt (E.set as)]) = some (h ++ [.dt (E.set (add as a))]) := by
  unfold dSet
  dsimp only
  rw [last_get]
  dsimp only
  rw [E.tkey]
  dsimp only
  rw [if_pos (by simpa [KeyEnc.set] using hl), E.put, last_set]
theorem list_set {as : List α} : gListF [.ref h.length] (h ++ [.dt (E.set as)]) = some (.fro (as.map E.enc), h ++ [.dt (E.set as)]) := by
  unfold gListF itemsOf
  dsimp only
  rw [last_obj]
  dsimp only
  rw [show (E.set as).map (·.1) = as.map E.enc from by simp [KeyEnc.set]]
theorem closeds_map : ∀ (as : List α), closeds n (as.map E.enc) = true
  | [] => rfl
  | a :: as => by
    rw [List.map_cons, closeds, E.clo, closeds_map as]; rfl
end
/-- nothing but what was there -/
theorem okT_app {h : AH} : ∀ o ∈ h, o ∈ h ∨ closedO h.length o = true := fun _ m => .inl m
end Q

/-! Q14: comprehensions over encoded lists. -/
namespace Q
open PySem PySem.Spec PyProof.Rows L2
section
variable {G : AH → Prop} {g : MG} {t : MB} {m : M} {σ : AS} {h : AH} {α : Type}
theorem lc_encA (e1 f : α → D) (hG : G h) : ∀ (xs : List α) (acc : List D), (∀ x ∈ xs, ∃ σ1, g (e1 x) σ h = some (σ1, h) ∧ m σ1 h = .ok (f x) h) → acc.length + xs.length ≤ 16777216 → lcL G g tYesM m σ (xs.map e1) acc h = .ok (acc ++ xs.map f) h
  | [], acc, _, _ => by rw [List.map_nil, lcL, if_pos hG]; simp
  | x :: xs, acc, hd, hl => by
    obtain ⟨σ1, a, b⟩ := hd x List.mem_cons_self
    rw [List.length_cons] at hl
    rw [List.map_cons, lcL, if_pos hG, a]
    dsimp only
    rw [run_tYes]
    dsimp only
    rw [b]
    dsimp only
    rw [if_pos (by omega), lc_encA e1 f hG xs _ (fun y hy => hd y (List.mem_cons_of_mem _ hy)) (by simp; omega)]
    simp
theorem lc_enc (e1 f : α → D) (hG : G h) (xs : List α) (hd : ∀ x ∈ xs, ∃ σ1, g (e1 x) σ h = some (σ1, h) ∧ m σ1 h = .ok (f x) h) (hl : xs.length ≤ 16777216) : lcL G g tYesM m σ (xs.map e1) [] h = .ok (xs.map f) h := by
  rw [lc_encA e1 f hG xs [] hd (by simpa using hl)]
  simp
/-- a comprehension that changes the heap: what holds of the heap (J) and of each item (T) -/
theorem lc_run {J : AH → Prop} {T : D → Prop} (hG : ∀ h, J h → G h) : ∀ (ds acc : List D) (h : AH), J h → (∀ d ∈ ds, ∀ h, J h → ∃ σ1 y h2, g d σ h = some (σ1, h) ∧ m σ1 h = .ok y h2 ∧ J h2 ∧ T y) → acc.length + ds.length ≤ 16777216 →
    ∃ ys h', lcL G g tYesM m σ ds acc h = .ok (acc ++ ys) h' ∧ J h' ∧ ys.length = ds.length ∧ ∀ y ∈ ys, T y
  | [], acc, h, j, _, _ => ⟨[], h, by rw [lcL, if_pos (hG h j)]; simp, j, rfl, by simp⟩
  | d :: ds, acc, h, j, hd, hl => by
    obtain ⟨σ1, y, h2, a, b, j2, ty⟩ := hd d List.mem_cons_self h j
    rw [List.length_cons] at hl
    obtain ⟨ys, h', e, j', l, tys⟩ := lc_run hG ds (acc ++ [y]) h2 j2 (fun x hx => hd x (List.mem_cons_of_mem _ hx)) (by simp; omega)
    refine ⟨y :: ys, h', ?_, j', by rw [List.length_cons, List.length_cons, l], fun z hz => ?_⟩
    · rw [lcL, if_pos (hG h j), a]
      dsimp only
      rw [run_tYes]
      dsimp only
      rw [b]
      dsimp only
      rw [if_pos (by omega), e]
      simp
    · rcases List.mem_cons.mp hz with rfl | hz
      · exact ty
      · exact tys z hz
end
end Q

/-! Q15: exceptions of the program's own: made, raised, caught. -/
namespace Q
open PySem PySem.Spec PyProof.Rows L2
/-! ### a class's __init__ -/
/-- self.f = f for each field: what such an __init__ promises -/
def spIni (K : PySem.W.Frag) (ns : List Str) : Sp := fun vs H Q _ => ∃ (a C : Addr) (ws : List V), vs = .ref a :: ws ∧ ws.length = ns.length ∧ OexC K C ∧ (∀ f ∈ ns, PySem.W.findIn K (.ref C) f = some none) ∧ H a = some (exo a C none) ∧
  ∀ (d : Addr) (H' : Hp), H d = none → H' = upd (upd H d (exd d (ns.zip ws).reverse)) a (exo a C (some d)) → Q .non H'
section
variable {P : Program} {w : World} {K : PySem.W.Frag} {mg : Str → Option Value} {base : Heap} {fI : Addr} {fd : FuncData} {qual : Str} {params : Arguments} {scope : Scope} {ss : List Stmt}
theorem ini_one {z x f : Str} (F : FunD K "__init__" qual params ss scope [] [] fI fd) (S : FnScope [z, x] [z, x] scope)
    (hb : ∀ (cdv : Value) (A : Around) (outer : List Env) (s : Shared) (H : Hp) (E : XK), PSs (cxOf CX0 P w K mg base [z, x] qual scope fI cdv A outer s H E) ss (tOst K f (tVar 0) (tVar 1))) : FnOk P w K mg base CX0 1 fI fd [z, x] (spIni K [f]) := by
  refine F.ok S (fun vs H Q E h => ?_) fun cdv A outer s H vs Q E hr h => ⟨_, hb cdv A outer s H E, ?_⟩
  · obtain ⟨a, C, ws, rfl, hl, _⟩ := h
    simp [hl]
  · obtain ⟨a, C, ws, rfl, hl, T, hf, ha, q⟩ := h
    match ws, hl with
    | [v], _ =>
      refine ⟨_, rfl, _, rfl, a, C, rfl, T, hf f (by simp), .inl ⟨ha, fun dx hd hne => ?_⟩⟩
      exact q dx _ hd rfl
theorem ini_two {z x y f g : Str} (F : FunD K "__init__" qual params ss scope [] [] fI fd) (S : FnScope [z, x, y] [z, x, y] scope)
    (hb : ∀ (cdv : Value) (A : Around) (outer : List Env) (s : Shared) (H : Hp) (E : XK), PSs (cxOf CX0 P w K mg base [z, x, y] qual scope fI cdv A outer s H E) ss (tSeq (tOst K f (tVar 0) (tVar 1)) (tOst K g (tVar 0) (tVar 2)))) : FnOk P w K mg base CX0 1 fI fd [z, x, y] (spIni K [f, g]) := by
  refine F.ok S (fun vs H Q E h => ?_) fun cdv A outer s H vs Q E hr h => ⟨_, hb cdv A outer s H E, ?_⟩
  · obtain ⟨a, C, ws, rfl, hl, _⟩ := h
    simp [hl]
  · obtain ⟨a, C, ws, rfl, hl, T, hf, ha, q⟩ := h
    match ws, hl with
    | [v, u], _ =>
      refine ⟨_, rfl, _, rfl, a, C, rfl, T, hf f (by simp), .inl ⟨ha, fun dx hd hne => ?_⟩⟩
      refine ⟨_, rfl, _, rfl, a, C, rfl, T, hf g (by simp), .inr ⟨dx, _, upd_same, by rw [upd_ne hne]; exact upd_same, by simp, ?_⟩⟩
      refine q dx _ hd ?_
      funext b
      by_cases h1 : b = dx
      · subst h1
        rw [upd_same, upd_ne hne, upd_same]
        rfl
      · rw [upd_ne h1]
        by_cases h2 : b = a
        · subst h2
          rw [upd_same, upd_same]
        · rw [upd_ne h2, upd_ne h1, upd_ne h2, upd_ne h1]
end
/-! ### such an exception made -/
section
variable {X : Cx} {e : Expr} {es : List Expr} {ta : TA} {x : Str} {p pos : Pos} {C fI : Addr} {k : Nat} {fd : FuncData} {ps : List Str} {sp : Sp}
/-- the class is called where nothing is handled; its object's context is None -/
theorem pmk_ini (T : OexC X.K C) (hi : PySem.W.findIn X.K (.ref C) "__init__" = some (some (.ref fI))) (ht : PySem.W.typeIn X.K (.ref fI) = some (.type "function"))
    (F1 : FnOk X.prog X.w X.K X.mg X.base CX0 k fI fd ps sp) (room : Room (k + 1) X.A) (bnd : Binds X.K fd ps []) (glo : Gl X x) (mgx : X.mg x = some (.ref C)) (hargs : PA X (e :: es) ta)
    (hd : (x == ("__debug__" : Str)) = false := by decide) (hst : starEach (e :: es) X.env = (false, eval e X.env) :: starEach es X.env := by rfl) (hno : (backTo pos (starEach es X.env)).any (·.1) = false := by rfl) :
    L2N.PMk X (.Call (.Name x p) (e :: es) [] pos) (tMkO C sp [] ta) := fun pins s0 σ H Q I h => by
  obtain ⟨_, _, _, _, base', _, _, _, _, _, _, _, _, _, _, look, ve⟩ := T.cls
  refine wpAny_Call_Name_kw (ld_glob I glo mgx ?_ hd)
  refine PySem.W.callWith_K (h₀ := X.base) I.ok.mod.kin T.kC (thn (hargs.run pos pins s0 σ H _ I h) fun us sh ⟨vs, Hb, Ib, rel, small, wish⟩ => ⟨Ib.kIn, ?_⟩) hst hno
  show wpAny _ _ (call (.ref C) us) _ _ _
  obtain ⟨heap, gens, drawn, toks, osS⟩ := sh
  have le1 : heap.objs.size ≤ heap.objs.size + 1 := by omega
  have free1 : Hb (heap.objs.size + 1) = none := Ib.hok.fresh le1
  have w1 := wish (heap.objs.size + 1) free1
  rw [List.append_nil] at w1
  have keep2 : ∀ b o, heap.get? b = some o → ((heap.push (PySem.W.kdv_tup us)).push (PySem.HandSPX.excO C heap.objs.size)).get? b = some o :=
    fun b o q => Heap.get?_push_of_some _ (Heap.get?_push_of_some _ q)
  have at2 : ((heap.push (PySem.W.kdv_tup us)).push (PySem.HandSPX.excO C heap.objs.size)).get? (heap.objs.size + 1) = some (PySem.HandSPX.excO C heap.objs.size) := by
    heap_get
  have J : Inv X pins σ (upd Hb (heap.objs.size + 1) (exo (heap.objs.size + 1) C none)) ⟨(heap.push (PySem.W.kdv_tup us)).push (PySem.HandSPX.excO C heap.objs.size), gens, drawn, toks, osS⟩ :=
    Ib.laid (t' := toks) (a := heap.objs.size + 1) (o := exo (heap.objs.size + 1) C none) (h' := (heap.push (PySem.W.kdv_tup us)).push (PySem.HandSPX.excO C heap.objs.size)) keep2 le1 (exo_ok at2)
  have rel2 : Vals (V.ref (heap.objs.size + 1) :: vs) (Value.ref (heap.objs.size + 1) :: us) := .cons rfl rel
  have many : (Value.ref (heap.objs.size + 1) :: us ++ []).length = ps.length := by
    rw [List.append_nil, ← rel2.length]
    exact F1.len _ _ _ _ w1
  have few : us.length ≤ sizeLine := by
    rw [← Paired.length rel, sizeLine_eq]
    omega
  have bnd2 := bnd _ (Value.ref (heap.objs.size + 1) :: us) J.kIn many
  rw [List.append_nil] at bnd2
  refine wpAny_call (PySem.HandSPX.call_own F.excBase_ValueError (fun _ => PySem.HandSPX.refsVE_contains _ base' ve) (Ib.kIn _ _ look)
    (PySem.W.looks_findIn Ib.kIn hi) (fun self => PySem.W.bind_fn Ib.kIn self ht) few
    (codeAny_mono (F1.run _ X.stack _ _ ⟨Value.ref (heap.objs.size + 1) :: us, []⟩ (Value.ref (heap.objs.size + 1) :: us) _ _ (fun _ _ _ => False) (room.make C us []) (J.env0.make C us []) bnd2 rel2 w1) fun r sk done => ?_))
  cases r with
  | error er => exact done.elim
  | ok fl =>
    cases fl with
    | ret u =>
      obtain ⟨v, Hc, osE, bareE, unE, hokE, rv, ev, dd, fs, ea, ed, new, fin⟩ := done
      subst ev
      obtain ⟨heapE, gensE, drawnE, toksE, osE'⟩ := sk
      obtain ⟨t0, ground, K2, kG, gone, there, na⟩ := mk_end0 (d2 := drawnE) (t2 := toksE) Ib le1 keep2 unE hokE osE bareE ea ed new
      exact ⟨rv, heap.objs.size + 1, _, _, ⟨ground, gensE, drawnE, toksE, osE'⟩, _, .ref C, some dd, rfl, K2, kG, gone, there, ⟨rfl, rfl, fun vs hv => by cases hv; rfl⟩, rfl, rfl, na, rfl, bareE, raises_own T.exC T.tyC, fin⟩
    | next => exact done.elim
    | brk => exact done.elim
    | cont => exact done.elim
end
end Q

/-! Q16: raise, try. -/
namespace Q
open PySem PySem.Spec PyProof.Rows L2
/-- a class of the program's, over ValueError in the end: its fields, in the sequence of its __init__ -/
structure XCls (P : Program) (w : World) (K : PySem.W.Frag) (mg : Str → Option Value) (base : Heap) (c : Str) (ns : List Str) : Prop where
  ex : ∃ (C fI : Addr) (fd : FuncData) (ps : List Str), OexC K C ∧ XfC K C ∧ PySem.W.findIn K (.ref C) "__init__" = some (some (.ref fI)) ∧ PySem.W.typeIn K (.ref fI) = some (.type "function") ∧ FnOk P w K mg base CX0 1 fI fd ps (spIni K ns) ∧ Binds K fd ps [] ∧ mg c = some (.ref C) ∧
    ∀ f ∈ ns, PySem.W.findIn K (.ref C) f = some none
theorem zip_rev {α β : Type} : ∀ {as : List α} {bs : List β}, as.length = bs.length → as.reverse.zip bs.reverse = (as.zip bs).reverse
  | [], [], _ => rfl
  | [], _ :: _, h => by cases h
  | _ :: _, [], h => by cases h
  | a :: as, b :: bs, h => by
    rw [List.reverse_cons, List.reverse_cons, List.zip_cons_cons, List.reverse_cons, List.zip_append (by simpa using h), zip_rev (by simpa using h)]
    rfl
def sRaise (c : Str) (ns : List Str) (r : ML) : MS := fun σ h => (r σ h).andS σ fun xs h1 => if xs.length = ns.length ∧ ns.length ≤ 1000 then .ex ⟨c, ns.reverse, xs.reverse⟩ σ h1 else .stuck
section
variable {X : Cx} {W : WX} {c : Str} {ns : List Str} {r : ML} {e : Expr} {es : List Expr} {p pos pos2 : Pos}
theorem qs_raise (hc : X.calm = true) (tk : L2N.Takes X W) (xc : XCls X.prog X.w X.K X.mg X.base c ns) (room : Room 2 X.A) (ha : QA X W r (e :: es)) (hg : Gl X c := by rfl)
    (hd : (c == ("__debug__" : Str)) = false := by decide) (hst : starEach (e :: es) X.env = (false, eval e X.env) :: starEach es X.env := by rfl) (hno : (backTo pos (starEach es X.env)).any (·.1) = false := by rfl) :
    QS X W (sRaise c ns r) (.Raise (some (.Call (.Name c p) (e :: es) [] pos)) none pos2) := by
  obtain ⟨C, fI, fd, ps, T, _, hi, ht, F, bnd, mgc, nof⟩ := xc.ex
  refine PS.of (L2N.ps_raise hc tk (pmk_ini T hi ht F room bnd hg mgc ha hd hst hno)) fun D τ H ⟨σ, h, μ, rs, rh, q⟩ => goS rs rh q fun xs h1 vs H1 μ1 s1 rs1 rh1 rds q1 => ?_
  split at q1
  · rename_i hl
    have hvl : vs.length = ns.length := rds.length.trans hl.1
    refine ⟨by omega, fun a na => ⟨a, C, vs, by rw [List.append_nil], hvl, T, nof, upd_same, fun d H' hd e => ?_⟩⟩
    have da : d ≠ a := fun z => by rw [z, upd_same] at hd; cases hd
    have nd : H1 d = none := by rw [upd_ne da] at hd; exact hd
    subst e
    refine ⟨rfl, d, _, upd_same, by rw [upd_ne da]; exact upd_same, nd, ?_⟩
    have eH : upd (del (upd (upd (upd H1 a (exo a C none)) d (exd d (ns.zip vs).reverse)) a (exo a C (some d))) a) d (.xd (ns.zip vs).reverse) = upd H1 d (.xd (ns.zip vs).reverse) := by
      funext b
      by_cases h1 : b = d
      · subst h1
        rw [upd_same, upd_same]
      · rw [upd_ne h1, upd_ne h1]
        by_cases h2 : b = a
        · subst h2
          rw [del_same, na]
        · rw [del_ne h2, upd_ne h2, upd_ne h1, upd_ne h2]
    rw [eH]
    have st : Stp μ1 μ1 H1 (upd H1 d (.xd (ns.zip vs).reverse)) := Stp.laid nd
    exact q1 _ _ τ _ μ1 st (rs1.stp st) (rh1.laid nd) ⟨C, d, vs.reverse, mgc, rfl, rfl, rh1.fresh nd, by rw [upd_same, zip_rev hvl.symm], (rds.stp st).reverse⟩
  · exact q1.elim
end

/-! ### try -/
open Classical in
/-- what does not hang on where the exception lies -/
noncomputable def agree (f : Addr → Addr → Out) : Out := if ∀ a d, f a d = f 0 0 then f 0 0 else .stuck
@[simp] theorem agree_const (r : Out) : agree (fun _ _ => r) = r := if_pos fun _ _ => rfl
theorem agree_eq {f : Addr → Addr → Out} (h : agree f ≠ .stuck) (a d : Addr) : agree f = f a d := by
  unfold agree at h ⊢
  by_cases hp : ∀ a d, f a d = f 0 0
  · rw [if_pos hp, hp a d]
  · rw [if_neg hp] at h
    exact absurd rfl h
/-- behind the suite the name is gone -/
def Out.gone (i : Nat) : Out → Out
  | .nx σ h => .nx (σ.set i none) h
  | .bk σ h => .bk (σ.set i none) h
  | .ct σ h => .ct (σ.set i none) h
  | .rt d h => .rt d h
  | .ex _ _ _ => .stuck
  | .stuck => .stuck
@[simp] theorem gone_nx {i : Nat} {σ : AS} {h : AH} : (Out.nx σ h).gone i = .nx (σ.set i none) h := rfl
@[simp] theorem gone_bk {i : Nat} {σ : AS} {h : AH} : (Out.bk σ h).gone i = .bk (σ.set i none) h := rfl
@[simp] theorem gone_ct {i : Nat} {σ : AS} {h : AH} : (Out.ct σ h).gone i = .ct (σ.set i none) h := rfl
@[simp] theorem gone_rt {i : Nat} {d : D} {h : AH} : (Out.rt d h).gone i = .rt d h := rfl
/-- which classes a clause catches -/
abbrev Ct := Str → Option Bool
/-- try .. except C as n (slot i) -/
noncomputable def sTryAs (c : Ct) (i : Nat) (body : MS) (suite : Addr → Addr → Str → MS) : MS := fun σ h => match body σ h with
  | .ex e σ1 h1 => match c e.cls with
    | some true => agree fun a d => (suite a d e.cls (σ1.set i (some (.exn a d e.cls e.ns e.xs))) h1).gone i
    | some false => .ex e σ1 h1
    | none => .stuck
  | r => r
/-- the class that a clause names, and which of the program's classes are of it -/
def Clause (X : Cx) (x : Str) (c : Ct) : Prop := ∃ v, Names X x v ∧ ∀ (n : Str) (C : Addr) (b : Bool), c n = some b → X.mg n = some (.ref C) → PySem.W.exmOne X.K (.ref C) v = some b
/-- the context of a suite, as the readings know it: the exception at a, its dict at d, its class -/
structure Held (X : Cx) (a d : Addr) (c : Str) : Prop where
  ex : ∃ (oe : Obj) (C : Addr) (vs : Array Value), (a, oe) ∈ X.pn ∧ L2N.Zn (.ref C) (some d) oe ∧ oe.data = .fields vs ∧ X.mg c = some (.ref C)
theorem RelS.drop {K : PySem.W.Frag} {H : Hp} {μ : Mu} {σ : AS} {τ : L2.St} (r : RelS K H μ σ τ) (i : Nat) : RelS K H μ (σ.set i none) (τ.set i none) := by
  refine ⟨by rw [List.length_set, List.length_set]; exact r.1, fun j d e => ?_⟩
  by_cases hj : i = j
  · subst hj
    have hi : i < σ.length := by
      have := (List.getElem?_eq_some_iff.mp e).1
      simpa using this
    rw [List.getElem?_set_self hi] at e
    cases e
  · rw [List.getElem?_set_ne hj] at e ⊢
    exact r.2 j d e
section
variable {X : Cx} {W : WX} {x n : Str} {c : Ct} {i : Nat} {body suite : List Stmt} {b₀ : Stmt} {np pos pos' : Pos} {mb : MS} {ms : Addr → Addr → Str → MS}
/-- the reading of a suite -/
def tSu (X : Cx) (ms : Addr → Addr → Str → MS) : Addr → Value → Option Addr → TS := fun a cls dd D τ H => ∃ (cn : Str) (d C : Addr), cls = .ref C ∧ dd = some d ∧ X.mg cn = some (.ref C) ∧ tXS X WNever (ms a d cn) D τ H
theorem su_ok (hsu : ∀ (a d : Addr) (oe : Obj) (cn : Str) (pn : List (Addr × Obj)), Held (X.suite a ((a, oe) :: pn)) a d cn → QSs (X.suite a ((a, oe) :: pn)) WNever (ms a d cn) (b₀ :: suite)) (a : Addr) (oe : Obj) (cls : Value) (dd : Option Addr) (pn : List (Addr × Obj)) (hz : L2N.Zn cls dd oe)
    (hf : ∃ vs, oe.data = .fields vs) : PSs (X.suite a ((a, oe) :: pn)) (b₀ :: suite) (tSu X ms a cls dd) := ⟨fun pins s σ H D I h => by
  obtain ⟨cn, d, C, rfl, rfl, hm, h⟩ := h
  obtain ⟨vs, hv⟩ := hf
  exact (hsu a d oe cn pn ⟨oe, C, vs, List.mem_cons_self, hz, hv, hm⟩).run pins s σ H D I h⟩
/-- behind a suite -/
theorem post_gone {D : Ends} {H H' : Hp} {μ μ' : Mu} {r : Out} (st : Stp μ μ' H H') (q : PostS X W D H μ (r.gone i)) :
    PostS X WNever { nx := fun σ' H' => D.nx (σ'.set i none) H', rt := D.rt, bk := fun σ' H' => D.bk (σ'.set i none) H', ct := fun σ' H' => D.ct (σ'.set i none) H' } H' μ' r := by
  cases r with
  | stuck => exact q
  | ex e a b => exact False.elim q
  | nx a b => exact fun τ2 H2 μ2 s2 rs2 rh2 => q _ H2 μ2 (st.trans s2) (rs2.drop i) rh2
  | bk a b => exact fun τ2 H2 μ2 s2 rs2 rh2 => q _ H2 μ2 (st.trans s2) (rs2.drop i) rh2
  | ct a b => exact fun τ2 H2 μ2 s2 rs2 rh2 => q _ H2 μ2 (st.trans s2) (rs2.drop i) rh2
  | rt a b => exact fun v H2 μ2 s2 rh2 rd => q v H2 μ2 (st.trans s2) rh2 rd
theorem qs_tryAs (hs : X.stack = X.env :: X.outer) (hf : X.env.frame = some X.env.locals) (hN : X.N.Nodup) (hi : X.N[i]? = some n) (hln : X.env.kindOf n = some .local) (hc : Clause X x c) (tk : L2N.Takes X W)
    (hb : ∀ (W' : WX) (pn : List (Addr × Obj)) (xe : Value → Shared → Prop), L2N.Takes (X.tr pn xe) W' → PassesOwn (model X.prog X.w) X.A X.env xe → QSs (X.tr pn xe) W' mb body)
    (hsu : ∀ (a d : Addr) (oe : Obj) (cn : Str) (pn : List (Addr × Obj)), Held (X.suite a ((a, oe) :: pn)) a d cn → QSs (X.suite a ((a, oe) :: pn)) WNever (ms a d cn) (b₀ :: suite)) :
    QS X W (sTryAs c i mb ms) (.Try body [.ExceptHandler (some (.Name x np)) (some n) (b₀ :: suite) pos'] [] [] pos) := by
  obtain ⟨v, hv, hx⟩ := hc
  refine PS.of (L2N.ps_try_as (tb := fun W' => tXS X W' mb) (ts := tSu X ms) hs hf hN hi hln hv tk hb (su_ok hsu)) fun D τ H ⟨σ, h, μ, rs, rh, q⟩ => ⟨σ, h, μ, rs, rh, ?_⟩
  unfold sTryAs at q
  cases e : mb σ h with
  | ex ee σ1 h1 =>
    rw [e] at q
    intro cls dd τ1 H1 μ1 st rs1 rh1 rx
    obtain ⟨C, d, vs, hm, rfl, rfl, nd, hd, rds⟩ := rx
    cases hcc : c ee.cls with
    | none => simp only [hcc] at q; exact q.elim
    | some b =>
      refine ⟨b, hx _ _ _ hcc hm, ?_, ?_⟩
      · rintro rfl a na
        simp only [hcc] at q
        rw [agree_eq (fun z => by rw [z] at q; exact q) a d] at q
        exact ⟨ee.cls, d, C, rfl, rfl, hm, _, h1, μ1, rs1.set (.exn hd nd rds) i, rh1, post_gone st q⟩
      · rintro rfl
        simp only [hcc] at q
        exact q _ _ τ1 H1 μ1 st rs1 rh1 ⟨C, d, vs, hm, rfl, rfl, nd, hd, rds⟩
  | _ => rw [e] at q; exact q
end
end Q

/-! Q17: the exception that is handled: its fields, isinstance. -/
namespace Q
open PySem PySem.Spec PyProof.Rows L2
/-- what isinstance asks of an exception's class -/
structure XIs (K : PySem.W.Frag) (C : Addr) : Prop where
  cl : (PySem.W.clsIn K C).isSome = true
  dc : PySem.W.findIn K (.ref C) "__class__" = some (some (.builtin "object.__class__"))
  sp : PySem.W.specialIn K (.builtin "object.__class__") "__get__" = some (some (.builtin "getset_descriptor.__get__"))
  tk : PySem.W.takesIn K (.builtin "object.__class__") = some true
  mo : PySem.W.mroIn K C (.type "object") = some true
def xisB (K : PySem.W.Frag) (C : Addr) : Bool := (PySem.W.clsIn K C).isSome && decide (PySem.W.findIn K (.ref C) "__class__" = some (some (.builtin "object.__class__"))) && decide (PySem.W.specialIn K (.builtin "object.__class__") "__get__" = some (some (.builtin "getset_descriptor.__get__"))) &&
  decide (PySem.W.takesIn K (.builtin "object.__class__") = some true) && decide (PySem.W.mroIn K C (.type "object") = some true)
theorem xisB_ok {K : PySem.W.Frag} {C : Addr} (h : xisB K C = true) : XIs K C := by
  unfold xisB at h
  simp only [Bool.and_eq_true, decide_eq_true_eq] at h
  exact ⟨h.1.1.1.1, h.1.1.1.2, h.1.1.2, h.1.2, h.2⟩
/-- all that is asked of the program's classes: their fields -/
def XTab (K : PySem.W.Frag) (mg : Str → Option Value) (fs : Str → List Str) : Prop := ∀ (c : Str) (C : Addr), fs c ≠ [] → mg c = some (.ref C) → XfC K C ∧ XIs K C ∧ ∀ f ∈ fs c, PySem.W.findIn K (.ref C) f = some none
section
variable {X : Cx} {W : WX} {a d : Addr} {c : Str} {e : Expr} {te : TE} {pos : Pos} {fs : Str → List Str} {m : M} {f : Str}
theorem pe_fld (hh : Held X a d c) (xt : XTab X.K X.mg fs) (hfs : f ∈ fs c) (he : PE X e te) (hb : attributeBase e f X.env (eval e X.env) = eval e X.env := by rfl) :
    PE X (.Attribute e f pos) (fun σ H Q => te σ H fun x H1 => x = .ref a ∧ ∃ (ws : List (Str × V)) (v : V), H1 d = some (.xd ws) ∧ ws.lookup f = some v ∧ Q v H1) := ⟨fun pins s σ H Q I h => by
  obtain ⟨oe, C, vs, hp, hz, hv, hm⟩ := hh.ex
  obtain ⟨T, _, nof⟩ := xt c C (fun z => by rw [z] at hfs; cases hfs) hm
  refine attr_of hb (thn (he.run pins s σ H _ I h) fun u s1 ⟨x, H1, I1, rx, ex, ws, v, ed, l, q⟩ => ?_)
  subst ex
  obtain rfl : u = Value.ref a := rx
  have stands := (I1.pin (a, oe) (List.mem_append_left _ hp)).1
  obtain ⟨mA, hns, hr⟩ := (show ObjOk X.prog X.w H1 s1.heap d (.xd ws) from I1.hok d _ ed)
  obtain ⟨od, ho, hl⟩ := lookIn_ns hns
  obtain ⟨u, hu, ru⟩ := RelO.some_of (v := v) (o := mA f) (by rw [← l]; exact hr f)
  have at_ : PySem.W.InstAt s1.heap a oe C (some od) := ⟨stands, hz.1, by unfold PySem.W.notCls; rw [hv] <;> rfl, by rw [hz.2.1]; exact ho⟩
  exact HandSPX.exc_get I1.kIn at_ T.ga T.gg T.exC (PySem.W.findObj_own T.hdC (nof f hfs) rfl (by rw [hl, hu])) (handed_of ru) ⟨v, H1, I1.tok _, ru, q⟩⟩
theorem lookup_zip {K : PySem.W.Frag} {H : Hp} {μ : Mu} {f : Str} {x : D} : ∀ {ns : List Str} {xs : List D} {vs : List V}, RDs K H μ xs vs → (ns.zip xs).lookup f = some x → ∃ v, (ns.zip vs).lookup f = some v ∧ RD K H μ x v
  | [], _, _, _, e => by cases e
  | _ :: _, [], _, r, e => by cases e
  | n :: ns, y :: ys, _, r, e => by
    cases r with
    | cons r1 r2 =>
      rw [List.zip_cons_cons, List.lookup] at e ⊢
      cases h : f == n with
      | true => rw [h] at e; cases e; exact ⟨_, rfl, r1⟩
      | false => rw [h] at e; exact lookup_zip r2 e
/-- e.f of the exception that is handled -/
def eFld (fs : Str → List Str) (a d : Addr) (c f : Str) (m : M) : M := fun σ h => (m σ h).bind fun x h1 => match x with
  | .exn a' d' _ ns xs => if (a' = a ∧ d' = d) ∧ f ∈ fs c then (match (ns.zip xs).lookup f with
    | some v => .ok v h1
    | none => .stuck) else .stuck
  | _ => .stuck
theorem q_fld (hh : Held X a d c) (xt : XTab X.K X.mg fs) (hm : QE X W m e) (hb : attributeBase e f X.env (eval e X.env) = eval e X.env := by rfl) : QE X W (eFld fs a d c f m) (.Attribute e f pos) := by
  by_cases hfs : f ∈ fs c
  · exact QE.of (pe_fld hh xt hfs hm hb) fun τ H Q ⟨σ, h, μ, rs, rh, q⟩ => go rs rh q fun x h1 v H1 μ1 s1 rs1 rh1 rx q1 => by
      split at q1
      · split at q1
        · rename_i hc
          obtain ⟨⟨rfl, rfl⟩, _⟩ := hc
          cases rx with
          | exn hd nd rr =>
            split at q1
            · rename_i y ey
              obtain ⟨z, ez, rz⟩ := lookup_zip rr ey
              exact ⟨rfl, _, z, hd, ez, q1.now rh1 rz⟩
            · exact q1.elim
        · exact q1.elim
      · exact q1.elim
  · refine ⟨fun pins s τ H Q I ⟨σ, h, μ, rs, rh, q⟩ => ?_⟩
    refine attr_of hb (thn (hm.run pins s τ H (fun _ _ => False) I (go rs rh q fun x h1 v H1 μ1 s1 rs1 rh1 rx q1 => by
      split at q1
      · split at q1
        · rename_i hc
          exact hfs hc.2
        · exact q1.elim
      · exact q1.elim)) fun u s1 ⟨v, H1, I1, r1, z⟩ => z.elim)
/-- isinstance of the exception that is handled -/
theorem call_held (hh : Held X a d c) (xt : XTab X.K X.mg fs) (hfs : fs c ≠ []) :
    CallR X (.builtin "isinstance") (fun xs H Q => ∃ (cv : V) (u : Value) (b : Bool) (ws : List (Str × V)), xs = [.ref a, cv] ∧ ClsV cv u ∧ H d = some (.xd ws) ∧ (∀ C, X.mg c = some (.ref C) → PySem.W.kitOne X.K (.ref C) u = some b) ∧ Q (.bl b) H) := fun pins s σ H xs us Q I r h => by
  obtain ⟨cv, u, b, ws, rfl, k, hd, hk, q⟩ := h
  obtain ⟨u1, u2, rfl, r1, r2⟩ := vals2 r
  cases (show u1 = Value.ref a from r1)
  have e2 := k.eq r2
  subst e2
  obtain ⟨oe, C, vs, hp, hz, hv, hm⟩ := hh.ex
  obtain ⟨T, S, _⟩ := xt c C hfs hm
  have stands := (I.pin (a, oe) (List.mem_append_left _ hp)).1
  obtain ⟨mA, hns, _⟩ := (show ObjOk X.prog X.w H s.heap d (.xd ws) from I.hok d _ hd)
  obtain ⟨od, ho, _⟩ := lookIn_ns hns
  have at_ : PySem.W.InstAt s.heap a oe C (some od) := ⟨stands, hz.1, by unfold PySem.W.notCls; rw [hv] <;> rfl, by rw [hz.2.1]; exact ho⟩
  exact PySem.W.kia_one (PySem.W.kitx_exc S.cl T.ga T.gg T.exC S.dc S.sp S.tk S.mo) I.kIn at_ (hk C hm) (by intro z; cases z) fun tk => ⟨.bl b, H, I.tok tk, rfl, q⟩
/-- a class as isinstance's second argument; which of the program's exceptions are of it -/
def IsC (X : Cx) (T : Str) (ct : Ct) : Prop := ∃ (cv : V) (u : Value), ClsV cv u ∧ ((∃ v, X.mg T = some v ∧ RelV cv v) ∨ (X.mg T = none ∧ ∃ v, bootBuiltins T = some v ∧ RelV cv v ∧ T ≠ "__name__")) ∧ ∀ (n : Str) (C : Addr) (b : Bool), ct n = some b → X.mg n = some (.ref C) → PySem.W.kitOne X.K (.ref C) u = some b
/-- isinstance(e, T) of the exception that is handled -/
def eIsX (fs : Str → List Str) (ct : Ct) (a d : Addr) (c : Str) (m : M) : M := fun σ h => (m σ h).bind fun x h1 => match x with
  | .exn a' d' _ _ _ => if (a' = a ∧ d' = d) ∧ fs c ≠ [] then (match ct c with
    | some b => .ok (.bl b) h1
    | none => .stuck) else .stuck
  | _ => .stuck
theorem q_isX {T : Str} {ct : Ct} {p p2 : Pos} (hh : Held X a d c) (xt : XTab X.K X.mg fs) (it : IsC X T ct) (hg : Gl X "isinstance") (hi : X.mg "isinstance" = none) (hm : QE X W m e) (hgT : Gl X T) (hdT : (T == ("__debug__" : Str)) = false := by decide)
    (he : starEach [e, .Name T p2] X.env = (false, eval e X.env) :: starEach [.Name T p2] X.env := by rfl) (hpl : (backTo pos (starEach [Expr.Name T p2] X.env)).any (·.1) = false := by rfl) : QE X W (eIsX fs ct a d c m) (.Call (.Name "isinstance" p) [e, .Name T p2] [] pos) := by
  obtain ⟨cv, u, k, hn, hk⟩ := it
  have pT : PE X (.Name T p2) (tC cv) := by
    rcases hn with ⟨v, h1, h2⟩ | ⟨h1, v, h2, h3, h4⟩
    · exact pe_glob hgT h1 h2 hdT
    · exact pe_bltn hgT h1 h2 h3 h4 hdT
  by_cases hfs : fs c ≠ []
  · refine QE.of (pe_callB (call_held hh xt hfs) hg hi (by decide +kernel) (pa_cons hm (pa_cons pT pa_nil) he) (by decide) (by decide) he hpl) fun τ H Q ⟨σ, h, μ, rs, rh, q⟩ => go rs rh q fun x h1 v H1 μ1 s1 rs1 rh1 rx q1 => ?_
    split at q1
    · split at q1
      · rename_i hc
        obtain ⟨⟨rfl, rfl⟩, _⟩ := hc
        cases rx with
        | exn hd nd rr =>
          split at q1
          · rename_i b eb
            exact ⟨cv, u, b, _, rfl, k, hd, fun C hC => hk c C b eb hC, q1.now rh1 (.bl b)⟩
          · exact q1.elim
      · exact q1.elim
    · exact q1.elim
  · refine QE.of (pe_callB (id := "isinstance") (r := fun _ _ _ => False) (fun pins s σ H xs us Q I r h => h.elim) hg hi (by decide +kernel) (pa_cons hm (pa_cons pT pa_nil) he) (by decide) (by decide) he hpl) fun τ H Q ⟨σ, h, μ, rs, rh, q⟩ => go rs rh q fun x h1 v H1 μ1 s1 rs1 rh1 rx q1 => ?_
    split at q1
    · split at q1
      · rename_i hc
        exact (hfs hc.2).elim
      · exact q1.elim
    · exact q1.elim
end
end Q

/-! Q18: defs called where an exception is handled. -/
namespace Q
open PySem PySem.Spec PyProof.Rows L2
/-- oe, at a, is the handled exception: its class by the name c, its dict at d -/
structure Hot (mg : Str → Option Value) (A : Around) (a d : Addr) (c : Str) (oe : Obj) : Prop where
  hot : L2H.Hot1 A (a, oe)
  ex : ∃ (C : Addr) (vs : Array Value), L2N.Zn (.ref C) (some d) oe ∧ oe.data = .fields vs ∧ mg c = some (.ref C)
theorem Hot.held {X : Cx} {A : Around} {a d : Addr} {c : Str} {oe : Obj} (h : Hot X.mg A a d c oe) (m : (a, oe) ∈ X.pn) : Held X a d c :=
  let ⟨C, vs, h1, h2, h3⟩ := h.ex; ⟨oe, C, vs, m, h1, h2, h3⟩
/-- the context of a suite, for calls -/
structure HeldH (X : Cx) (a d : Addr) (c : Str) : Prop where
  ex : ∃ oe : Obj, (a, oe) ∈ X.pn ∧ Hot X.mg X.A a d c oe
theorem HeldH.held {X : Cx} {a d : Addr} {c : Str} (h : HeldH X a d c) : Held X a d c := let ⟨_, m, h⟩ := h.ex; h.held m
theorem Held.hot {X : Cx} {a d : Addr} {c : Str} (h : Held X a d c) (e : X.A.handled = some (.ref a)) : HeldH X a d c :=
  let ⟨oe, C, vs, m, h1, h2, h3⟩ := h.ex; ⟨oe, m, ⟨e, vs, h2, h1.2.2 vs h2⟩, C, vs, h1, h2, h3⟩
/-- a promise that holds while an exception is handled -/
structure FnE (P : Program) (w : World) (K : PySem.W.Frag) (mg : Str → Option Value) (base : Heap) (k : Nat) (f : Addr) (fd : FuncData) (ps : List Str) (sp : Addr → Addr → Str → Sp) : Prop where
  many : ∀ a d c vs H Q E, sp a d c vs H Q E → vs.length = ps.length
  goes : ∀ (A : Around) (outer : List Env) (s : Shared) (H : Hp) (args : Args) (us : List Value) (vs : List V) (Q : VK) (E : XK) (a d : Addr) (c : Str) (oe : Obj), L2H.RoomH k A → Hot mg A a d c oe → L2H.PinOk outer H s (a, oe) → Env0 P w K mg base A outer s H →
    BindsTo s fd args (ps.zip us) → Vals vs us → sp a d c vs H Q E → codeAny (model P w) A (.call (.ref f) args) (CR CX0 outer P w H s Q E) s
/-- .. by a mirror, which lets nothing out -/
def spH (P : Program) (w : World) (K : PySem.W.Frag) (mg : Str → Option Value) (f : Addr → Addr → Str → List D → AH → Res D) : Addr → Addr → Str → Sp := fun a d c vs H Q _ => spOf P w K mg (f a d c) vs H Q fun _ _ _ => False
section
variable {P : Program} {w : World} {K : PySem.W.Frag} {mg : Str → Option Value} {base : Heap} {x qual : Str} {params : Arguments} {ss : List Stmt} {scope : Scope} {f : Addr} {fd : FuncData}
/-- the body of such a def -/
theorem fn_okE {N ps : List Str} {k : Nat} {body : Addr → Addr → Str → MS} (F : FunD K x qual params ss scope [] [] f fd) (S : FnScope N ps scope)
    (hbody : ∀ (cdv : Value) (A : Around) (outer : List Env) (s : Shared) (H : Hp) (E : XK) (a d : Addr) (c : Str) (oe : Obj), L2H.RoomH k (A.deeper (envOfC qual scope s.heap.objs.size f cdv)) → Hot mg A a d c oe →
      QSs (L2H.cxH CX0 P w K mg base N qual scope f cdv A outer s H E (a, oe)) WNever (body a d c) ss) :
    FnE P w K mg base (k + 1) f fd ps (spH P w K mg fun a d c => fnR true ps.length N.length (body a d c)) := by
  have cnt : ∀ a d c vs H Q E, spH P w K mg (fun a d c => fnR true ps.length N.length (body a d c)) a d c vs H Q E → vs.length = ps.length := fun a d c vs H Q E ⟨ds, μ, h, _, rds, q⟩ => by
    rw [rds.length]
    by_cases hl : ds.length = ps.length
    · exact hl
    · have e : fnR true ps.length N.length (body a d c) ds h = .stuck := if_neg hl
      have q' : PostF P w K mg H μ Q (fun _ _ _ => False) (fnR true ps.length N.length (body a d c) ds h) := q
      rw [e] at q'
      exact q'.elim
  obtain ⟨oc, od, dV, kV, doc, pm, an, cdv, ct, osl, rfl, look, code, _, _⟩ := F.ex
  refine ⟨cnt, fun A outer s0 H args us vs Q E a d c oe room hot pin env bnd rel wish => ?_⟩
  have few := cnt _ _ _ _ _ _ _ wish
  have inK : K.In s0.heap := env.mod.kin.keeps fun b o q => (env.bs b o q).1
  have free : s0.heap.NoLimit := env.mod.nolimit.keeps fun b o q => (env.bs b o q).1
  have kinds : ∀ y ∈ ps.zip us, scope.names.lookup y.1 = some .local ∨ (scope.names.lookup y.1 = some .cell ∧ ((cellsFrom (s0.heap.objs.size + 1) scope.names []).lookup y.1).isSome = true) := fun y hy =>
    (S.par y.1 (List.of_mem_zip (a := y.1) (b := y.2) hy).1).imp id fun z => ⟨z, PySem.W.cellsFrom_some _ _ _ (.inl z)⟩
  refine codeAny_call_function room.depth (inK _ _ look) rfl S.co S.gen rfl (PySem.W.codeRec_of inK code) (bnd _ _ _ _ ?_)
  refine wpAny_newFunctionEnv_cells S.kind kinds fun env' ee s1 st => ?_
  subst ee
  refine ⟨free.keeps st.toInCall.keep, codeAny_func ?_⟩
  have start := L2H.inv_startH (CX := CX0) (qual := qual) (f := f) (cd := cdv) (E := E) S pin env few rel st
  have body' := hbody cdv A outer s0 H E a d c oe (room.deeper _) hot
  have read : tXS (L2H.cxH CX0 P w K mg base N qual scope f cdv A outer s0 H E (a, oe)) WNever (body a d c) { nx := fun _ H' => Q .non H', rt := Q } (L2.start N vs) H := by
    exact sp_body (X := L2H.cxH CX0 P w K mg base N qual scope f cdv A outer s0 H E (a, oe)) wish
  refine wpAny_mono (body'.run [] s1 (L2.start N vs) H _ start read) (fun fl s2 ends => ?_) fun _ _ z => z
  have back : ∀ {σ' : L2.St} {H' : Hp} {v : V} {u : Value}, Inv (L2H.cxH CX0 P w K mg base N qual scope f cdv A outer s0 H E (a, oe)) [] σ' H' s2 → RelV v u → Q v H' → CE outer P w H s0 Q u s2 := fun {_ H' v _} J rv q => ⟨v, H', J.os, J.bare, J.base, J.hok, rv, q⟩
  cases fl with
  | ret u => obtain ⟨v, σ', H', J, rv, q⟩ := ends; exact back J rv q
  | next => obtain ⟨σ', H', J, q⟩ := ends; exact back (v := .non) J rfl q
  | brk => obtain ⟨_, _, _, q⟩ := ends; exact q.elim
  | cont => obtain ⟨_, _, _, q⟩ := ends; exact q.elim
end
/-- such a def by its name -/
def DefH (P : Program) (w : World) (K : PySem.W.Frag) (mg : Str → Option Value) (base : Heap) (k : Nat) (x : Str) (f : Addr → Addr → Str → List D → AH → Res D) : Prop :=
  ∃ (fa : Addr) (fd : FuncData) (ps : List Str), FnE P w K mg base k fa fd ps (spH P w K mg f) ∧ mg x = some (.ref fa) ∧ PySem.W.keepIn K (.ref fa) = true ∧ Binds K fd ps []
/-- nothing is let out -/
def Res.shut {α : Type} : Res α → Res α
  | .ex _ _ => .stuck
  | r => r
@[simp] theorem shut_ok {α : Type} {a : α} {h : AH} : (Res.ok a h).shut = .ok a h := rfl
def eFnH (f : List D → AH → Res D) (r : ML) : M := fun σ h => (r σ h).bind fun ds h1 => (f ds h1).shut
section
variable {X : Cx} {W : WX} {a d : Addr} {c : Str}
theorem q_fnH {k : Nat} {f : Addr → Addr → Str → List D → AH → Res D} {x : Str} {r : ML} {e : Expr} {es : List Expr} {p pos : Pos} (hh : HeldH X a d c) (dh : DefH X.prog X.w X.K X.mg X.base k x f) (room : L2H.RoomH k X.A) (hg : Gl X x) (ha : QA X W r (e :: es)) (hdb : (x == ("__debug__" : Str)) = false := by decide)
    (he : starEach (e :: es) X.env = (false, eval e X.env) :: starEach es X.env := by rfl) (hpl : (backTo pos (starEach es X.env)).any (·.1) = false := by rfl) : QE X W (eFnH (f a d c) r) (.Call (.Name x p) (e :: es) [] pos) := by
  obtain ⟨fa, fd, ps, F, hm, hk, hb⟩ := dh
  obtain ⟨oe, mem, hot⟩ := hh.ex
  refine ⟨fun pins s τ H Q I ⟨σ, h, μ, rs, rh, q⟩ => ?_⟩
  refine wpAny_Call_Name_kw (ld_glob I hg hm ?_ hdb)
  have h2 := ha.run pos pins s τ H (fun vs H1 => spH X.prog X.w X.K X.mg f a d c vs H1 Q fun _ _ _ => False) I (go rs rh q fun ds h1 vs H1 μ1 s1 rs1 rh1 rds q1 => ⟨ds, μ1, h1, rh1, rds, by
    show PostF _ _ _ _ _ _ _ _ (f a d c ds h1)
    cases e : f a d c ds h1 with
    | stuck => rw [e] at q1; exact q1
    | ok d h' => rw [e] at q1; exact q1
    | ex x h' => rw [e] at q1; exact q1.elim⟩)
  refine PySem.W.callWith_K (h₀ := X.base) I.ok.mod.kin hk (thn h2 fun us s1 ⟨vs, H1, I1, rel, wish⟩ => ⟨I1.kIn, ?_⟩) he hpl
  have many : us.length = ps.length := by rw [← rel.length]; exact F.many _ _ _ _ _ _ _ wish
  have bnd := hb s1 us I1.kIn (by rw [List.append_nil]; exact many)
  rw [List.append_nil] at bnd
  have stands := I1.pin (a, oe) (List.mem_append_left _ mem)
  have pin : L2H.PinOk X.stack H1 s1 (a, oe) := ⟨stands.1, stands.2.1, fun hm => (List.mem_cons.mp (I1.stkSub a hm)).elim stands.2.2.1 stands.2.2.2.1, stands.2.2.2.2⟩
  refine wpAny_call (codeAny_mono (F.goes X.A X.stack s1 H1 ⟨us, []⟩ us vs Q (fun _ _ _ => False) a d c oe room hot pin I1.env0 bnd rel wish) fun r s2 ends => ?_)
  cases r with
  | error er => exact ends.elim
  | ok fl =>
    cases fl with
    | ret u => exact I1.after ends
    | next => exact ends.elim
    | brk => exact ends.elim
    | cont => exact ends.elim
end
end Q

/-! Q19: a list comprehension over a range, where an exception is handled. -/
namespace Q
open PySem PySem.Spec PyProof.Rows L2
/-- the block's context, with the handled exception's pin -/
abbrev blkH (X : Cx) (s : Shared) (H : Hp) (scope : Scope) (cenv : Env) (fp : List Addr) (p : Addr × Obj) : Cx := { X.blk s H scope cenv fp with pn := [p] }
theorem inv_pin {Y : Cx} {p : Addr × Obj} {pins : List (Addr × Obj)} {σ : L2.St} {H : Hp} {s : Shared} (I : Inv { Y with pn := [] } pins σ H s)
    (h : s.heap.get? p.1 = some p.2 ∧ H p.1 = none ∧ p.1 ≠ Y.env.locals ∧ p.1 ∉ Y.fs ∧ ∀ v, p.2.data ≠ .cell v) : Inv { Y with pn := [p] } pins σ H s where
  ok := ⟨I.ok.mod, I.ok.kind, I.ok.glob, I.ok.blt, I.ok.above, I.ok.inj, I.ok.has, I.ok.cab, I.ok.hd, I.ok.frames, I.ok.stk, I.ok.exf, I.ok.bs, I.ok.bsz, I.ok.noex, I.ok.exfs, I.ok.funs, I.ok.frf⟩
  os := I.os
  bare := I.bare
  base := I.base
  loc := I.loc
  cell := I.cell
  free := I.free
  freeC := I.freeC
  pin := fun q hq => by
    rcases List.mem_cons.mp (show q ∈ p :: pins from hq) with e | m
    · rw [e]; exact h
    · exact I.pin q (show q ∈ [] ++ pins by simpa using m)
  hok := I.hok
  len := I.len
section
variable {X : Cx}
theorem pe_lcH {elt tg iter : Expr} {ifs : List Expr} {scope : Scope} {own : List (Str × Nat)} {pos : Pos} {wi : TI} {g : TG} {tt : TT} {te : TE} (hot : L2H.HotC X) (hN : X.N.Nodup) (hi : L2H.PIH X tg iter wi) (ok : BlkOk X.N X.env.scope scope own)
    (hg : ∀ (s : Shared) (H : Hp) (C : Addr) (cl : List (Str × Addr)) (fp : List Addr) (p : Addr × Obj), PG (blkH X s H scope (compEnvC scope cl C X.env) fp p) tg g)
    (ht : ∀ (s : Shared) (H : Hp) (C : Addr) (cl : List (Str × Addr)) (fp : List Addr) (p : Addr × Obj), PTs (blkH X s H scope (compEnvC scope cl C X.env) fp p) ifs tt)
    (he : ∀ (s : Shared) (H : Hp) (C : Addr) (cl : List (Str × Addr)) (fp : List Addr) (p : Addr × Obj), PE (blkH X s H scope (compEnvC scope cl C X.env) fp p) elt te)
    (hs : ∀ x, foldedSetIterable iter X.env x = pure x := by intro _; rfl) : PE X (.ListComp elt [⟨tg, iter, ifs, 0⟩] scope pos) (tLc wi g tt te (own.map (·.2))) := ⟨fun pins s0 σ H Q I wish => by
  obtain ⟨p, hot1, hp⟩ := hot
  rw [eval_ListComp]
  have cells : ∀ y ∈ scope.names, y.2 = .free → ∃ c, X.env.cells.lookup y.1 = some c := fun y hy e =>
    (ok.free y hy e).elim (fun k => I.ok.has _ (.inl k)) fun k => I.ok.has _ (.inr k)
  refine wpAny_comprehension_free (use := none) rfl hs (closure_ok cells) ok.kind (fun y hy e => by rw [ok.uniq y hy, e]) (thn (hi.run pins s0 σ H _ I wish) fun v0 s1 w1 => thn w1 fun v1 s2 w2 => ?_)
  obtain ⟨it, fp, tn, J, Ha, rfl, Ia, turns, at0, apart, goal⟩ := w2
  refine wpAny_newObj_type (newEnv_comp ?_) (by show 0 ≤ sizeLine; decide)
  generalize hL : s2.heap.objs.size = L
  have newL : Ha L = none := Ia.hok.fresh (Nat.le_of_eq hL)
  obtain ⟨Wt, ⟨m0, start⟩, step⟩ := goal L newL
  -- the list that is made
  generalize hs3 : ({ s2 with heap := s2.heap.push { cls := .type "list", data := .seq ([] : List Value).toArray } } : Shared) = s3
  have e3 : s3.heap = s2.heap.push { cls := .type "list", data := .seq ([] : List Value).toArray } := by
    rw [← hs3]
  have Ib : Inv X pins σ (upd Ha L (.lst [])) s3 := by
    rw [← hs3]
    refine Ia.laid (t' := s2.toks) (fun _ _ q => Heap.get?_push_of_some _ q) (Nat.le_of_eq hL) ?_
    refine ⟨Nat.zero_le _, [], 0, .nil, ?_⟩
    rw [← hL]; exact Heap.get?_push_size _ rfl
  have below : ∀ b ∈ fp, b < s2.heap.objs.size := fun b hb => let ⟨_, q, _⟩ := turns.obj _ _ at0 b hb; Heap.lt_size q
  have apart3 : ∀ b ∈ fp, FpOk X pins (upd Ha L (.lst [])) b ∧ b < s3.heap.objs.size := fun b hb => by
    have lt := below b hb
    have nb : b ≠ L := by rw [← hL]; exact Nat.ne_of_lt lt
    exact ⟨⟨by rw [upd_ne nb]; exact (apart b hb).1, (apart b hb).2⟩, by rw [e3, Heap.size_push]; exact Nat.lt_succ_of_lt lt⟩
  have at3 : tn 0 s3.heap := turns.keep _ _ _ at0 fun b _ o q => by rw [e3]; exact Heap.get?_push_of_some _ q
  have Ic := block_start Ib ok hN apart3
  generalize hB : upd Ha L (.lst []) = Hb at Ib Ic apart3 start
  have stands := Ib.pin p (List.mem_append_left _ hp)
  have free3 : ∀ b ∈ fp, Hb b = none := fun b hb => (apart3 b hb).1.1
  show codeAny _ _ (.compStart (.ListComp elt [⟨tg, iter, ifs, 0⟩] scope pos) 0 (.ref it) (.ref L)
    (compEnvC scope (cellsFrom (s3.heap.objs.size + 1) scope.names (cloFrom X.env.cells scope.names [])) s3.heap.objs.size X.env)) (compPost (model X.prog X.w) X.A X.xe none _ (.ref L) s3.heap.objs.size)
    { s3 with heap := pushCells (s3.heap.push { cls := .type "dict", data := .dict #[] }) scope.names }
  have rg := fun q => hg s3 Hb s3.heap.objs.size (cellsFrom (s3.heap.objs.size + 1) scope.names (cloFrom X.env.cells scope.names [])) fp q
  have rt := fun q => ht s3 Hb s3.heap.objs.size (cellsFrom (s3.heap.objs.size + 1) scope.names (cloFrom X.env.cells scope.names [])) fp q
  have re := fun q => he s3 Hb s3.heap.objs.size (cellsFrom (s3.heap.objs.size + 1) scope.names (cloFrom X.env.cells scope.names [])) fp q
  generalize hcv : compEnvC scope (cellsFrom (s3.heap.objs.size + 1) scope.names (cloFrom X.env.cells scope.names [])) s3.heap.objs.size X.env = cv at Ic rg rt re ⊢
  have locs : cv.locals = s3.heap.objs.size := by subst hcv; rfl
  generalize hs4 : ({ s3 with heap := pushCells (s3.heap.push { cls := .type "dict", data := .dict #[] }) scope.names } : Shared) = s4 at Ic ⊢
  have kept4 : ∀ b o, s3.heap.get? b = some o → s4.heap.get? b = some o := fun b o q => by
    rw [← hs4]; exact pushCells_keeps _ _ _ _ (Heap.get?_push_of_some _ q)
  have at4 : tn 0 s4.heap := turns.keep _ _ _ at3 fun b _ o q => kept4 b o q
  have fsB : ∀ b, b ∈ frs X.stack → b ∈ X.fs ∨ b = X.env.locals := fun b hm => (List.mem_cons.mp (Ib.stkSub b hm)).symm
  have Id : Inv (blkH X s3 Hb scope cv fp p) [] (wipe σ (own.map (·.2))) Hb s4 := inv_pin (Y := X.blk s3 Hb scope cv fp) Ic
    ⟨kept4 _ _ stands.1, stands.2.1, by show p.1 ≠ cv.locals; rw [locs]; exact Nat.ne_of_lt (Heap.lt_size stands.1), fun hm => (fsB p.1 hm).elim stands.2.2.2.1 stands.2.2.1, stands.2.2.2.2⟩
  have hotB : L2H.HotC (blkH X s3 Hb scope cv fp p) := ⟨p, hot1, List.mem_cons_self⟩
  have stay : ∀ {σ' : L2.St} {H' : Hp} {s' : Shared}, Inv (blkH X s3 Hb scope cv fp p) [] σ' H' s' → (∀ b ∈ fp, H' b = none) → ∀ b ∈ fp, FpOk (blkH X s3 Hb scope cv fp p) [] H' b := fun {_ _ _} J hn b hb =>
    ⟨hn b hb, (J.ok.exf b hb).1, J.ok.exfs b hb, .inl hb, fun x c q => (J.ok.exf b hb).2 x c q, fun q hq => by
      have e : q = p := by simpa using (show q ∈ [p] ++ ([] : List (Addr × Obj)) from hq)
      rw [e]
      exact (apart b hb).2.2.2.2.2 p (List.mem_append_left _ hp)⟩
  have loop : codeAny (model X.prog X.w) X.A (.compLoop (.ListComp elt [⟨tg, iter, ifs, 0⟩] scope pos) 0 (.ref it) (.ref L) cv) (compPost (model X.prog X.w) X.A X.xe none (EP X pins σ Q) (.ref L) s3.heap.objs.size) s4 := by
    refine compLoop_any (fun n sx => ∃ i Hx, Inv (blkH X s3 Hb scope cv fp p) [] (wipe σ (own.map (·.2))) Hx sx ∧ tn i sx.heap ∧ (∀ b ∈ fp, Hx b = none) ∧ Wt i n Hx) ?_ m0 ⟨0, Hb, Id, at4, free3, start⟩
    rintro n s5 ⟨i, H5, I5, at5, free5, w5⟩
    rcases step i n H5 w5 with ⟨stop, fin⟩ | ⟨go, Nx, less, turn⟩
    · refine thnF (turns.done (blkH X s3 Hb scope cv fp p) rfl rfl rfl hotB i [] s5 _ H5 (fun _ _ => False) I5 (stay I5 free5) at5 stop) fun r s6 ⟨er, I6⟩ => ?_
      subst er
      have I7 : Inv X pins σ H5 s6 := Ib.call' (ch := fp) I6.os I6.base I6.hok I6.bare fun b hb =>
        let z := (apart3 b hb).1; ⟨z.2.2.2.1, z.2.1, z.2.2.2.2.1, z.2.2.2.2.2⟩
      have freeC : H5 s3.heap.objs.size = none := by rw [← locs]; exact I6.free
      obtain ⟨m, hn, _⟩ := I6.loc
      have hn' : s6.heap.Ns s3.heap.objs.size m := by rw [← locs]; exact hn
      refine ⟨m, hn', fun h'' same => ?_⟩
      obtain ⟨f0, f1, f2, f3, f4, f5⟩ := Ib.fpOk (Nat.le_refl _) freeC
      exact ⟨.ref L, H5, I7.turned (t' := s6.toks) (fun b o nb q => (same.2 b nb).trans q) f0 f1 f3 f4 f5, rfl, fin⟩
    · refine thnF (turns.item (blkH X s3 Hb scope cv fp p) rfl rfl rfl hotB i [] s5 _ H5 (fun _ _ => False) I5 (stay I5 free5) at5 go) fun r s6 ⟨u, er, h6⟩ => ?_
      subst er
      refine thnF h6 fun _ s7 ⟨x, H7, I7, rx, yx, at7, free7⟩ => ?_
      have I8 := I7.pinned (stay I7 free7) (turns.obj _ _ at7)
      refine thnF ((rg p).run _ s7 _ H7 x u _ I8 rx (turn x H7 yx)) fun _ s8 ⟨σ8, H8, I9, wiped, t8⟩ => ?_
      refine thnF ((rt p).run _ s8 σ8 H8 _ I9 t8) fun b s9 ⟨H9, I10, t9⟩ => ?_
      have again : ∀ {sz : Shared} {Hz : Hp}, Inv (blkH X s3 Hb scope cv fp p) ([] ++ pinsAt fp s7.heap) σ8 Hz sz → Nx Hz →
          ∃ m, m < n ∧ ∃ i Hx, Inv (blkH X s3 Hb scope cv fp p) [] (wipe σ (own.map (·.2))) Hx sz ∧ tn i sz.heap ∧ (∀ b ∈ fp, Hx b = none) ∧ Wt i m Hx := fun {sz Hz} Iz nz => by
        obtain ⟨m', lt, w'⟩ := less Hz nz
        have still : ∀ b ∈ fp, ∀ o, s7.heap.get? b = some o → sz.heap.get? b = some o ∧ Hz b = none := fun b hb o q =>
          let z := Iz.pin (b, o) (List.mem_append_right _ (List.mem_append_right _ (mem_pinsAt hb q))); ⟨z.1, z.2.1⟩
        have len8 : (wipe σ (own.map (·.2))).length = σ8.length := by rw [← wiped, wipe_length]
        refine ⟨m', lt, i + 1, Hz, (Iz.unpinned (pins := [])).weak len8 (fun j v q => by rw [← wiped] at q; exact (wipe_some q).1), turns.keep _ _ _ at7 fun b hb o q => (still b hb o q).1, fun b hb => ?_, w'⟩
        obtain ⟨o, q, _⟩ := turns.obj _ _ at7 b hb
        exact (still b hb o q).2
      cases b with
      | false =>
        rw [if_neg Bool.false_ne_true] at t9 ⊢
        exact again I10 t9
      | true =>
        rw [if_pos rfl] at t9 ⊢
        refine thnF ((re p).run _ s9 σ8 H9 _ I10 t9) fun z s10 ⟨yv, H10, I11, ry, acc, atL, small, nx⟩ => ?_
        exact app_ok (X := blkH X s3 Hb scope cv fp p) I11 atL small ry fun s11 I12 => again I12 nx
  exact codeAny_compStart_list loop (turns.self X.A 0 _ _ _ at4 loop)⟩
end
section
variable {X : Cx} {W : WX} {tg : Expr}
theorem qi_rangeH {m : M} {e : Expr} {p pos : Pos} (hg : Gl X "range") (hm : X.mg "range" = none) (he : QE X W m e) (hs : starEach [e] X.env = [(false, eval e X.env)] := by rfl) (hs2 : starEach [e] X.env = (false, eval e X.env) :: starEach [] X.env := by rfl) : L2H.PIH X tg (.Call (.Name "range" p) [e] [] pos) (tI X W (iRange1 m)) :=
  ⟨fun pins s τ H R I ⟨σ, h, μ, rs, rh, q⟩ => (L2H.pi_range1H hg hm (pa_cons he pa_nil hs2) hs).run pins s τ H R I (go rs rh q fun d h1 v H1 μ1 s1 rs1 rh1 rd q1 => by
    split at q1
    · split at q1
      · rename_i hb
        cases rd
        exact ⟨_, rfl, hb.1, hb.2, q1.now rh1 walk_rng⟩
      · exact q1.elim
    · exact q1.elim)⟩
theorem q_lcH {it : MI} {g : MG} {t : MB} {m : M} {is : List Nat} {elt iter : Expr} {ifs : List Expr} {scope : Scope} {own : List (Str × Nat)} {pos : Pos} (hot : L2H.HotC X) (hN : X.N.Nodup) (hi : L2H.PIH X tg iter (tI X W it)) (ok : BlkOk X.N X.env.scope scope own)
    (hg : ∀ (s : Shared) (H : Hp) (C : Addr) (cl : List (Str × Addr)) (fp : List Addr) (p : Addr × Obj), QG (blkH X s H scope (compEnvC scope cl C X.env) fp p) g is tg) (ht : ∀ (s : Shared) (H : Hp) (C : Addr) (cl : List (Str × Addr)) (fp : List Addr) (p : Addr × Obj), QTs (blkH X s H scope (compEnvC scope cl C X.env) fp p) WNever t ifs)
    (he : ∀ (s : Shared) (H : Hp) (C : Addr) (cl : List (Str × Addr)) (fp : List Addr) (p : Addr × Obj), QE (blkH X s H scope (compEnvC scope cl C X.env) fp p) WNever m elt) (his : ∀ j, j ∈ is → j ∈ own.map (·.2) := by decide) (hs : ∀ x, foldedSetIterable iter X.env x = pure x := by intro _; rfl) :
    QE X W (eLc it g t m (own.map (·.2))) (.ListComp elt [⟨tg, iter, ifs, 0⟩] scope pos) :=
  QE.of (pe_lcH hot hN hi ok (g := tGt X g is) (tt := tT X WNever t) (te := tE X WNever m) hg ht he hs) (lc_go his)
theorem HeldH.hotC {a d : Addr} {c : Str} (h : HeldH X a d c) : L2H.HotC X := let ⟨oe, m, h⟩ := h.ex; ⟨(a, oe), h.hot, m⟩
end
end Q

/-! Q20: short forms for printed texts with exceptions; the facts of the classes, computed. -/
namespace Q
open PySem PySem.Spec PyProof.Rows L2
/-! ### contexts -/
theorem takesM {P : Program} {w : World} {K : PySem.W.Frag} {mg : Str → Option Value} {base : Heap} {N : List Str} {qual : Str} {scope : Scope} {f : Addr} {cdv : Value} {A : Around} {outer : List Env} {s : Shared} {H : Hp} {E : XK} :
    L2N.Takes (cxOf (L2N.CX P w) P w K mg base N qual scope f cdv A outer s H E) (WFn E) := L2N.takes_of rfl rfl rfl rfl
theorem takesN {X : Cx} : L2N.Takes X WNever := fun _ _ ⟨_, _, _, _, _, _, _, _, _, _, _, _, _, _, _, _, z⟩ => z.elim
theorem Def.calX {P : Program} {w : World} {K : PySem.W.Frag} {mg : Str → Option Value} {base : Heap} {X : Cx} {W : WX} {k : Nat} {x : Str} {dfl : List D} {f : List D → AH → Res D} {A : Around} (d : Def P w K mg base (L2N.CX P w) k x dfl f) (hr : Room k A) (tk : L2N.Takes X W)
    (e1 : X.prog = P) (e2 : X.w = w) (e3 : X.K = K) (e4 : X.mg = mg) (e5 : X.base = base) (e6 : X.A = A) : Cal X W x dfl f := by
  subst e1 e2 e3 e4 e5 e6
  exact d.cal hr (L2N.passAt tk)
theorem cxH_held {P : Program} {w : World} {K : PySem.W.Frag} {mg : Str → Option Value} {base : Heap} {N : List Str} {qual : Str} {scope : Scope} {f : Addr} {cdv : Value} {A : Around} {outer : List Env} {s : Shared} {H : Hp} {E : XK} {a d : Addr} {c : Str} {oe : Obj} (hot : Hot mg A a d c oe) :
    HeldH (L2H.cxH CX0 P w K mg base N qual scope f cdv A outer s H E (a, oe)) a d c := ⟨oe, List.mem_cons_self, ⟨hot.hot.1, hot.hot.2⟩, hot.ex⟩
/-! ### classes -/
/-- the class that a clause names -/
def ClM (K : PySem.W.Frag) (mg : Str → Option Value) (x : Str) (c : Ct) : Prop := ∃ v, (mg x = some v ∨ (mg x = none ∧ bootBuiltins x = some v ∧ x ≠ "__name__")) ∧ ∀ (n : Str) (C : Addr) (b : Bool), c n = some b → mg n = some (.ref C) → PySem.W.exmOne K (.ref C) v = some b
theorem ClM.clause {X : Cx} {x : Str} {c : Ct} (h : ClM X.K X.mg x c) (hg : Gl X x := by rfl) (hd : (x == ("__debug__" : Str)) = false := by decide) : Clause X x c := let ⟨v, h1, h2⟩ := h; ⟨v, ⟨hg, hd, h1⟩, h2⟩
def IsM (K : PySem.W.Frag) (mg : Str → Option Value) (T : Str) (ct : Ct) : Prop := ∃ (cv : V) (u : Value), ClsV cv u ∧ ((∃ v, mg T = some v ∧ RelV cv v) ∨ (mg T = none ∧ ∃ v, bootBuiltins T = some v ∧ RelV cv v ∧ T ≠ "__name__")) ∧ ∀ (n : Str) (C : Addr) (b : Bool), ct n = some b → mg n = some (.ref C) → PySem.W.kitOne K (.ref C) u = some b
theorem IsM.isC {X : Cx} {T : Str} {ct : Ct} (h : IsM X.K X.mg T ct) : IsC X T ct := h
/-- the class object at C: of the form of an exception class that is ValueError in the end -/
def oexB (K : PySem.W.Frag) (C : Addr) : Bool := match K.lookup C with
  | some ⟨.type "type", _, .cls z, sl⟩ => (match z.mro, sl.toList with
    | .ref D :: bm, [_, _, _, _, some (.builtin n), _] => D == C && (n == "ValueError.__new__" && (!z.hasDel && (z.hasDict && PySem.HandSPX.refsVE bm)))
    | _, _ => false)
  | _ => false
theorem oexB_ok {K : PySem.W.Frag} {C : Addr} (h : oexB K C = true) : ∃ nm q N bs bm sn sub ab col dd k0 k1 k2 k3 k5, K.lookup C = some (excClassObj nm q C N bs bm true sn sub ab col dd k0 k1 k2 k3 k5 "ValueError.__new__") ∧ PySem.HandSPX.refsVE bm = true := by
  unfold oexB at h
  split at h
  · rename_i dd z sl look
    split at h
    · rename_i D bm k0 k1 k2 k3 n k5 hm hs
      simp only [Bool.and_eq_true, beq_iff_eq, Bool.not_eq_true'] at h
      obtain ⟨rfl, rfl, nd, yd, ve⟩ := h
      obtain ⟨nm, bs, mro, ns, qn, hd, sn, sub, ab, col, del⟩ := z
      dsimp only at hm nd yd
      subst hm nd yd
      have es : sl = #[k0, k1, k2, k3, some (.builtin "ValueError.__new__"), k5] := by
        obtain ⟨l⟩ := sl
        simp only at hs
        rw [hs]
      subst es
      exact ⟨nm, qn, ns, bs, bm, sn, sub, ab, col, dd, k0, k1, k2, k3, k5, look, ve⟩
    · cases h
  · cases h
/-- all that is asked of the class n, with the fields ns -/
def xcB (K : PySem.W.Frag) (n : Str) (ns : List Str) : Bool := oexB K (He.ga K n) && (decide (PySem.W.findIn K (.ref (He.ga K n)) "__setattr__" = some (some (.builtin "object.__setattr__"))) && (decide (PySem.W.typeIn K (.ref (He.ga K n)) = some (.type "type")) && (PySem.W.keepIn K (.ref (He.ga K n)) && (xfB K (He.ga K n) && (xisB K (He.ga K n) &&
  (decide (PySem.W.findIn K (.ref (He.ga K n)) "__init__" = some (some (.ref (He.ma K (He.ga K n) "__init__")))) && (decide (PySem.W.typeIn K (.ref (He.ma K (He.ga K n) "__init__")) = some (.type "function")) && ns.all fun f => decide (PySem.W.findIn K (.ref (He.ga K n)) f = some none))))))))
structure XcOk (K : PySem.W.Frag) (n : Str) (ns : List Str) : Prop where
  oex : OexC K (He.ga K n)
  xf : XfC K (He.ga K n)
  xi : XIs K (He.ga K n)
  ini : PySem.W.findIn K (.ref (He.ga K n)) "__init__" = some (some (.ref (He.ma K (He.ga K n) "__init__")))
  fn : PySem.W.typeIn K (.ref (He.ma K (He.ga K n) "__init__")) = some (.type "function")
  no : ∀ f ∈ ns, PySem.W.findIn K (.ref (He.ga K n)) f = some none
theorem xcB_ok {K : PySem.W.Frag} {n : Str} {ns : List Str} (h : xcB K n ns = true) : XcOk K n ns := by
  unfold xcB at h
  simp only [Bool.and_eq_true, decide_eq_true_eq, List.all_eq_true] at h
  obtain ⟨h1, h2, h3, h4, h5, h6, h7, h8, h9⟩ := h
  have xf := xfB_ok h5
  exact ⟨⟨oexB_ok h1, h2, xf.exC, h3, h4⟩, xf, xisB_ok h6, h7, h8, h9⟩
section
variable {P : Program} {w : World} {K : PySem.W.Frag} {mg : Str → Option Value} {base : Heap} {n : Str} {ns ps : List Str} {fd : FuncData}
theorem XCls.of (x : XcOk K n ns) (g : mg n = some (.ref (He.ga K n))) (F : FnOk P w K mg base CX0 1 (He.ma K (He.ga K n) "__init__") fd ps (spIni K ns)) (b : Binds K fd ps []) : XCls P w K mg base n ns := ⟨_, _, fd, ps, x.oex, x.xf, x.ini, x.fn, F, b, g, x.no⟩
/-- a def that lets nothing out, in no context of exceptions -/
theorem fnOk0 {k : Nat} {f : Addr} {sp : Sp} (F : FnOk P w K mg base (L2N.CX P w) k f fd ps sp) : FnOk P w K mg base CX0 k f fd ps (fun vs H Q _ => sp vs H Q fun _ _ _ => False) :=
  ⟨fun vs H Q E h => F.len vs H Q _ h, fun A outer s H args us vs Q E hr e0 hb rv h => codeAny_mono (F.run A outer s H args us vs Q (fun _ _ _ => False) hr e0 hb rv h) fun r s' q => by
    cases r with
    | error e => exact (let ⟨_, _, _, _, _, _, _, _, _, _, _, _, z⟩ := q; z.elim)
    | ok fl =>
      cases fl with
      | ret u => exact q
      | next => exact q.elim
      | brk => exact q.elim
      | cont => exact q.elim⟩
theorem DefH.mk {k : Nat} {x qual : Str} {params : Arguments} {body : List Stmt} {scope : Scope} {fa : Addr} {f : Addr → Addr → Str → List D → AH → Res D} (F : FunD K x qual params body scope [] [] fa fd) (ok : FnE P w K mg base k fa fd ps (spH P w K mg f)) (g : mg x = some (.ref fa))
    (h : ∀ (kV doc pm : Value) (an : Option Addr) (cdv ct : Value) (us : List Value), us.length = ps.length → bindArgs (PySem.W.fnOf x qual params body scope .none kV doc pm an cdv ct) ⟨us, []⟩ = pure (ps.zip us)) : DefH P w K mg base k x f := ⟨fa, fd, ps, ok, g, F.kp, F.bindsN h⟩
end
theorem hu64H {k : Nat} {A : Around} (r : L2H.RoomH k A) : A.units + 64 < cLine := by have := r.un; omega
end Q

/-! Q21: exceptions, evaluated. -/
namespace Q
open PySem PySem.Spec PyProof.Rows L2
section
variable {σ σ1 : AS} {h h1 : AH} {m : M} {r : ML} {c n f : Str} {ns : List Str} {xs : List D} {ct : Ct} {i : Nat} {body : MS} {suite : Addr → Addr → Str → MS} {a d : Addr} {fs : Str → List Str} {v : D} {b : Bool}
noncomputable def tryK (c : Ct) (i : Nat) (suite : Addr → Addr → Str → MS) : Out → Out
  | .ex e σ1 h1 => match c e.cls with
    | some true => agree fun a d => (suite a d e.cls (σ1.set i (some (.exn a d e.cls e.ns e.xs))) h1).gone i
    | some false => .ex e σ1 h1
    | none => .stuck
  | r => r
@[simp] theorem run_sTryAs : sTryAs ct i body suite σ h = tryK ct i suite (body σ h) := by
  unfold sTryAs tryK
  cases body σ h <;> rfl
@[simp] theorem tryK_nx : tryK ct i suite (.nx σ h) = .nx σ h := rfl
@[simp] theorem tryK_rt : tryK ct i suite (.rt v h) = .rt v h := rfl
@[simp] theorem tryK_bk : tryK ct i suite (.bk σ h) = .bk σ h := rfl
@[simp] theorem tryK_ct : tryK ct i suite (.ct σ h) = .ct σ h := rfl
theorem tryK_ex (hc : ct c = some true) : tryK ct i suite (.ex ⟨c, ns, xs⟩ σ h) = agree fun a d => (suite a d c (σ.set i (some (.exn a d c ns xs))) h).gone i := by
  show (match ct c with | some true => _ | some false => _ | none => _) = _
  rw [hc]
theorem tryK_no (hc : ct c = some false) : tryK ct i suite (.ex ⟨c, ns, xs⟩ σ h) = .ex ⟨c, ns, xs⟩ σ h := by
  show (match ct c with | some true => _ | some false => _ | none => _) = _
  rw [hc]
@[simp] theorem run_sRaise : sRaise c ns r σ h = (r σ h).andS σ fun xs h1 => if xs.length = ns.length ∧ ns.length ≤ 1000 then .ex ⟨c, ns.reverse, xs.reverse⟩ σ h1 else .stuck := rfl
@[simp] theorem run_eFnH {g : List D → AH → Res D} : eFnH g r σ h = (r σ h).bind fun ds h1 => (g ds h1).shut := rfl
def fldK (fs : Str → List Str) (a d : Addr) (c f : Str) (x : D) (h1 : AH) : Res D := match x with
  | .exn a' d' _ ns xs => if (a' = a ∧ d' = d) ∧ f ∈ fs c then (match (ns.zip xs).lookup f with
    | some v => .ok v h1
    | none => .stuck) else .stuck
  | _ => .stuck
@[simp] theorem run_eFld : eFld fs a d c f m σ h = (m σ h).bind fun x h1 => fldK fs a d c f x h1 := rfl
theorem fldK_exn (hf : f ∈ fs c) (hv : (ns.zip xs).lookup f = some v) : fldK fs a d c f (.exn a d n ns xs) h = .ok v h := by
  unfold fldK
  dsimp only
  rw [if_pos ⟨⟨rfl, rfl⟩, hf⟩, hv]
def isxK (fs : Str → List Str) (ct : Ct) (a d : Addr) (c : Str) (x : D) (h1 : AH) : Res D := match x with
  | .exn a' d' _ _ _ => if (a' = a ∧ d' = d) ∧ fs c ≠ [] then (match ct c with
    | some b => .ok (.bl b) h1
    | none => .stuck) else .stuck
  | _ => .stuck
@[simp] theorem run_eIsX : eIsX fs ct a d c m σ h = (m σ h).bind fun x h1 => isxK fs ct a d c x h1 := rfl
theorem isxK_exn (hf : fs c ≠ []) (hv : ct c = some b) : isxK fs ct a d c (.exn a d n ns xs) h = .ok (.bl b) h := by
  unfold isxK
  dsimp only
  rw [if_pos ⟨⟨rfl, rfl⟩, hf⟩, hv]
end
end Q

/-! Q22: instances: attributes, methods, classes called. -/
namespace Q
open PySem PySem.Spec PyProof.Rows L2
/-- the fields of the classes, by name: no class has them -/
def ATab (K : PySem.W.Frag) (AT : Str → List Str) : Prop := ∀ c f, f ∈ AT c → Cls K (He.ga K c) ∧ NoAttr K (He.ga K c) f
def insAt (h : AH) (d : D) : Option (Nat × Str × List (Str × D)) := match d with
  | .ref n => match h[n]? with
    | some (.ins c fs) => some (n, c, fs)
    | _ => none
  | _ => none
def putD (f : Str) (v : D) : List (Str × D) → List (Str × D)
  | [] => [(f, v)]
  | (g, x) :: r => if g = f then (g, v) :: r else (g, x) :: putD f v r
section
variable {P : Program} {w : World} {K : PySem.W.Frag} {H : Hp} {μ : Mu} {h : AH}
theorem fld_get {fs : List (Str × D)} {vs : List (Str × V)} (r : FldR K H μ fs vs) (f : Str) : (fs.lookup f = none ∧ vs.lookup f = none) ∨ ∃ d v, fs.lookup f = some d ∧ vs.lookup f = some v ∧ RD K H μ d v := by
  unfold FldR at r
  induction r with
  | nil => exact .inl ⟨rfl, rfl⟩
  | @cons p x ps ys rt t ih =>
    obtain ⟨p1, p2⟩ := p
    obtain ⟨x1, x2⟩ := x
    obtain ⟨r1, r2⟩ := rt
    dsimp only at r1 r2
    subst r1
    rw [List.lookup, List.lookup]
    cases hk : f == p1 with
    | true => exact .inr ⟨p2, x2, rfl, rfl, r2⟩
    | false => exact ih
theorem fld_put {fs : List (Str × D)} {vs : List (Str × V)} (r : FldR K H μ fs vs) (f : Str) {d : D} {v : V} (rd : RD K H μ d v) : FldR K H μ (putD f d fs) (putF f v vs) := by
  unfold FldR at r ⊢
  induction r with
  | nil => exact .cons ⟨rfl, rd⟩ .nil
  | @cons p x ps ys rt t ih =>
    obtain ⟨p1, p2⟩ := p
    obtain ⟨x1, x2⟩ := x
    obtain ⟨r1, r2⟩ := rt
    dsimp only at r1 r2
    subst r1
    rw [putD, putF]
    split
    · exact .cons ⟨rfl, rd⟩ t
    · exact .cons ⟨rfl, r2⟩ ih
theorem fld_len {fs : List (Str × D)} {vs : List (Str × V)} (r : FldR K H μ fs vs) : vs.length = fs.length := (Paired.length r).symm
theorem insAt_ok {d : D} {v : V} {n : Nat} {c : Str} {fs : List (Str × D)} (rh : RelH P w K H μ h) (r : RD K H μ d v) (e : insAt h d = some (n, c, fs)) :
    ∃ a dx vs, d = .ref n ∧ μ.l[n]? = some a ∧ v = .ref a ∧ H a = some (.ins (He.ga K c) dx vs) ∧ H dx = some (.own a) ∧ dx ∉ μ ∧ FldR K H μ fs vs := by
  unfold insAt at e
  split at e
  · split at e
    · cases e
      rename_i eh
      cases r with
      | ref hm =>
        cases rh.obj _ _ _ eh hm with
        | ins ha hd hn hf => exact ⟨_, _, _, rfl, hm, rfl, ha, hd, hn, hf⟩
    · cases e
  · cases e
end
section
variable {X : Cx} {W : WX} {AT : Str → List Str} {pos pos' apos : Pos}
/-- o.f -/
def atV (AT : Str → List Str) (f : Str) (x : D) (h : AH) : Res D := match insAt h x with
  | some (_, c, fs) => if f ∈ AT c then (match fs.lookup f with
    | some v => .ok v h
    | none => .stuck) else .stuck
  | none => .stuck
def eAt (AT : Str → List Str) (f : Str) (m : M) : M := fun σ h => (m σ h).bind fun x h1 => atV AT f x h1
theorem q_at {f : Str} {m : M} {e : Expr} (at_ : ATab X.K AT) (hm : QE X W m e) (hb : attributeBase e f X.env (eval e X.env) = eval e X.env := by rfl) : QE X W (eAt AT f m) (.Attribute e f pos) :=
  QE.of (L2.pe_fld hm hb) fun τ H Q ⟨σ, h, μ, rs, rh, q⟩ => go rs rh q fun x h1 v H1 μ1 s1 rs1 rh1 rx q1 => by
    unfold atV at q1
    split at q1
    · rename_i n c fs ei
      split at q1
      · rename_i hf
        obtain ⟨a, dx, vs, rfl, hm, rfl, ha, hd, hn, hr⟩ := insAt_ok rh1 rx ei
        obtain ⟨h1, h2⟩ := at_ _ _ hf
        rcases fld_get hr f with ⟨e1, e2⟩ | ⟨y, u, e1, e2, ru⟩
        · rw [e1] at q1; exact q1.elim
        · rw [e1] at q1
          exact ⟨a, _, dx, vs, u, rfl, ha, h1, h2, e2, q1.now rh1 ru⟩
      · exact q1.elim
    · exact q1.elim
/-- o.f = e -/
def putV (AT : Str → List Str) (f : Str) (y x : D) (σ : AS) (h : AH) : Out := match insAt h x with
  | some (n, c, fs) => if f ∈ AT c ∧ fs.length < 1000 then .nx σ (h.set n (.ins c (putD f y fs))) else .stuck
  | none => .stuck
def sAtt (AT : Str → List Str) (f : Str) (a m : M) : MS := fun σ h => (m σ h).andS σ fun y h1 => (a σ h1).andS σ fun x h2 => putV AT f y x σ h2
theorem qs_att {f : Str} {a m : M} {o e : Expr} (at_ : ATab X.K AT) (ha : QE X W a o) (hm : QE X W m e) (hs : swapsWith e (some (.Attribute o f pos')) pos.line X.env = pure false := by rfl) : QS X W (sAtt AT f a m) (.Assign [.Attribute o f pos'] e pos) :=
  PS.of (ps_fld ha hm hs) fun D τ H ⟨σ, h, μ, rs, rh, q⟩ => goS rs rh q fun y h1 v H1 μ1 s1 rs1 rh1 ry q1 => goS rs1 rh1 q1 fun x h2 u H2 μ2 s2 rs2 rh2 rx q2 => by
    unfold putV at q2
    split at q2
    · rename_i n c fs ei
      split at q2
      · rename_i hf
        obtain ⟨b, dx, vs, rfl, hm, rfl, hb, hd, hn, hr⟩ := insAt_ok rh2 rx ei
        obtain ⟨k1, k2⟩ := at_ _ _ hf.1
        refine ⟨b, _, dx, vs, rfl, hb, k1, k2, by rw [fld_len hr]; exact hf.2, ?_⟩
        have st := Stp.wrote (u := .ins (He.ga X.K c) dx (putF f v vs)) rh2 hm
        have hne : dx ≠ b := fun z => hn (z ▸ mem_at hm)
        exact q2 _ _ μ2 st (rs2.stp st) (rh2.wrote hm (.ins upd_same (by rw [upd_ne hne]; exact hd) hn ((fld_put hr f (ry.stp s2)).stp0 st.toStp0)))
      · exact q2.elim
    · exact q2.elim
/-! ### methods -/
def CalM (X : Cx) (W : WX) (c m : Str) (dfl : List D) (f : List D → AH → Res D) : Prop :=
  ∃ (k : Nat) (fa : Addr) (fd : FuncData) (ps : List Str) (dvs : List V) (us : List Value) (CX : CXT), FnOk X.prog X.w X.K X.mg X.base CX k fa fd ps (spOf X.prog X.w X.K X.mg f) ∧ Room k X.A ∧ Cls X.K (He.ga X.K c) ∧ Meth X.K (He.ga X.K c) m fa ∧ Binds X.K fd ps us ∧ Vals dvs us ∧
    (∀ H μ, RDs X.K H μ dfl dvs) ∧ ∀ σ, PassesAt CX X σ (WE W σ)
def eMe (c m : Str) (f : List D → AH → Res D) (dfl : List D) (a : M) (r : ML) : M := fun σ h => (a σ h).bind fun x h1 => match insAt h1 x with
  | some (_, c', fs) => if c' = c ∧ fs.lookup m = none then (r σ h1).bind fun ds h2 => f (x :: (ds ++ dfl)) h2 else .stuck
  | none => .stuck
theorem run_fnAt {k : Nat} {fa : Addr} {fd : FuncData} {ps : List Str} {dvs : List V} {us ds : List Value} {CX : CXT} {sp : Sp} {pins : List (Addr × Obj)} {σ : L2.St} {H : Hp} {s : Shared} {Q : VK} {vs : List V} {E : XK} (F : FnOk X.prog X.w X.K X.mg X.base CX k fa fd ps sp) (hr : Room k X.A) (hb : Binds X.K fd ps ds) (hd : Vals dvs ds) (hx : PassesAt CX X σ E)
    (I : Inv X pins σ H s) (r : Vals vs us) (h : sp (vs ++ dvs) H Q E) : wpAny (model X.prog X.w) X.A (call (.ref fa) us) (EP X pins σ Q) X.xe s := by
  have r2 : Vals (vs ++ dvs) (us ++ ds) := r.append hd
  have hl : (us ++ ds).length = ps.length := by rw [← r2.length]; exact F.len _ _ _ _ h
  refine wpAny_call (codeAny_mono (F.run X.A X.stack s H ⟨us, []⟩ (us ++ ds) (vs ++ dvs) Q E hr I.env0 (hb s us I.kIn hl) r2 h) fun r s' hq => ?_)
  cases r with
  | error e => exact hx pins H s e s' I hq
  | ok fl =>
    cases fl with
    | ret u => exact I.after hq
    | next => exact False.elim hq
    | brk => exact False.elim hq
    | cont => exact False.elim hq
theorem sp_of {f : List D → AH → Res D} {τ : L2.St} {H : Hp} {μ : Mu} {h : AH} {ds : List D} {vs : List V} {Q : VK} (rh : RelH X.prog X.w X.K H μ h) (rds : RDs X.K H μ ds vs) (q : Post X W τ H μ (RD X.K) Q (f ds h)) : spOf X.prog X.w X.K X.mg f vs H Q (WE W τ) := by
  refine ⟨ds, μ, h, rh, rds, ?_⟩
  cases e : f ds h with
  | stuck => rw [e] at q; exact q
  | ok d h' => rw [e] at q; exact q
  | ex x h' => rw [e] at q; exact q
theorem q_me {c m : Str} {f : List D → AH → Res D} {dfl : List D} {a : M} {r : ML} {o e : Expr} {es : List Expr} {pl : Sem Bool} (cm : CalM X W c m dfl f) (ho : QE X W a o) (ha : QA X W r (e :: es))
    (hst : starEach (e :: es) X.env = (false, eval e X.env) :: starEach es X.env := by rfl) (hpl : (backTo pos (starEach es X.env)).any (·.1) = false := by rfl)
    (ht : eval (.Call (.Attribute o m apos) (e :: es) [] pos) X.env = (do
      let ov ← eval o X.env
      standAt apos.atName
      let (f, first) ← holding [ov] (getMethod ov m pl)
      callWith pos f first (backTo pos (starEach (e :: es) X.env)) (backToKw pos (keywordEach [] X.env))) := by rfl) : QE X W (eMe c m f dfl a r) (.Call (.Attribute o m apos) (e :: es) [] pos) := by
  obtain ⟨k, fa, fd, ps, dvs, us, CX, F, hr, hc, hm, hb, hd, hrd, hx⟩ := cm
  refine ⟨fun pins s τ H Q I ⟨σ, h, μ, rs, rh, q⟩ => ?_⟩
  refine PySem.W.methodCall_KW (pl := pl) (thn (ho.run pins s τ H (fun v H1 => ∃ b dx vs, v = .ref b ∧ H1 b = some (.ins (He.ga X.K c) dx vs) ∧ vs.lookup m = none ∧ tL X W r τ H1 fun ws H2 => spOf X.prog X.w X.K X.mg f (v :: (ws ++ dvs)) H2 Q (WE W τ)) I
    (go rs rh q fun x h1 v H1 μ1 s1 rs1 rh1 rx q1 => by
      split at q1
      · rename_i n c' fs ei
        split at q1
        · rename_i hcm
          obtain ⟨rfl, hl⟩ := hcm
          obtain ⟨b, dx, vs, rfl, hn, rfl, hb2, hd2, hn2, hr2⟩ := insAt_ok rh1 rx ei
          refine ⟨b, dx, vs, rfl, hb2, ?_, go rs1 rh1 q1 fun ds h2 ws H2 μ2 s2 rs2 rh2 rds q2 => sp_of rh2 (.cons (rx.stp s2) (rds.append (hrd _ _))) q2⟩
          rcases fld_get hr2 m with ⟨_, e2⟩ | ⟨_, _, e1, _⟩
          · exact e2
          · rw [hl] at e1; cases e1
        · exact q1.elim
      · exact q1.elim)) fun u s1 ⟨v, H1, I1, rx, b, dx, vs, ev, hb1, hl1, q1⟩ => ?_) ht
  subst ev
  obtain rfl : u = Value.ref b := rx
  refine getmeth_ok I1 hb1 hc hm hl1 ?_
  refine PySem.W.callWith_K (first := [.ref b]) (h₀ := X.base) I.ok.mod.kin hm.kp (thn (ha.run pos pins s1 τ H1 _ I1 q1) fun us' s2 ⟨ws, H2, I2, r2, q2⟩ => ⟨I2.kIn, ?_⟩) hst hpl
  exact run_fnAt (us := .ref b :: us') (vs := .ref b :: ws) F hr hb hd (hx τ) I2 (.cons rfl r2) q2
theorem q_me0 {c m : Str} {f : List D → AH → Res D} {dfl : List D} {a : M} {o : Expr} {pl : Sem Bool} (cm : CalM X W c m dfl f) (ho : QE X W a o)
    (ht : eval (.Call (.Attribute o m apos) [] [] pos) X.env = (do
      let ov ← eval o X.env
      standAt apos.atName
      let (f, first) ← holding [ov] (getMethod ov m pl)
      callWith pos f first (backTo pos (starEach [] X.env)) (backToKw pos (keywordEach [] X.env))) := by rfl) : QE X W (eMe c m f dfl a aNil) (.Call (.Attribute o m apos) [] [] pos) := by
  obtain ⟨k, fa, fd, ps, dvs, us, CX, F, hr, hc, hm, hb, hd, hrd, hx⟩ := cm
  refine ⟨fun pins s τ H Q I ⟨σ, h, μ, rs, rh, q⟩ => ?_⟩
  refine PySem.W.methodCall_KW (pl := pl) (thn (ho.run pins s τ H (fun v H1 => ∃ b dx vs, v = .ref b ∧ H1 b = some (.ins (He.ga X.K c) dx vs) ∧ vs.lookup m = none ∧ spOf X.prog X.w X.K X.mg f (v :: dvs) H1 Q (WE W τ)) I
    (go rs rh q fun x h1 v H1 μ1 s1 rs1 rh1 rx q1 => by
      split at q1
      · rename_i n c' fs ei
        split at q1
        · rename_i hcm
          obtain ⟨rfl, hl⟩ := hcm
          obtain ⟨b, dx, vs, rfl, hn, rfl, hb2, hd2, hn2, hr2⟩ := insAt_ok rh1 rx ei
          refine ⟨b, dx, vs, rfl, hb2, ?_, sp_of rh1 (.cons rx (hrd _ _)) q1⟩
          rcases fld_get hr2 m with ⟨_, e2⟩ | ⟨_, _, e1, _⟩
          · exact e2
          · rw [hl] at e1; cases e1
        · exact q1.elim
      · exact q1.elim)) fun u s1 ⟨v, H1, I1, rx, b, dx, vs, ev, hb1, hl1, q1⟩ => ?_) ht
  subst ev
  obtain rfl : u = Value.ref b := rx
  refine getmeth_ok I1 hb1 hc hm hl1 ?_
  exact PySem.W.callWith_K0 (first := [.ref b]) I1.kIn hm.kp (run_fnAt (us := [.ref b]) (vs := [.ref b]) F hr hb hd (hx τ) I1 (.cons rfl .nil) q1)
/-! ### a class called -/
def CalC (X : Cx) (W : WX) (c : Str) (dfl : List D) (f : List D → AH → Res D) : Prop :=
  ∃ (k : Nat) (fa : Addr) (fd : FuncData) (ps : List Str) (dvs : List V) (us : List Value) (CX : CXT), FnOk X.prog X.w X.K X.mg X.base CX k fa fd ps (spOf X.prog X.w X.K X.mg f) ∧ Room (k + 1) X.A ∧ Mk X.K (He.ga X.K c) fa ∧ X.mg c = some (.ref (He.ga X.K c)) ∧ Binds X.K fd ps us ∧ Vals dvs us ∧
    (∀ H μ, RDs X.K H μ dfl dvs) ∧ ∀ σ, PassesAt CX X σ (WE W σ)
def mkV (n : Nat) : Res D → Res D
  | .ok .non h => .ok (.ref n) h
  | .ex e h => .ex e h
  | _ => .stuck
def eMk (c : Str) (f : List D → AH → Res D) (dfl : List D) (r : ML) : M := fun σ h => (r σ h).bind fun ds h1 => mkV h1.length (f (.ref h1.length :: (ds ++ dfl)) (h1 ++ [.ins c []]))
theorem run_makeAt {C : Addr} {k : Nat} {f : Addr} {fd : FuncData} {ps : List Str} {dvs : List V} {ds : List Value} {CX : CXT} {sp : Sp} {E : XK} {pins : List (Addr × Obj)} {σ : L2.St} {H : Hp} {s : Shared} {Q : VK} {us : List Value} {vs : List V} (M : Mk X.K C f) (F : FnOk X.prog X.w X.K X.mg X.base CX k f fd ps sp) (hr : Room (k + 1) X.A) (hb : Binds X.K fd ps ds) (hd : Vals dvs ds)
    (hx : PassesAt CX X σ E) (I : Inv X pins σ H s) (r : Vals vs us)
    (h : ∀ x dx, H x = none → H dx = none → dx ≠ x → sp (.ref x :: (vs ++ dvs)) (upd (upd H dx (.own x)) x (.ins C dx [])) (fun v H2 => v = .non ∧ Q (.ref x) H2) E) :
    wpAny (model X.prog X.w) X.A (call (.ref C) us) (EP X pins σ Q) X.xe s := by
  have hq := h (s.heap.objs.size + 1) s.heap.objs.size (I.hok.fresh (Nat.le_succ _)) (I.hok.fresh (Nat.le_refl _)) (Nat.ne_of_lt (Nat.lt_succ_self _))
  have I2 := Inv.made (C := C) I
  have r2 : Vals (V.ref (s.heap.objs.size + 1) :: (vs ++ dvs)) (Value.ref (s.heap.objs.size + 1) :: (us ++ ds)) := .cons rfl (r.append hd)
  have hl : (Value.ref (s.heap.objs.size + 1) :: us ++ ds).length = ps.length := by
    have e := r2.length
    rw [F.len _ _ _ _ hq] at e
    exact e.symm
  refine wpAny_call (make_map (f := f) I.kIn M.makes M.init (beq_iff_eq.mp M.fn) (codeAny_mono (F.run _ X.stack _ _ ⟨Value.ref (s.heap.objs.size + 1) :: us, []⟩ (Value.ref (s.heap.objs.size + 1) :: (us ++ ds)) _ _ E (hr.make C us [])
    (I2.env0.make C us []) (hb _ (Value.ref (s.heap.objs.size + 1) :: us) I2.kIn hl) r2 hq) fun r s' hq' => ?_))
  cases r with
  | error e => exact hx pins _ _ e s' I2 hq'
  | ok fl =>
    cases fl with
    | ret u =>
      obtain ⟨v, H', I3, rv, ev, q3⟩ := I2.after hq'
      subst ev
      exact ⟨rv, ⟨V.ref (s.heap.objs.size + 1), H', I3, rfl, q3⟩⟩
    | next => exact False.elim hq'
    | brk => exact False.elim hq'
    | cont => exact False.elim hq'
theorem q_mk {c : Str} {f : List D → AH → Res D} {dfl : List D} {r : ML} {e : Expr} {es : List Expr} {p : Pos} (cc : CalC X W c dfl f) (hg : Gl X c) (ha : QA X W r (e :: es)) (hdb : (c == ("__debug__" : Str)) = false := by decide)
    (he : starEach (e :: es) X.env = (false, eval e X.env) :: starEach es X.env := by rfl) (hpl : (backTo pos (starEach es X.env)).any (·.1) = false := by rfl) : QE X W (eMk c f dfl r) (.Call (.Name c p) (e :: es) [] pos) := by
  obtain ⟨k, fa, fd, ps, dvs, us, CX, F, hr, hM, hmg, hb, hd, hrd, hx⟩ := cc
  refine ⟨fun pins s τ H Q I ⟨σ, h, μ, rs, rh, q⟩ => ?_⟩
  refine wpAny_Call_Name_kw (ld_glob I hg hmg ?_ hdb)
  refine PySem.W.callWith_K (h₀ := X.base) I.ok.mod.kin hM.kp (thn (ha.run pos pins s τ H (fun vs H1 => ∀ x dx, H1 x = none → H1 dx = none → dx ≠ x →
      spOf X.prog X.w X.K X.mg f (.ref x :: (vs ++ dvs)) (upd (upd H1 dx (.own x)) x (.ins (He.ga X.K c) dx [])) (fun v H2 => v = .non ∧ Q (.ref x) H2) (WE W τ)) I
    (go rs rh q fun ds h1 vs H1 μ1 s1 rs1 rh1 rds q1 x dx hx1 hd1 hne => by
      have st1 : Stp μ1 μ1 H1 (upd H1 dx (.own x)) := Stp.laid hd1
      have rh2 := rh1.laid (u := .own x) hd1
      have hx2 : upd H1 dx (.own x) x = none := by rw [upd_ne (Ne.symm hne)]; exact hx1
      have st2 : Stp μ1 (μ1.push x) (upd H1 dx (.own x)) (upd (upd H1 dx (.own x)) x (.ins (He.ga X.K c) dx [])) := Stp.more hx2
      have hdx : dx ∉ μ1.push x := fun m => by
        rcases mem_push.mp m with m | m
        · exact rh1.fresh hd1 m
        · exact hne m
      have rh3 := rh2.more (u := .ins (He.ga X.K c) dx []) hx2 (o := .ins c []) (.ins upd_same (by rw [upd_ne hne, upd_same]) hdx .nil)
      have st := st1.trans st2
      refine ⟨.ref h1.length :: (ds ++ dfl), μ1.push x, h1 ++ [.ins c []], rh3, .cons ?_ ((rds.stp st).append (hrd _ _)), ?_⟩
      · rw [← rh1.len]; exact RD.last
      · cases e : f (.ref h1.length :: (ds ++ dfl)) (h1 ++ [.ins c []]) with
        | stuck => rw [e] at q1; exact q1
        | ex ee h' =>
          rw [e] at q1
          exact fun cls dd H' μ' s' rh' rx => q1 cls dd H' μ' (st.trans s') rh' rx
        | ok d h' =>
          rw [e] at q1
          cases d with
          | non =>
            intro v H' μ' s' rh' rv
            cases rv
            refine ⟨rfl, q1 _ H' μ' (st.trans s') rh' (.ref (s'.pre _ _ ?_))⟩
            show (μ1.l ++ [x])[h1.length]? = some x
            rw [← rh1.len]; simp
          | _ => exact q1.elim)) fun us' s1 ⟨vs, H1, I1, r1, q1⟩ => ⟨I1.kIn, ?_⟩) he hpl
  exact run_makeAt hM F hr hb hd (hx τ) I1 r1 q1
end
/-! ### methods and classes as they stand -/
section
variable {P : Program} {w : World} {K : PySem.W.Frag} {mg : Str → Option Value} {base : Heap}
def DefMe (P : Program) (w : World) (K : PySem.W.Frag) (mg : Str → Option Value) (base : Heap) (CX : CXT) (k : Nat) (c m : Str) (f : List D → AH → Res D) : Prop :=
  ∃ (fa : Addr) (fd : FuncData) (ps : List Str), FnOk P w K mg base CX k fa fd ps (spOf P w K mg f) ∧ Cls K (He.ga K c) ∧ Meth K (He.ga K c) m fa ∧ Binds K fd ps []
theorem DefMe.calX {X : Cx} {W : WX} {k : Nat} {c m : Str} {f : List D → AH → Res D} {A : Around} (d : DefMe P w K mg base (L2N.CX P w) k c m f) (hr : Room k A) (tk : L2N.Takes X W)
    (e1 : X.prog = P) (e2 : X.w = w) (e3 : X.K = K) (e4 : X.mg = mg) (e5 : X.base = base) (e6 : X.A = A) : CalM X W c m [] f := by
  subst e1 e2 e3 e4 e5 e6
  obtain ⟨fa, fd, ps, F, h1, h2, h3⟩ := d
  exact ⟨k, fa, fd, ps, [], [], _, F, hr, h1, h2, h3, .nil, fun _ _ => .nil, L2N.passAt tk⟩
def DefC (P : Program) (w : World) (K : PySem.W.Frag) (mg : Str → Option Value) (base : Heap) (CX : CXT) (k : Nat) (c : Str) (f : List D → AH → Res D) : Prop :=
  ∃ (fa : Addr) (fd : FuncData) (ps : List Str), FnOk P w K mg base CX k fa fd ps (spOf P w K mg f) ∧ Mk K (He.ga K c) fa ∧ mg c = some (.ref (He.ga K c)) ∧ Binds K fd ps []
theorem DefC.calX {X : Cx} {W : WX} {k : Nat} {c : Str} {f : List D → AH → Res D} {A : Around} (d : DefC P w K mg base (L2N.CX P w) k c f) (hr : Room (k + 1) A) (tk : L2N.Takes X W)
    (e1 : X.prog = P) (e2 : X.w = w) (e3 : X.K = K) (e4 : X.mg = mg) (e5 : X.base = base) (e6 : X.A = A) : CalC X W c [] f := by
  subst e1 e2 e3 e4 e5 e6
  obtain ⟨fa, fd, ps, F, h1, h2, h3⟩ := d
  exact ⟨k, fa, fd, ps, [], [], _, F, hr, h1, h2, h3, .nil, fun _ _ => .nil, L2N.passAt tk⟩
end
end Q

/-! Q23: dicts made by a display or a comprehension; bits; o[i] += e. -/
namespace Q
open PySem PySem.Spec PyProof.Rows L2
section
variable {P : Program} {w : World} {K : PySem.W.Frag} {H H1 H' : Hp} {μ μ1 μ' : Mu} {h h' : AH} {A : Addr} {o : O} {u : HO} {f : List Addr}
/-- what was hidden is the last changing object -/
theorem Stp.reveal (s : Stp μ1 ⟨μ.l, μ1.f⟩ H1 H) (hA : H1 A = none) : Stp μ1 ⟨μ.l ++ [A], μ1.f⟩ H1 (upd H A u) where
  pre := fun n a e => by
    have z := s.pre n a e
    have hn := (List.getElem?_eq_some_iff.mp z).1
    show (μ.l ++ [A])[n]? = some a
    rw [List.getElem?_append_left hn]; exact z
  new := fun a m n => by
    rcases m with m | m
    · rcases List.mem_append.mp m with m | m
      · exact s.new a (.inl m) n
      · rw [List.mem_singleton.mp m]; exact hA
    · exact s.new a (.inr m) n
  keep := fun a o e n => by rw [upd_ne (ne_of_none e hA)]; exact s.keep a o e n
  fz := rfl
  hid := fun a o m e => by rw [upd_ne (ne_of_none e hA)]; exact s.hid a o m e
theorem Stp0.reveal (hf : μ.f = A :: f) : Stp0 μ ⟨μ.l ++ [A], f⟩ H (upd H A u) where
  pre := fun n a z => by
    have hn := (List.getElem?_eq_some_iff.mp z).1
    show (μ.l ++ [A])[n]? = some a
    rw [List.getElem?_append_left hn]; exact z
  new := fun a m n => by
    rcases m with m | m
    · rcases List.mem_append.mp m with m | m
      · exact absurd (.inl m) n
      · rw [List.mem_singleton.mp m] at n
        exact absurd (.inr (by rw [hf]; exact List.mem_cons_self)) n
    · exact absurd (.inr (by rw [hf]; exact List.mem_cons_of_mem _ m)) n
  keep := fun a o e n => by
    have hne : a ≠ A := fun z => n (by rw [z]; exact .inr (by rw [hf]; exact List.mem_cons_self))
    rw [upd_ne hne]; exact e
theorem RelH.reveal (r : RelH P w K H μ h) (hf : μ.f = A :: f) (hn : A ∉ f) (q : RelO P w K (upd H A u) ⟨μ.l ++ [A], f⟩ o A) : RelH P w K (upd H A u) ⟨μ.l ++ [A], f⟩ (h ++ [o]) where
  len := by simp [r.len]
  nd := by
    show (μ.l ++ [A]).Nodup
    rw [List.nodup_append]
    refine ⟨r.nd, by simp, fun a m b mb => ?_⟩
    rw [List.mem_singleton.mp mb]
    rintro rfl
    exact r.dj a m (by rw [hf]; exact List.mem_cons_self)
  dj := fun a m z => by
    rcases List.mem_append.mp (show a ∈ μ.l ++ [A] from m) with m | m
    · exact r.dj a m (by rw [hf]; exact List.mem_cons_of_mem _ z)
    · rw [List.mem_singleton.mp m] at z
      exact hn z
  fo := fun a m => by
    have hne : a ≠ A := fun z => hn (z ▸ m)
    rw [upd_ne hne]
    exact r.fo a (by rw [hf]; exact List.mem_cons_of_mem _ m)
  obj := fun n o' a e1 e2 => by
    replace e2 : (μ.l ++ [A])[n]? = some a := e2
    by_cases hl : n < μ.l.length
    · rw [List.getElem?_append_left (by rw [← r.len]; exact hl)] at e1
      rw [List.getElem?_append_left hl] at e2
      refine (r.obj n o' a e1 e2).stp0 (Stp0.reveal hf) (upd_ne ?_)
      rintro rfl
      exact r.dj a (List.mem_of_getElem? e2) (by rw [hf]; exact List.mem_cons_self)
    · have h1 : n < (h ++ [o]).length := (List.getElem?_eq_some_iff.mp e1).1
      have h2 : n < h.length + 1 := by simpa using h1
      have en : n = μ.l.length := by have := r.len; omega
      subst en
      rw [get_append_new] at e2
      cases e2
      rw [r.len, get_append_new] at e1
      cases e1
      exact q
end
/-! ### {k: v, ..} -/
abbrev MP := AS → AH → Res (List (D × D))
def RPs (K : PySem.W.Frag) : Hp → Mu → List (D × D) → List (V × V) → Prop := fun H μ => Paired fun p q => RD K H μ p.1 q.1 ∧ RD K H μ p.2 q.2
theorem RPs.stp {K : PySem.W.Frag} {H H' : Hp} {μ μ' : Mu} {ds : List (D × D)} {vs : List (V × V)} (s : Stp μ μ' H H') (r : RPs K H μ ds vs) : RPs K H' μ' ds vs := paired_mono (fun _ _ z => ⟨z.1.stp s, z.2.stp s⟩) r
section
variable {X : Cx} {W : WX} {pos : Pos}
structure QPs (X : Cx) (pos : Pos) (r : MP) (keys : List (Option Expr)) (values : List Expr) : Prop where
  ex : ∃ trs, PPs X pos keys values trs ∧ ∀ (τ : L2.St) (H : Hp) (Q : List (V × V) → Hp → Prop), tG X WNever (RPs X.K) r τ H Q → tPairs trs τ H Q
def pNil : MP := fun _ h => .ok [] h
def pCons (a b : M) (r : MP) : MP := fun σ h => (a σ h).bind fun x h1 => (b σ h1).bind fun y h2 => (r σ h2).bind fun ps h3 => .ok ((x, y) :: ps) h3
theorem qps_nil : QPs X pos pNil [] [] := ⟨[], pps_nil, fun τ H Q ⟨σ, h, μ, rs, rh, q⟩ => q.now rh .nil⟩
theorem qps_cons {a b : M} {r : MP} {k v : Expr} {ks : List (Option Expr)} {vs : List Expr} (ha : QE X WNever a k) (hb : QE X WNever b v) (hr : QPs X pos r ks vs) : QPs X pos (pCons a b r) (some k :: ks) (v :: vs) := by
  obtain ⟨trs, h1, h2⟩ := hr
  exact ⟨_, pps_cons ha hb h1, fun τ H Q ⟨σ, h, μ, rs, rh, q⟩ => go rs rh q fun x h1 v H1 μ1 s1 rs1 rh1 rx q1 => go rs1 rh1 q1 fun y h2' u H2 μ2 s2 rs2 rh2 ry q2 => h2 _ _ _ (go rs2 rh2 q2 fun ps h3 vs H3 μ3 s3 rs3 rh3 rps q3 => q3.now rh3 (.cons ⟨(rx.stp s2).stp s3, ry.stp s3⟩ rps))⟩
def keysD : List (D × D) → Option (List (Key × D))
  | [] => some []
  | (k, v) :: r => match keyD k, keysD r with
    | some k', some r' => some ((k', v) :: r')
    | _, _ => none
def mergeD (kvs more : List (Key × D)) : List (Key × D) := more.foldl (fun acc kv => dkPut acc kv.1 kv.2) kvs
theorem keysD_ok {K : PySem.W.Frag} {H : Hp} {μ : Mu} {ds : List (D × D)} {vs : List (V × V)} (r : RPs K H μ ds vs) : ∀ {kvs : List (Key × D)}, keysD ds = some kvs → ∃ qs : List (Key × V), vs = qs.map (fun kv => (kV kv.1, kv.2)) ∧ RKV K H μ kvs qs := by
  unfold RPs at r
  induction r with
  | nil => intro kvs e; cases e; exact ⟨[], rfl, .nil⟩
  | @cons p x ps ys rt t ih =>
    intro kvs e
    obtain ⟨k, d⟩ := p
    obtain ⟨xk, xv⟩ := x
    rw [keysD] at e
    split at e
    · rename_i k' r' e1 e2
      cases e
      obtain ⟨qs, rfl, rq⟩ := ih e2
      obtain rfl : xk = kV k' := keyD_V rt.1 e1
      exact ⟨(k', xv) :: qs, rfl, .cons ⟨rfl, rt.2⟩ rq⟩
    · cases e
theorem merge_ok {K : PySem.W.Frag} {H : Hp} {μ : Mu} {more : List (Key × D)} {qs : List (Key × V)} (r : RKV K H μ more qs) : ∀ {kvs : List (Key × D)} {vs : List (Key × V)}, RKV K H μ kvs vs → RKV K H μ (mergeD kvs more) (mergeK vs qs) := by
  unfold RKV at r
  induction r with
  | nil => intro kvs vs q; exact q
  | @cons p x ps ys rt t ih =>
    intro kvs vs q
    obtain ⟨p1, p2⟩ := p
    obtain ⟨x1, x2⟩ := x
    obtain ⟨r1, r2⟩ := rt
    dsimp only at r1 r2
    subst r1
    exact ih (paired_dkPut q r2)
def dispV : List (D × D) → AH → Res D := fun ps h => match keysD ps with
  | some kvs => if kvs.length ≤ 15 then .ok (.ref h.length) (h ++ [.dk (mergeD [] kvs)]) else .stuck
  | none => .stuck
def okOnly {α : Type} : Res α → Res α
  | .ok a h => .ok a h
  | _ => .stuck
@[simp] theorem okOnly_ok {α : Type} (a : α) (h : AH) : okOnly (.ok a h) = .ok a h := rfl
def eDisp (r : MP) : M := fun σ h => (okOnly (r σ h)).bind fun ps h1 => dispV ps h1
theorem q_disp {r : MP} {keys : List (Option Expr)} {values : List Expr} (hr : QPs X pos r keys values) (hall : keys.all (·.isSome) = true := by rfl) (hl : keys.length = values.length := by rfl) (h0 : keys ≠ [] := by simp)
    (h15 : keys.length ≤ 15 := by decide) : QE X W (eDisp r) (.Dict keys values pos) := by
  obtain ⟨trs, hp, ht⟩ := hr
  refine QE.of (pe_disp hp hall hl h0 h15) fun τ H Q ⟨σ, h, μ, rs, rh, q⟩ p hp => ht _ _ _ ?_
  have st0 : Stp0 μ (μ.hide p) H (upd H p (.dK [])) := Stp0.hide hp
  have rh0 := rh.hide (u := .dK []) hp
  refine ⟨σ, h, μ.hide p, ⟨rs.1, fun i d e => let ⟨v, a, b⟩ := rs.2 i d e; ⟨v, a, b.stp0 st0⟩⟩, rh0, ?_⟩
  unfold eDisp at q
  cases e : r σ h with
  | stuck => rw [e] at q; exact q
  | ex x h' => rw [e] at q; exact q.elim
  | ok ps h' =>
    rw [e] at q
    intro vs H' μ' s rh' rps
    have q : Post X W τ H μ (RD X.K) Q (dispV ps h') := q
    have hp' : upd H p (.dK []) p = some (.dK []) := upd_same
    have e1 := s.hid p _ (show p ∈ (μ.hide p).f from List.mem_cons_self) hp'
    refine ⟨e1, ?_⟩
    unfold dispV at q
    split at q
    · rename_i kvs ek
      obtain ⟨qs, rfl, rq⟩ := keysD_ok rps ek
      have hlen : qs.length = kvs.length := (Paired.length rq).symm
      split at q
      · rename_i hl15
        refine ⟨qs, rfl, by rw [hlen]; exact hl15, ?_⟩
        have hnp : p ∉ μ.f := fun m => rh.fresh hp (.inr m)
        have st : Stp μ ⟨μ'.l, μ.f⟩ H H' := Stp.within (f := μ.f) (μ' := μ.hide p) (Stp.laid hp) hp rfl s rh'.dj
        have hf' : μ'.f = p :: μ.f := s.fz
        refine q _ _ ⟨μ'.l ++ [p], μ.f⟩ (st.reveal hp) (rh'.reveal hf' hnp (.dk upd_same ((merge_ok rq .nil).stp0 (Stp0.reveal hf')))) (.ref ?_)
        show (μ'.l ++ [p])[h'.length]? = some p
        rw [← rh'.len]; simp
      · exact q.elim
    · exact q.elim
end
/-! ### {k: v for ..} -/
section
variable {X : Cx} {W : WX}
open Classical in
noncomputable def dcL (G : AH → Prop) (g : MG) (t : MB) (mk mv : M) (σ : AS) : List _root_.Q.D → List (Key × _root_.Q.D) → AH → Res (List (Key × _root_.Q.D))
  | [], acc, h => if G h then .ok acc h else .stuck
  | d :: ds, acc, h => if G h then (match g d σ h with
    | some (σ1, h1) => match t σ1 h1 with
      | .ok true h2 => match mk σ1 h2 with
        | .ok y h3 => match mv σ1 h3 with
          | .ok z h4 => match keyD y with
            | some k => if acc.length < 16777216 then dcL G g t mk mv σ ds (dkPut acc k z) h4 else .stuck
            | none => .stuck
          | _ => .stuck
        | _ => .stuck
      | .ok false h2 => dcL G g t mk mv σ ds acc h2
      | _ => .stuck
    | none => .stuck) else .stuck
noncomputable def eDc (it : MI) (g : MG) (t : MB) (mk mv : M) (vs : List Nat) : M := fun σ h => (it σ h).bind fun p h1 => (dcL p.2 g t mk mv (wipeA σ vs) p.1 [] h1).bind fun kvs h2 => .ok (.ref h2.length) (h2 ++ [.dk kvs])
theorem dc_go {it : MI} {g : MG} {t : MB} {mk mv : M} {vs is : List Nat} (his : ∀ j, j ∈ is → j ∈ vs) : ∀ τ H Q, tE X W (eDc it g t mk mv vs) τ H Q → tDc (tI X W it) (tGt X g is) (tT X WNever t) (tE X WNever mk) (tE X WNever mv) vs τ H Q := fun τ H Q ⟨σ, h, μ, rs, rh, q⟩ =>
  go rs rh q fun p h1 J H1 μ1 s1 rs1 rh1 w q1 A hA => by
    obtain ⟨ds, G⟩ := p
    have hA1 : upd H1 A (.dK []) A = some (.dK []) := upd_same
    let Inv' : Nat → Hp → Prop := fun i H => ∃ h μ acc xs, Stp0 μ1 μ H1 H ∧ Stp μ1 ⟨μ.l, μ1.f⟩ H1 H ∧ μ.f = A :: μ1.f ∧ RelH X.prog X.w X.K H μ h ∧ H A = some (.dK xs) ∧ RKV X.K H μ acc xs ∧
      Post X W τ H1 μ1 (RD X.K) Q ((dcL G g t mk mv (wipeA σ vs) (ds.drop i) acc h).bind fun kvs h2 => .ok (.ref h2.length) (h2 ++ [.dk kvs]))
    refine ⟨fun i m' H => m' = ds.length - i ∧ i ≤ ds.length ∧ Inv' i H, ⟨ds.length, rfl, Nat.zero_le _, h1, μ1.hide A, [], [], Stp0.hide hA, Stp.laid hA, rfl, rh1.hide hA, hA1, .nil, ?_⟩, ?_⟩
    · rw [List.drop_zero]; exact q1
    rintro i m' H ⟨rfl, hi, h, μ, acc, xs, st0, st, hf, rh, hHA, racc, q⟩
    have mA : A ∈ μ.f := by rw [hf]; exact List.mem_cons_self
    by_cases hlt : i < ds.length
    · rw [List.drop_eq_getElem_cons hlt, dcL] at q
      by_cases hG : G h
      · rw [if_pos hG] at q
        refine .inr ⟨w.goes i H μ h hlt st0 rh hG, Inv' (i + 1), fun H' p' => ⟨ds.length - (i + 1), by omega, rfl, hlt, p'⟩, fun x H' y => ?_⟩
        obtain ⟨d, ed, st', rh', rd⟩ := w.yields i H μ h x H' hlt st0 rh hG y
        have ed' : ds[i] = d := by
          rw [List.getElem?_eq_getElem hlt] at ed
          exact Option.some.inj ed
        rw [ed'] at q
        have rs0 : RelS X.K H' μ σ τ := ⟨rs1.1, fun i d e => let ⟨v, a, b⟩ := rs1.2 i d e; ⟨v, a, b.stp0 (st0.trans st'.toStp0)⟩⟩
        refine ⟨d, wipeA σ vs, h, μ, rs0.wipe vs, rh', rd, ?_⟩
        cases eg : g d (wipeA σ vs) h with
        | none => rw [eg] at q; exact q.elim
        | some p =>
          obtain ⟨σ1, h2⟩ := p
          rw [eg] at q
          refine ⟨σ1, h2, rfl, fun τ2 H2 μ2 st2 rs2 rh2 hl2 f2 => ⟨?_, σ1, h2, μ2, rs2, rh2, ?_⟩⟩
          · have e1 : L2.wipe τ2 vs = L2.wipe (L2.wipe τ vs) vs := wipe_ext hl2 fun j hj => f2 j fun z => hj (his j z)
            rw [e1]
            exact wipe_ext (wipe_length _ _) fun j hj => wipe_get hj
          dsimp only at q
          cases et : t σ1 h2 with
          | stuck => rw [et] at q; exact q.elim
          | ex e h3 => rw [et] at q; exact q.elim
          | ok k h3 =>
            rw [et] at q
            intro b H3 μ3 st3 rh3 rb
            cases (show k = b from rb)
            cases k with
            | false =>
              rw [if_neg Bool.false_ne_true]
              have sta := (st'.trans st2).trans st3
              exact ⟨h3, μ3, acc, xs, st0.trans sta.toStp0, st.within (f := μ1.f) hA hf sta rh3.dj, sta.fz.trans hf, rh3, sta.hid _ _ mA hHA, RKV.stp sta racc, q⟩
            | true =>
              rw [if_pos rfl]
              refine ⟨σ1, h3, μ3, rs2.stp st3, rh3, ?_⟩
              dsimp only at q
              cases em : mk σ1 h3 with
              | stuck => rw [em] at q; exact q.elim
              | ex e h4 => rw [em] at q; exact q.elim
              | ok yd h4 =>
                rw [em] at q
                intro v H4 μ4 st4 rh4 rv
                dsimp only at q
                refine ⟨σ1, h4, μ4, (rs2.stp st3).stp st4, rh4, ?_⟩
                cases ez : mv σ1 h4 with
                | stuck => rw [ez] at q; exact q.elim
                | ex e h5 => rw [ez] at q; exact q.elim
                | ok zd h5 =>
                  rw [ez] at q
                  intro u H5 μ5 st5 rh5 ru
                  dsimp only at q
                  cases ek : keyD yd with
                  | none => rw [ek] at q; exact q.elim
                  | some k =>
                    rw [ek] at q
                    dsimp only at q
                    by_cases hl : acc.length < 16777216
                    · rw [if_pos hl] at q
                      have sta := (((st'.trans st2).trans st3).trans st4).trans st5
                      have hA5 := sta.hid _ _ mA hHA
                      have mA5 : A ∈ μ5.f := by rw [sta.fz]; exact mA
                      have pk : Stp0 μ5 μ5 H5 (upd H5 A (.dK (putK xs k u))) := Stp0.poke mA5
                      have hz : xs.length = acc.length := (Paired.length racc).symm
                      refine ⟨xs, k, keyD_V rv ek, hA5, by rw [sizeLine_eq, hz]; exact hl, h5, μ5, dkPut acc k zd, putK xs k u, (st0.trans sta.toStp0).trans pk, (st.within (f := μ1.f) hA hf sta rh5.dj).poke_new hA, sta.fz.trans hf, rh5.poke mA5, upd_same, ?_, q⟩
                      exact RKV.stp0 pk (paired_dkPut (RKV.stp sta racc) ru)
                    · rw [if_neg hl] at q
                      exact q.elim
      · rw [if_neg hG] at q
        exact q.elim
    · have ei : i = ds.length := by omega
      subst ei
      rw [List.drop_length, dcL] at q
      by_cases hG : G h
      · rw [if_pos hG] at q
        have hn : A ∉ μ1.f := fun z => by
          obtain ⟨u, e⟩ := rh1.fo A z
          rw [hA] at e; cases e
        have eu : upd H A (.dK xs) = H := by
          funext b
          by_cases hb : b = A
          · rw [hb, upd_same, hHA]
          · rw [upd_ne hb]
        have r1 := rh.reveal (u := .dK xs) (o := .dk acc) hf hn (.dk upd_same (RKV.stp0 (Stp0.reveal hf) racc))
        have s1 := st.reveal (u := .dK xs) hA
        rw [eu] at r1 s1
        refine .inl ⟨w.stops H μ h st0 rh hG, q _ H ⟨μ.l ++ [A], μ1.f⟩ s1 r1 (.ref ?_)⟩
        show (μ.l ++ [A])[h.length]? = some A
        rw [← rh.len]; simp
      · rw [if_neg hG] at q
        exact q.elim
theorem q_dc {it : MI} {g : MG} {t : MB} {mk mv : M} {is : List Nat} {kx vx tg iter : Expr} {ifs : List Expr} {scope : Scope} {own : List (Str × Nat)} {pos : Pos} (hc : X.calm = true) (hN : X.N.Nodup) (hi : QI X W tg it iter) (ok : BlkOk X.N X.env.scope scope own)
    (hg : ∀ (s : Shared) (H : Hp) (C : Addr) (cl : List (Str × Addr)) (fp : List Addr), QG (X.blk s H scope (compEnvC scope cl C X.env) fp) g is tg) (ht : ∀ (s : Shared) (H : Hp) (C : Addr) (cl : List (Str × Addr)) (fp : List Addr), QTs (X.blk s H scope (compEnvC scope cl C X.env) fp) WNever t ifs)
    (hk : ∀ (s : Shared) (H : Hp) (C : Addr) (cl : List (Str × Addr)) (fp : List Addr), QE (X.blk s H scope (compEnvC scope cl C X.env) fp) WNever mk kx)
    (he : ∀ (s : Shared) (H : Hp) (C : Addr) (cl : List (Str × Addr)) (fp : List Addr), QE (X.blk s H scope (compEnvC scope cl C X.env) fp) WNever mv vx) (his : ∀ j, j ∈ is → j ∈ own.map (·.2) := by decide) (hs : ∀ x, foldedSetIterable iter X.env x = pure x := by intro _; rfl) :
    QE X W (eDc it g t mk mv (own.map (·.2))) (.DictComp kx vx [⟨tg, iter, ifs, 0⟩] scope pos) :=
  QE.of (pe_dc hc hN hi ok (g := tGt X g is) (tt := tT X WNever t) (tk := tE X WNever mk) (tv := tE X WNever mv) hg ht hk he hs) (dc_go his)
end
/-! ### bits -/
section
variable {X : Cx} {W : WX} {pos tpos : Pos}
abbrev dShl : F2 := dInt (fun i j => 0 ≤ j ∧ j ≤ 1000000 ∧ i.natAbs < 2 ^ 64) fun i j => i * 2 ^ j.toNat
theorem opd_shl : OpD X (binaryOp .LShift) dShl := opd_int op_shl
abbrev dShr : F2 := dInt (fun _ j => 0 ≤ j) fun i j => i / 2 ^ j.toNat
theorem opd_shr : OpD X (binaryOp .RShift) dShr := opd_int op_shr
abbrev dBand : F2 := dInt (fun _ _ => True) Builtin.bitAnd
theorem opd_band : OpD X (binaryOp .BitAnd) dBand := opd_int0 op_and
abbrev dBor : F2 := dInt (fun _ _ => True) Builtin.bitOr
theorem opd_bor : OpD X (binaryOp .BitOr) dBor := opd_int0 op_or
abbrev dBxor : F2 := dInt (fun _ _ => True) Builtin.bitXor
theorem opd_bxor : OpD X (binaryOp .BitXor) dBxor := opd_int0 op_xor
/-! ### o[i] += e, o a dict -/
def dIxK : F2 := fun x y h => match objAt h x with
  | some (.dt kvs) => match tkey y with
    | some k => (dtGet kvs k).map fun d => (d, h)
    | none => none
  | some (.dk kvs) => match keyD y with
    | some k => (dkGet kvs k).map fun d => (d, h)
    | none => none
  | _ => none
theorem pgetd (hu : X.A.units + 64 < cLine) : PGet X (rOf X dIxK) := fun pins s σ H v u v' u' Q I rv ru ⟨x, y, μ, h, rh, rx, ry, q⟩ => by
  unfold dIxK at q
  split at q
  · rename_i kvs eo
    split at q
    · rename_i k ek
      obtain ⟨n, b, rfl, hm, rfl, ro⟩ := objAt_ok rh rx eo
      obtain ⟨a, rfl, e1, e2⟩ := tkey_V ry ek
      cases rv; cases ru
      cases ro with
      | dt he hz hl hp hn =>
        have hD := dt_raw I he hp hn
        rcases paired_dt hp k with ⟨z1, z2⟩ | ⟨d, b', u, v, z1, z2, z3, z4⟩
        · rw [z1] at q; exact q.elim
        · refine wpAny_getItem_heap (show (nestedKind X.prog X.w).room X.A.in1 from ?_) (key_is I ry e1 e2) hD z2 ?_
          · show X.A.units + 1 + 8 < cLine
            omega
          · rw [z1] at q
            exact ⟨v, H, I.tok _, z3, q.now rfl rh z4⟩
    · exact q.elim
  · rename_i kvs eo
    split at q
    · rename_i k ek
      obtain ⟨n, b, rfl, hm, rfl, ro⟩ := objAt_ok rh rx eo
      have ev := keyD_V ry ek
      cases rv
      cases ro with
      | dk he hp =>
        rcases paired_dk hp k with ⟨z1, z2⟩ | ⟨d, v, z1, z2, z3⟩
        · rw [z1] at q; exact q.elim
        · rw [z1] at q
          exact d_getItem (by omega) I (.inl ⟨_, k, .inl he, ev, z2.symm⟩) ru fun w' s' I' rw' => ⟨v, H, I', rw', q.now rfl rh z3⟩
    · exact q.elim
  · exact q.elim
def stH (σ : AS) : Option AH → Out
  | some h => .nx σ h
  | none => .stuck
@[simp] theorem stH_some (σ : AS) (h : AH) : stH σ (some h) = .nx σ h := rfl
def augV (f : Int → Int → Int) (x y o z : D) (σ : AS) (h : AH) : Out := match o, z with
  | .int i, .int j => stH σ (dSet x y (.int (f i j)) h)
  | _, _ => .stuck
def sAugS (f : Int → Int → Int) (a b m : M) : MS := fun σ h => (a σ h).andS σ fun x h1 => (b σ h1).andS σ fun y h2 => (lif (dIxK x y h2)).andS σ fun o h3 => (m σ h3).andS σ fun z h4 => augV f x y o z σ h4
theorem PO2.andS {D : Ends} {r : Opt} {σ : AS} {τ : L2.St} {H : Hp} {μ : Mu} {k : _root_.Q.D → AH → Out} {Q : VK} (rs : RelS X.K H μ σ τ)
    (q : PostS X W D H μ ((lif r).andS σ k)) (hk : ∀ (z : _root_.Q.D) (h1 : AH) (t : V) (H1 : Hp) (μ1 : Mu), Stp μ μ1 H H1 → RelS X.K H1 μ1 σ τ → RelH X.prog X.w X.K H1 μ1 h1 → RD X.K H1 μ1 z t → PostS X W D H1 μ1 (k z h1) → Q t H1) : PO2 X H μ Q r := by
  cases e : r with
  | none => rw [e] at q; exact False.elim q
  | some p =>
    obtain ⟨a, h'⟩ := p
    rw [e] at q
    exact ⟨a, h', rfl, fun b H' μ' s rh' ra => hk a h' b H' μ' s (rs.stp s) rh' ra (q.mono s)⟩
theorem qs_augS {f : Int → Int → Int} {a b m : M} {o i e : Expr} {op : Operator} (hu : X.A.units + 64 < cLine) (ha : QE X W a o) (hb : QE X W b i) (hm : QE X W m e) (ho : PIp X op (ipI f)) (hs : ∀ ov iv new, augStore i ov iv new = (do holding [new, ov, iv] (setItem ov iv new); release [new, ov, iv] []; pure .next) := by intros; rfl) : QS X W (sAugS f a b m) (.AugAssign (.Subscript o i tpos) op e pos) :=
  PS.of (ps_augS ha hb (pgetd hu) hm ho (setd hu) hs) fun D τ H ⟨σ, h, μ, rs, rh, q⟩ => goS rs rh q fun x h1 v H1 μ1 s1 rs1 rh1 rx q1 => goS rs1 rh1 q1 fun y h2 u H2 μ2 s2 rs2 rh2 ry q2 =>
    ⟨x, y, μ2, h2, rh2, rx.stp s2, ry, PO2.andS rs2 q2 fun o h3 t H3 μ3 s3 rs3 rh3 ro q3 => goS rs3 rh3 q3 fun z h4 r H4 μ4 s4 rs4 rh4 rz q4 => by
      unfold augV at q4
      split at q4
      · rename_i i j
        cases ro; cases rz
        refine ⟨i, j, rfl, rfl, x, y, .int (f i j), μ4, h4, rh4, ((rx.stp s2).stp s3).stp s4, (ry.stp s3).stp s4, .int _, ?_⟩
        cases ed : dSet x y (.int (f i j)) h4 with
        | none => rw [ed] at q4; exact q4.elim
        | some h5 =>
          rw [ed] at q4
          exact ⟨h5, rfl, fun H' μ' st rh' => q4 τ H' μ' st (rs4.stp st) rh'⟩
      · exact q4.elim⟩
end
end Q

/-! Q24: enumerate of lists and tuples; [(k, d[k]) for k in d]. -/
namespace PySem
open Sem (wp)
set_option maxHeartbeats 1000000 in
theorem q_enumerate_newB1 {v : Value} {o : Obj} {H : Heap → Prop} (B : Begins v o H) :
    Meets (Builtin.«enumerate.__new__» ⟨[.type "enumerate", v], []⟩) (fun _ R s => H s.heap ∧
      R (.ok (.ret (.ref (s.heap.push o).objs.size))) { s with heap := (s.heap.push o).push { cls := .type "enumerate", data := .fields #[.none, .bool false, .ref s.heap.objs.size, rawInt 0, .none, .none] } }) :=
  .of_wp fun prog w A R s h => by
    obtain ⟨hp, g, d, tk, os⟩ := s; obtain ⟨h1, h⟩ := h
    have hsub := sub_enumerate
    have q1 : ∀ {A' : Around} {E : Value → Shared → Prop} {Q : Value → Shared → Prop}, Q (.ref hp.objs.size) ⟨hp.push o, g, d, tk, os⟩ → wpAny (model prog w) A' (pyIter v) Q E ⟨hp, g, d, tk, os⟩ :=
      fun q => B.iter prog w _ _ ⟨hp, g, d, tk, os⟩ _ h1 q
    wp_walk using q1
    refine wpAny_stack_any fun st => wpAny_pure ?_
    split
    · rename_i c _ _ _ _ _
      cases (c == Value.type "enumerate")
      · wp_walk using q1
        exact ⟨_, rfl, h⟩
      · wp_walk using q1
        exact ⟨_, rfl, h⟩
    · wp_walk using q1
      exact ⟨_, rfl, h⟩
theorem q_call_enumT {prog : Program} {w : World} {A : Around} {E : Value → Shared → Prop} {s : Shared} {l : Addr} {items : Array Value} {Q : Value → Shared → Prop} (hL : s.heap.IsTuple l items)
    (h : ∀ h', IsEnum h' (s.heap.objs.size + 1) s.heap.objs.size 0 .none → h'.IsTupleIter s.heap.objs.size l 0 → h'.objs.size = s.heap.objs.size + 2 →
      (∀ b o, s.heap.get? b = some o → h'.get? b = some o) → Q (.ref (s.heap.objs.size + 1)) { s with heap := h' }) :
    wpAny (model prog w) A (call (.type "enumerate") [.ref l]) Q E s := by
  refine callType_new F.called_enumerate (by decide) (F.typeCall_enumerate_1 _) (F.newCall_enumerate_1 _) (fun obj => F.args_object_init_2 obj _) F.entry_enumerate_new
    (q_enumerate_newB1 (begins_tuple l items)) ⟨hL, ?_⟩
  have hz : (s.heap.push { cls := .type "tuple_iterator", data := .fields #[.ref l, .int 0 0] }).objs.size = s.heap.objs.size + 1 := Heap.size_push ..
  show _ ∧ _
  rw [hz]
  have he : IsEnum ((s.heap.push { cls := .type "tuple_iterator", data := .fields #[.ref l, .int 0 0] }).push
      { cls := .type "enumerate", data := .fields #[.none, .bool false, .ref s.heap.objs.size, rawInt 0, .none, .none] }) (s.heap.objs.size + 1) s.heap.objs.size 0 .none := by
    have := Heap.get?_push_size (s.heap.push { cls := .type "tuple_iterator", data := .fields #[.ref l, .int 0 0] })
      (o := { cls := .type "enumerate", data := .fields #[.none, .bool false, .ref s.heap.objs.size, rawInt 0, .none, .none] }) rfl
    rw [hz] at this; exact this
  refine ⟨⟨_, he, rfl⟩, h _ he ⟨_, Heap.get?_push_of_some _ (Heap.get?_push_size _ rfl), rfl, rfl⟩ (by rw [Heap.size_push, hz]) fun b o x => Heap.get?_push_of_some _ (Heap.get?_push_of_some _ x)⟩
end PySem
namespace Q
open PySem PySem.Spec PyProof.Rows L2
def IteT (K : PySem.W.Frag) (a : Addr) : It :=
  ⟨fun i H => ∃ (xs : List V) (x : V), SqT K H a xs ∧ xs[i]? = some x, fun i H v H' => ∃ T x, v = .ref T ∧ H T = none ∧ H' = upd H T (.tup [.int (i : Nat), x]) ∧ ∀ xs, SqT K H a xs → xs[i]? = some x, fun i H => ∃ xs : List V, SqT K H a xs ∧ xs.length ≤ i⟩
theorem turn_enumT {P : Program} {w : World} {K : PySem.W.Frag} {elts : List Expr} {kk : Nat} {tpos : Pos} (a e it : Addr) :
    Turn P w K (.Tuple elts kk tpos) (IteT K a) [e, it] e (fun i h => (∃ old, IsEnum h e it ((i : Nat) : Int) old) ∧ h.IsTupleIter it a i ∧ e ≠ it ∧ e ≠ a ∧ a ≠ it) where
  mem := by simp
  obj := fun i h st b hb => by
    obtain ⟨⟨old, he⟩, ⟨o, ho, hc, hd⟩, _⟩ := st
    have e' : b = e ∨ b = it := by simpa using hb
    rcases e' with z | z
    · rw [z]; exact ⟨_, he, fun v q => nomatch q⟩
    · rw [z]; exact ⟨o, ho, fun v q => by rw [hd] at q; cases q⟩
  keep := fun i h h' st k => let ⟨⟨old, he⟩, hi, hne⟩ := st; ⟨⟨old, k e (by simp) _ he⟩, hi.at fun o q => k it (by simp) o q, hne⟩
  item := by
    intro X hP hw hK hc i pins s σ H E I hf st hg
    subst hP hw hK
    obtain ⟨⟨old, he⟩, hit, hne, hea, hai⟩ := st
    obtain ⟨xs, x, hq, hx⟩ := hg
    obtain ⟨its, rv, p, hz⟩ := I.tuple hq
    obtain ⟨u, hu, ru⟩ := rv.get hx
    have hel : e < s.heap.objs.size := Heap.lt_size he
    have hil : it < s.heap.objs.size := by obtain ⟨_, q, _⟩ := hit; exact Heap.lt_size q
    have hi : i < its.toArray.size := by
      have := (List.getElem?_eq_some_iff.mp hu).1
      simpa using this
    refine wpAny_pyNext_enum_itemD (Draws.tuple (A := X.A.in1) (show X.A.in1.handled = none from I.ok.hd hc) it a hai its.toArray) he ⟨hit, p⟩ hi hne (by simp [hne, hea]) fun y h' tk hP ho hst hT hsz hk => ?_
    have hy : y = u := by
      have e1 : its.toArray[i]? = some u := by simpa using hu
      rw [hP] at e1; cases e1; rfl
    subst hy
    refine ⟨_, rfl, wpAny_letOwnedTupleGo_enum (s := { s with heap := h', toks := tk + 1 }) ho fun h'' he' sb => ?_⟩
    have hT2 : h''.get? s.heap.objs.size = some { cls := .type "tuple", data := .seq #[.int i tk, y] } := (sb.2 _ (Nat.ne_of_gt hel)).trans hT
    have new : ObjOk X.prog X.w (upd H s.heap.objs.size (.tup [.int (i : Nat), x])) h'' s.heap.objs.size (.tup [.int (i : Nat), x]) :=
      ⟨by show 2 ≤ sizeLine; decide, [.int i tk, y], .cons ⟨_, rfl⟩ (.cons ru .nil), ⟨_, hT2, rfl, _, rfl⟩⟩
    have I1 : Inv X pins σ (upd H s.heap.objs.size (.tup [.int (i : Nat), x])) { s with heap := h'', toks := tk + 1 } :=
      I.turnedNew (ch := [e, it]) (fun b ob hb q => (sb.2 b (fun z => hb (by simp [z]))).trans (hk b ob (fun z => hb (by simp [z])) (fun z => hb (by simp [z])) q)) hf (Nat.le_refl _) new
    refine ⟨.ref s.heap.objs.size, _, I1, rfl, ⟨_, x, rfl, I.hok.fresh (Nat.le_refl _), rfl, fun ys hy => by rw [I.tuple_inj hy hq]; exact hx⟩, ⟨⟨y, ?_⟩, hst.1.at fun o q => (sb.2 it (Ne.symm hne)).trans q, hne, hea, hai⟩, fun b hb => ?_⟩
    · have e1 : ((i + 1 : Nat) : Int) = (i : Int) + 1 := by omega
      rw [e1]; exact he'
    · have hb' : b < s.heap.objs.size := by
        have e' : b = e ∨ b = it := by simpa using hb
        rcases e' with z | z
        · rw [z]; exact hel
        · rw [z]; exact hil
      rw [upd_ne (Nat.ne_of_lt hb')]
      exact (hf b hb).1
  done := by
    intro X hP hw hK hc i pins s σ H E I hf st hg
    subst hP hw hK
    obtain ⟨⟨old, he⟩, hit, hne, hea, hai⟩ := st
    obtain ⟨xs, hq, hx⟩ := hg
    obtain ⟨its, rv, p, hz⟩ := I.tuple hq
    obtain ⟨f0, f1, f2, f3, f4, f5⟩ := hf it (by simp)
    have hl := rv.length
    have hT : s.TypeIs (.ref e) "enumerate" := ⟨_, he, rfl⟩
    unfold pyNext
    refine wpAny_bind (wpAny_attempt (wpAny_callSpecial?_slot (name := Str.ofString "__next__") hT PySem.F.slot_enumerate_next
      (wpAny_call_entry PySem.F.slot_enumerate_next hT PySem.F.entry_enumerate_next ?_ (PySem.F.args_enumerate_next_1 _))))
    show wpAny _ _ (field (.ref e) 2 >>= _) _ _ _
    refine wpAny_bind (wpAny_field he rfl (x := .ref it) rfl ?_)
    refine wpAny_bind (wpAny_nextOf_tuple_end (I.ok.hd hc) hit p (by simp; omega) fun h' x he' hx' => ?_)
    obtain ⟨o, ho, hcl⟩ := hx'
    refine wpAny_bind (wpAny_isInstance (T := "StopIteration") (b := true) ⟨o, ho, hcl⟩ isSubtype_stop ?_)
    exact wpAny_pure ⟨rfl, I.turned (t' := s.toks) (fun b o hb q => he' b o hb q) f0 f1 f3 f4 f5⟩
  self := fun A i s Q E st h => let ⟨⟨_, he⟩, _⟩ := st; wpAny_pyIter_enum he h
/-- enumerate of a list or of a tuple -/
def iEnumA (K : PySem.W.Frag) (ta : TA) : TI := fun σ H R => ta σ H fun vs H1 => ∃ a xs, vs = [.ref a] ∧ ((SqL K H1 a xs ∧ R (Ite K a) H1) ∨ (SqT K H1 a xs ∧ R (IteT K a) H1))
theorem pi_enumA {X : Cx} {e : Expr} {ta : TA} {p pos tpos : Pos} {elts : List Expr} {kk : Nat} (hg : Gl X "enumerate") (hm : X.mg "enumerate" = none) (ha : PA X [e] ta) (hs : starEach [e] X.env = [(false, eval e X.env)] := by rfl) :
    PI X (.Tuple elts kk tpos) (.Call (.Name "enumerate" p) [e] [] pos) (iEnumA X.K ta) := by
  refine ⟨fun pins s σ H R I h => ?_⟩
  refine Call_ (ld_blt I hg hm boot_enumerate (PyProof.Rows.callWith_type1 (thn (ha.run pos pins s σ H _ I h) fun us s1 ⟨vs, H1, I1, r1, q1⟩ => ?_) hs rfl))
  obtain ⟨a, xs, ex, q1⟩ := q1
  subst ex
  cases r1 with
  | cons r rr =>
    cases rr
    cases r
    have fresh2 : ∀ b ∈ [s1.heap.objs.size + 1, s1.heap.objs.size], FpOk X pins H1 b := fun b hb => by
      have e' : b = s1.heap.objs.size + 1 ∨ b = s1.heap.objs.size := by simpa using hb
      have hle : s1.heap.objs.size ≤ b := by
        rcases e' with z | z
        · rw [z]; exact Nat.le_add_right _ _
        · rw [z]; exact Nat.le_refl _
      exact I1.fpOk hle (I1.hok.fresh hle)
    rcases q1 with ⟨hq, q⟩ | ⟨hq, q⟩
    · obtain ⟨its, rv, p', hz⟩ := I1.list hq
      refine call_enumerate_list p'.isList fun h' he hit hsz hk => wpAny_pyIter_enum he ?_
      have I2 : Inv X pins σ H1 { s1 with heap := h' } := I1.kept (t' := s1.toks) hk
      exact ⟨s1.heap.objs.size + 1, [s1.heap.objs.size + 1, s1.heap.objs.size], _, _, H1, rfl, I2, turn_enum a (s1.heap.objs.size + 1) s1.heap.objs.size, ⟨⟨.none, he⟩, hit, Nat.succ_ne_self _⟩, fresh2, q⟩
    · obtain ⟨its, rv, p', hz⟩ := I1.tuple hq
      obtain ⟨oa, hoa, _⟩ := id p'
      have la : a < s1.heap.objs.size := Heap.lt_size hoa
      refine q_call_enumT (show s1.heap.IsTuple a its.toArray from p') fun h' he hit hsz hk => wpAny_pyIter_enum he ?_
      have I2 : Inv X pins σ H1 { s1 with heap := h' } := I1.kept (t' := s1.toks) hk
      exact ⟨s1.heap.objs.size + 1, [s1.heap.objs.size + 1, s1.heap.objs.size], _, _, H1, rfl, I2, turn_enumT a (s1.heap.objs.size + 1) s1.heap.objs.size, ⟨⟨.none, he⟩, hit, Nat.succ_ne_self _, Nat.ne_of_gt (Nat.lt_succ_of_lt la), Nat.ne_of_lt la⟩, fresh2, q⟩
section
variable {X : Cx} {W : WX}
def enumD (ds : List D) : List D := (List.range ds.length).zipWith (fun i d => .tup [.int (i : Nat), d]) ds
theorem enumD_len (ds : List D) : (enumD ds).length = ds.length := by simp [enumD]
theorem enumD_get {ds : List D} {i : Nat} {d : D} (h : ds[i]? = some d) : (enumD ds)[i]? = some (.tup [.int (i : Nat), d]) := by
  have hi := (List.getElem?_eq_some_iff.mp h).1
  simp [enumD, List.getElem?_zipWith, h, List.getElem?_range hi]
theorem walk_enL {H0 : Hp} {μ0 : Mu} {a : Addr} {ds : List D} {G : AH → Prop} (hs : ∀ (H : Hp) (μ : Mu) (h : AH), Stp0 μ0 μ H0 H → RelH X.prog X.w X.K H μ h → G h → ∃ xs, SqL X.K H a xs ∧ RDs X.K H μ ds xs) : WalkD X H0 μ0 (enumD ds, G) (Ite X.K a) where
  goes := fun i H μ h hi s rh g => by
    obtain ⟨xs, q, r⟩ := hs H μ h s rh g
    have hi : i < ds.length := by rw [← enumD_len ds]; exact hi
    obtain ⟨v, e, _⟩ := r.get (List.getElem?_eq_getElem hi)
    exact ⟨xs, v, q, e⟩
  stops := fun H μ h s rh g => by
    obtain ⟨xs, q, r⟩ := hs H μ h s rh g
    refine ⟨xs, q, ?_⟩
    show xs.length ≤ (enumD ds).length
    rw [enumD_len, r.length]; exact Nat.le_refl _
  yields := fun i H μ h x H' hi s rh g y => by
    obtain ⟨xs, q, r⟩ := hs H μ h s rh g
    obtain ⟨T, u, rfl, hT, rfl, y⟩ := y
    obtain ⟨d, e, rd⟩ := r.get' (y xs q)
    exact ⟨_, enumD_get e, Stp.laid hT, rh.laid hT, RD.tup_laid rh hT (.cons (.int _) (.cons rd .nil))⟩
theorem walk_enT {H0 : Hp} {μ0 : Mu} {a : Addr} {ds : List D} {G : AH → Prop} (hs : ∀ (H : Hp) (μ : Mu) (h : AH), Stp0 μ0 μ H0 H → RelH X.prog X.w X.K H μ h → G h → ∃ xs, SqT X.K H a xs ∧ RDs X.K H μ ds xs) : WalkD X H0 μ0 (enumD ds, G) (IteT X.K a) where
  goes := fun i H μ h hi s rh g => by
    obtain ⟨xs, q, r⟩ := hs H μ h s rh g
    have hi : i < ds.length := by rw [← enumD_len ds]; exact hi
    obtain ⟨v, e, _⟩ := r.get (List.getElem?_eq_getElem hi)
    exact ⟨xs, v, q, e⟩
  stops := fun H μ h s rh g => by
    obtain ⟨xs, q, r⟩ := hs H μ h s rh g
    refine ⟨xs, q, ?_⟩
    show xs.length ≤ (enumD ds).length
    rw [enumD_len, r.length]; exact Nat.le_refl _
  yields := fun i H μ h x H' hi s rh g y => by
    obtain ⟨xs, q, r⟩ := hs H μ h s rh g
    obtain ⟨T, u, rfl, hT, rfl, y⟩ := y
    obtain ⟨d, e, rd⟩ := r.get' (y xs q)
    exact ⟨_, enumD_get e, Stp.laid hT, rh.laid hT, RD.tup_laid rh hT (.cons (.int _) (.cons rd .nil))⟩
def enV (x : D) (h : AH) : Res (List D × (AH → Prop)) := match x with
  | .tup ds => .ok (enumD ds, fun _ => True) h
  | .fro ds => .ok (enumD ds, fun _ => True) h
  | .ref n => match listAt h n with
    | some ds => .ok (enumD ds, fun h => listAt h n = some ds) h
    | none => .stuck
  | _ => .stuck
def iEn (m : M) : MI := fun σ h => (m σ h).bind fun x h1 => enV x h1
theorem qi_enum {m : M} {e : Expr} {p pos tpos : Pos} {elts : List Expr} {kk : Nat} (hg : Gl X "enumerate") (hm : X.mg "enumerate" = none) (he : QE X W m e) (hs : starEach [e] X.env = (false, eval e X.env) :: starEach [] X.env := by rfl)
    (hs1 : starEach [e] X.env = [(false, eval e X.env)] := by rfl) : QI X W (.Tuple elts kk tpos) (iEn m) (.Call (.Name "enumerate" p) [e] [] pos) :=
  ⟨fun pins s τ H R I ⟨σ, h, μ, rs, rh, q⟩ => (pi_enumA hg hm (pa_cons he pa_nil hs) hs1).run pins s τ H R I (go rs rh q fun d h1 v H1 μ1 s1 rs1 rh1 rd q1 => by
    unfold enV at q1
    cases rd with
    | tup ta rr => exact ⟨_, _, rfl, .inr ⟨ta.sq, q1.now rh1 (walk_enT fun H μ h st _ _ => ⟨_, (ta.stp0 st).sq, rr.stp0 st⟩)⟩⟩
    | fro ta nm rr => exact ⟨_, _, rfl, .inl ⟨SqL.of ta, q1.now rh1 (walk_enL fun H μ h st _ _ => ⟨_, SqL.of (st.keep _ _ ta nm), rr.stp0 st⟩)⟩⟩
    | ref hm =>
      dsimp only at q1
      split at q1
      · rename_i ds eh
        cases rh1.obj _ _ _ (listAt_some eh) hm with
        | lst ha rr =>
          refine ⟨_, _, rfl, .inl ⟨SqL.of ha, q1.now rh1 (walk_enL fun H μ h st rh' g => ?_)⟩⟩
          cases rh'.obj _ _ _ (listAt_some g) (st.pre _ _ hm) with
          | lst ha' rr' => exact ⟨_, SqL.of ha', rr'⟩
      · exact q1.elim
    | _ => exact q1.elim)⟩
end
end Q

/-! Q25: [(k, d[k]) for k in d], d a dict with tuples as keys. -/
namespace Q
open PySem PySem.Spec PyProof.Rows L2
/-- the keys of the locked dict -/
def ItX (d : Addr) (od : Obj) (u : HO) (es : List DictEntry) : It := ⟨fun i H => H d = some (.frz od u) ∧ i < es.length, fun i H x H' => H' = H ∧ ∃ en q, es[i]? = some en ∧ en.key = .ref q ∧ x = .ref q, fun i H => H d = some (.frz od u) ∧ es.length ≤ i⟩
section
variable {P : Program} {w : World} {K : PySem.W.Frag} {tg : Expr} {d : Addr} {od : Obj}
theorem turn_keysX {u : HO} {es : List DictEntry} {ep : Nat} (it : Addr) (hod : od.data = .dict es.toArray ep) (hk : ∀ (i : Nat) (en : DictEntry), es[i]? = some en → ∃ q, en.key = .ref q) : Turn P w K tg (ItX d od u es) [it] it (fun i h => h.IsKeyIter it d i es.length ep) where
  mem := by simp
  obj := fun i h st b hb => by
    have e : b = it := by simpa using hb
    subst e
    obtain ⟨oi, e, c, dd⟩ := st
    exact ⟨oi, e, fun v z => by rw [dd] at z; cases z⟩
  keep := fun i h h' st k => st.at fun oi e => k it (by simp) oi e
  item := by
    intro X hP hw hK hc i pins s σ H E I hf st hg
    subst hP hw hK
    obtain ⟨hd, hi⟩ := hg
    obtain ⟨f0, f1, f2, f3, f4, f5⟩ := hf it (by simp)
    obtain ⟨hgd, _⟩ := I.hok d _ hd
    have hen : es[i]? = some es[i] := List.getElem?_eq_getElem hi
    obtain ⟨q, hq⟩ := hk i _ hen
    refine next_key_item st hgd hod (by simp) (en := es[i]) (by rw [List.getElem?_toArray]; exact hen) fun h' st' sb => ?_
    have I1 : Inv X pins σ H { s with heap := h' } := I.turned (t' := s.toks) (fun b ob hb e => (sb.2 b hb).trans e) f0 f1 f3 f4 f5
    obtain ⟨oi, e, c, dd⟩ := id st'
    exact ⟨es[i].key, rfl, go_of (s := { s with heap := h' }) e c dd (by decide) ⟨.ref q, H, I1, hq, ⟨rfl, es[i], q, hen, hq, rfl⟩, st', fun b hb => (hf b hb).1⟩⟩
  done := by
    intro X hP hw hK hc i pins s σ H E I hf st hg
    subst hP hw hK
    obtain ⟨hd, hi⟩ := hg
    obtain ⟨f0, f1, f2, f3, f4, f5⟩ := hf it (by simp)
    obtain ⟨hgd, _⟩ := I.hok d _ hd
    exact next_key_end (I.ok.hd hc) st hgd hod (by simp) hi fun h' eb => ⟨rfl, I.turned (t' := s.toks) (fun b ob hb e => eb b ob hb e) f0 f1 f3 f4 f5⟩
  self := fun A i s Q E st h => wpAny_pyIter_keyiter st h
end
def iKeysX (td : TE) : TI := fun σ H R => td σ H fun x H1 => ∃ d od es, x = .ref d ∧ H1 d = some (.frz od (dxO d es)) ∧ (d == sysModules) = false ∧ (∀ (i : Nat) (en : DictEntry), es[i]? = some en → ∃ q, en.key = .ref q) ∧ R (ItX d od (dxO d es) es) H1
/-- d[k], d locked -/
def rFz (P : Program) (w : World) (K : PySem.W.Frag) : R2 := fun v u H Q => ∃ (d : Addr) (od : Obj) (xs : List (NestedKey × Addr × Value)) (q : Addr) (k : NestedKey) (b : Addr) (y : Value) (z : V), v = .ref d ∧ u = .ref q ∧ H d = some (.frz od (dxO d (xs.map (entryOfKey (nestedKind P w))))) ∧
  (xs.map (·.1)).Nodup ∧ (∀ x ∈ xs, x.1.depth ≤ 8 ∧ ∃ dd μ, nk dd = some x.1 ∧ RD K H μ dd (.ref x.2.1)) ∧ atKey xs k = some (b, y) ∧ k.depth ≤ 8 ∧ (∃ dq μ, nk dq = some k ∧ RD K H μ dq (.ref q)) ∧ RelV z y ∧ Q z H
section
variable {X : Cx}
theorem pi_keysX {tg e : Expr} {td : TE} (he : PE X e td) : PI X tg e (iKeysX td) := by
  refine ⟨fun pins s σ H R I h => ?_⟩
  refine thn (he.run pins s σ H _ I h) fun u s1 ⟨x, H1, I1, rx, d, od, es, ex, hd, hs, hk, q⟩ => ?_
  subst ex
  obtain rfl : u = Value.ref d := rx
  obtain ⟨hgd, ⟨o, ep, ho, hx, hdt⟩, _, _⟩ := I1.hok d _ hd
  rw [hgd] at ho
  cases ho
  refine iter_keys hs hgd hx hdt (pi_one (tk := s1.toks) I1 _ (turn_keysX _ hdt hk) ⟨_, Heap.get?_push_size _ rfl, rfl, ?_⟩ q)
  simp
theorem ixFz (hu : X.A.units + 64 < cLine) : IxR X (rFz X.prog X.w X.K) := fun value slice pins s σ H v u v' u' Q I rv ru ⟨d, od, xs, q, k, b, y, z, ev, eu, hd, nd, hks, ha, hdp, ⟨dq, μ, hnq, rq⟩, rz, hq⟩ hs => by
  subst ev eu
  cases rv; cases ru
  obtain ⟨hgd, ⟨o, ep, ho, hx, hdt⟩, _, _⟩ := I.hok d _ hd
  have hD : s.heap.DictOfH (nestedKind X.prog X.w) d xs := ⟨o, _, ep, ho, hx, hdt, by simp, fun x hx => let ⟨h1, dd, μ, h2, h3⟩ := hks x hx; ⟨RD.nested I _ _ _ _ h3 rfl h2, h1⟩, nd⟩
  refine tail_any hD.typeIs PySem.F.slot_dict_getitem.lookup (wpAny_getItem_heap (show (nestedKind X.prog X.w).room X.A.in1 from ?_) (key_is I rq hnq hdp) hD ha ?_) hs
  · show X.A.units + 1 + 8 < cLine
    omega
  · exact ⟨z, H, I.tok _, rz, hq⟩
def itemsV (x : D) (h : AH) : Res D := match objAt h x with
  | some (.dt kvs) => .ok (.fro (kvs.map fun p => .tup [p.1, p.2])) h
  | _ => .stuck
def eDItems (i j : Nat) : M := fun σ h => match σ[i]? with
  | some (some x) => if j < σ.length then itemsV x h else .stuck
  | _ => .stuck
theorem paired_at {α β : Type} {F : α → β → Prop} {l₁ : List α} {l₂ : List β} (r : Paired F l₁ l₂) : ∀ {i : Nat} {b : β}, l₂[i]? = some b → ∃ a, l₁[i]? = some a ∧ F a b := by
  induction r with
  | nil => intro i b e; simp at e
  | @cons a b l₁ l₂ r t ih =>
    intro i c e
    cases i with
    | zero => simp at e; subst e; exact ⟨a, rfl, r⟩
    | succ i => simpa using ih (by simpa using e)
theorem atKey_at {xs : List (NestedKey × Addr × Value)} (nd : (xs.map (·.1)).Nodup) : ∀ {i : Nat} {x : NestedKey × Addr × Value}, xs[i]? = some x → atKey xs x.1 = some x.2 := by
  induction xs with
  | nil => intro i x e; simp at e
  | cons y ys ih =>
    intro i x e
    rw [List.map_cons, List.nodup_cons] at nd
    cases i with
    | zero => simp at e; subst e; simp [atKey]
    | succ i =>
      have e' : ys[i]? = some x := by simpa using e
      have hne : y.1 ≠ x.1 := fun z => nd.1 (by rw [z]; exact List.mem_map_of_mem (List.mem_of_getElem? e'))
      have := ih nd.2 e'
      simp [atKey, hne] at this ⊢
      exact this
theorem q_ditems {W : WX} {i j : Nat} {x y : Str} {scope : Scope} {pos pt p1 p2 p3 p4 pg pi : Pos} {k0 : Nat} (hu : X.A.units + 64 < cLine) (hc : X.calm = true) (hN : X.N.Nodup) (hij : i ≠ j) (ok : BlkOk X.N X.env.scope scope [(y, j)]) (hi : PE X (.Name x pi) (tVar i))
    (hg : ∀ (s : Shared) (H : Hp) (C : Addr) (cl : List (Str × Addr)) (fp : List Addr), PG (X.blk s H scope (compEnvC scope cl C X.env) fp) (.Name y pg) (gName j))
    (h1 : ∀ (s : Shared) (H : Hp) (C : Addr) (cl : List (Str × Addr)) (fp : List Addr), PE (X.blk s H scope (compEnvC scope cl C X.env) fp) (.Name y p1) (tVar j))
    (h2 : ∀ (s : Shared) (H : Hp) (C : Addr) (cl : List (Str × Addr)) (fp : List Addr), PE (X.blk s H scope (compEnvC scope cl C X.env) fp) (.Name x p2) (tVar i))
    (h3 : ∀ (s : Shared) (H : Hp) (C : Addr) (cl : List (Str × Addr)) (fp : List Addr), PE (X.blk s H scope (compEnvC scope cl C X.env) fp) (.Name y p3) (tVar j)) (hs : ∀ z, foldedSetIterable (.Name x pi) X.env z = pure z := by intro _; rfl) :
    QE X W (eDItems i j) (.ListComp (.Tuple [.Name y p1, .Subscript (.Name x p2) (.Name y p3) p4] k0 pt) [⟨.Name y pg, .Name x pi, [], 0⟩] scope pos) :=
  QE.of (pe_lock (pe_lc (te := tTup (tCons (tVar j) (tCons (tOp (rFz X.prog X.w X.K) (tVar i) (tVar j)) tNil))) hc hN (pi_keysX hi) ok hg (fun _ _ _ _ _ => pts_nil) (fun s H C cl fp => pe_tup (pa_cons (h1 s H C cl fp) (pa_cons (pe_ix (ixFz (X := X.blk s H scope (compEnvC scope cl C X.env) fp) hu) (h2 s H C cl fp) (h3 s H C cl fp) (by intro _ _; rfl)) pa_nil))) hs)) fun τ H Q ⟨σ, h, μ, rs, rh, q⟩ => by
    unfold eDItems at q
    split at q
    · rename_i dx ei
      obtain ⟨vx, ev, rx⟩ := rs.2 i _ ei
      split at q
      rotate_left
      · exact q.elim
      rename_i hjl
      rw [rs.1] at hjl
      unfold itemsV at q
      split at q
      · rename_i kvs eo
        obtain ⟨n, b, rfl, hm, rfl, ro⟩ := objAt_ok rh rx eo
        cases ro with
        | @dt _ _ xs he hz hl hp hn =>
          have hlen : kvs.length = xs.length := Paired.length hp
          refine ⟨b, _, he, True.intro, fun od => ?_⟩
          generalize hu0 : dxO b (xs.map (entryOfKey (nestedKind X.prog X.w))) = u at he
          generalize hHl : upd H b (.frz od u) = Hl
          have hlb : Hl b = some (.frz od u) := by rw [← hHl, upd_same]
          have stl : Stp0 μ μ H Hl := by rw [← hHl]; exact (Stp.wrote rh hm).toStp0
          have hln : ∀ a, Hl a = none → H a = none := fun a e => by
            by_cases hab : a = b
            · rw [hab, hlb] at e; cases e
            · rw [← hHl, upd_ne hab] at e; exact e
          refine ⟨.ref b, ev, b, od, xs.map (entryOfKey (nestedKind X.prog X.w)), rfl, by rw [hlb, ← hu0], hz, fun i en e => ?_, fun D hD => ?_⟩
          · rw [List.getElem?_map] at e
            obtain ⟨x, _, rfl⟩ := Option.map_eq_some_iff.mp e
            exact ⟨_, rfl⟩
          rw [hu0]
          have hDb : D ≠ b := fun z => by rw [z, hlb] at hD; cases hD
          have hDm : D ∉ μ := rh.fresh (hln D hD)
          generalize hH2 : upd Hl D (.lst []) = H2
          have st2 : Stp0 μ (μ.hide D) H H2 := by
            refine stl.trans ?_
            rw [← hH2]
            exact ⟨fun _ _ z => z, fun a m nm => by
              rcases m with m | m
              · exact absurd (.inl m) nm
              · rcases List.mem_cons.mp m with rfl | m
                · exact hD
                · exact absurd (.inr m) nm, fun a o e _ => by rw [upd_ne (ne_of_none e hD)]; exact e⟩
          -- the state at turn i
          let Pv : Nat → Hp → Prop := fun i H1 => Stp0 (μ.hide D) (μ.hide D) H2 H1 ∧ (∀ a o, Hl a = some o → H1 a = some o) ∧ ∃ acc, H1 D = some (.lst acc) ∧ acc.length = i ∧ RDs X.K H1 (μ.hide D) ((kvs.take i).map fun p => .tup [p.1, p.2]) acc
          have hel : (xs.map (entryOfKey (nestedKind X.prog X.w))).length = kvs.length := by rw [List.length_map, hlen]
          refine ⟨fun i m H1 => m = kvs.length - i ∧ i ≤ kvs.length ∧ Pv i H1, ⟨kvs.length, rfl, Nat.zero_le _, ⟨fun _ _ z => z, fun a m nm => absurd m nm, fun _ _ z _ => z⟩, fun a o e => by rw [← hH2, upd_ne (ne_of_none e hD)]; exact e, [], by rw [← hH2, upd_same], rfl, .nil⟩, ?_⟩
          rintro i' m H1 ⟨rfl, hi', s1, S, acc, hA, hal, racc⟩
          have hb1 : H1 b = some (.frz od u) := S b _ hlb
          by_cases hlt : i' < kvs.length
          · refine .inr ⟨⟨hb1, by rw [hel]; exact hlt⟩, Pv (i' + 1), fun H' p' => ⟨kvs.length - (i' + 1), by omega, rfl, hlt, p'⟩, fun xv H' y => ?_⟩
            obtain ⟨rfl, en, qa, e1, e2, rfl⟩ := y
            rw [List.getElem?_map] at e1
            obtain ⟨xe, ex, rfl⟩ := Option.map_eq_some_iff.mp e1
            obtain rfl : xe.2.1 = qa := by
              have : (Value.ref xe.2.1) = .ref qa := e2
              cases this; rfl
            obtain ⟨pe, ep, rt⟩ := paired_at hp ex
            obtain ⟨zv, rz, rdz⟩ := rt.val
            have stA : Stp0 μ (μ.hide D) H H' := st2.trans s1
            have rk : RD X.K H' (μ.hide D) pe.1 (.ref xe.2.1) := rt.rk.stp0 stA
            have rdz' : RD X.K H' (μ.hide D) pe.2 zv := rdz.stp0 stA
            show gName j (.ref xe.2.1) (wipe τ [j]) H' _
            have hwl : j < (wipe τ [j]).length := by rw [wipe_length]; exact hjl
            have g1 : ((wipe τ [j]).set j (some (V.ref xe.2.1)))[j]? = some (some (.ref xe.2.1)) := List.getElem?_set_self hwl
            have g2 : ((wipe τ [j]).set j (some (V.ref xe.2.1)))[i]? = some (some (.ref b)) := by
              rw [List.getElem?_set_ne (Ne.symm hij), wipe_get (by simpa using hij)]; exact ev
            refine ⟨wipe_ext (by rw [List.length_set, wipe_length]) (fun l hl => ?_), ?_⟩
            · have hne : j ≠ l := fun z => hl (by simp [z])
              rw [List.getElem?_set_ne hne]
              exact wipe_get (by simpa using Ne.symm hne)
            unfold tYes
            refine (show ∀ {c : Prop} {p q : Prop} [Decidable c], c → p → (if c then p else q) from fun hc hp => by rw [if_pos hc]; exact hp) rfl ?_
            refine ⟨_, g1, _, g2, _, g1, b, od, xs, xe.2.1, xe.1, xe.2.1, xe.2.2, zv, rfl, rfl, by rw [hu0]; exact hb1, hn, fun x hx => ?_, atKey_at hn ex, rt.dep, ⟨pe.1, _, rt.key, rk⟩, rz, by show 2 ≤ sizeLine; decide, fun p hpn => ?_⟩
            · obtain ⟨l, el⟩ := List.mem_iff_getElem?.mp hx
              obtain ⟨pl, _, rl⟩ := paired_at hp el
              exact ⟨rl.dep, pl.1, _, rl.key, rl.rk.stp0 stA⟩
            · have hpD : p ≠ D := fun z => by rw [z, hA] at hpn; cases hpn
              have hpm : p ∉ μ.hide D := fun m => by
                rcases m with m | m
                · obtain ⟨o, e⟩ := rh.mem (.inl m)
                  by_cases hpb : p = b
                  · rw [hpb, hb1] at hpn; cases hpn
                  · rw [S p o (by rw [← hHl, upd_ne hpb]; exact e)] at hpn; cases hpn
                · rcases List.mem_cons.mp m with rfl | m
                  · exact hpD rfl
                  · obtain ⟨o, e⟩ := rh.fo p m
                    by_cases hpb : p = b
                    · rw [hpb, hb1] at hpn; cases hpn
                    · rw [S p o (by rw [← hHl, upd_ne hpb]; exact e)] at hpn; cases hpn
              have sl : Stp0 (μ.hide D) (μ.hide D) H' (upd H' p (.tup [.ref xe.2.1, zv])) := (Stp.laid hpn).toStp0
              have pk : Stp0 (μ.hide D) (μ.hide D) (upd H' p (.tup [.ref xe.2.1, zv])) (upd (upd H' p (.tup [.ref xe.2.1, zv])) D (.lst (acc ++ [.ref p]))) := Stp0.poke (show D ∈ (μ.hide D).f from List.mem_cons_self)
              refine ⟨acc, by rw [upd_ne (Ne.symm hpD)]; exact hA, by rw [hal]; omega, (s1.trans sl).trans pk, fun a o e => ?_, acc ++ [.ref p], upd_same, by simp [hal], ?_⟩
              · have haD : a ≠ D := fun z => by rw [z, hD] at e; cases e
                have hap : a ≠ p := fun z => by rw [z] at e; rw [S p o e] at hpn; cases hpn
                rw [upd_ne haD, upd_ne hap]
                exact S a o e
              · rw [List.take_add_one, ep, List.map_append]
                refine RDs.append ((racc.stp0 sl).stp0 pk) (.cons ?_ .nil)
                exact .tup (.inl ⟨.inl (by rw [upd_ne hpD, upd_same]), hpm⟩) (.cons ((rk.stp0 sl).stp0 pk) (.cons ((rdz'.stp0 sl).stp0 pk) .nil))
          · have eI : i' = kvs.length := by omega
            subst eI
            refine .inl ⟨⟨hb1, by rw [hel]; exact Nat.le_refl _⟩, hb1, ?_⟩
            have sb : Stp0 μ μ H1 (upd H1 b u) := ⟨fun _ _ z => z, fun a m nm => absurd m nm, fun a o e nm => by
              have hne : a ≠ b := fun z => nm (z ▸ mem_at hm)
              rw [upd_ne hne]; exact e⟩
            have back : ∀ a o, H a = some o → a ≠ b → (upd H1 b u) a = some o := fun a o e hne => by
              rw [upd_ne hne]
              exact S a o (by rw [← hHl, upd_ne hne]; exact e)
            have sF : Stp μ μ H (upd H1 b u) := ⟨⟨fun _ _ z => z, fun a m nm => absurd m nm, fun a o e nm => back a o e fun z => nm (z ▸ mem_at hm)⟩, rfl, fun a o m e => back a o e fun z => rh.dj b (List.mem_of_getElem? hm) (z ▸ m)⟩
            refine q _ _ μ sF (rh.stp sF fun a m => ?_) ?_
            · by_cases hab : a = b
              · rw [hab, upd_same, he]
              · obtain ⟨o, e⟩ := rh.mem (.inl m)
                rw [e]
                exact back a o e hab
            · refine .fro (by rw [upd_ne hDb]; exact hA) hDm ?_
              have sh : Stp0 (μ.hide D) μ H1 H1 := ⟨fun _ _ z => z, fun a m nm => (nm (m.elim .inl fun z => .inr (List.mem_cons_of_mem _ z))).elim, fun a o e _ => e⟩
              rw [List.take_length] at racc
              exact (racc.stp0 sh).stp0 sb
      · exact q.elim
    · exact q.elim
end
end Q

/-! Q26: x[::-1]. -/
namespace HT
open PySem PySem.Spec PyProof.Rows L2
section
variable {prog : Program} {w : World} {A : Around} {E : Value → Shared → Prop} {s : Shared}
theorem q_adjust_rev (n : Nat) : Builtin.Slice.sliceAdjust none none (-1) (n : Int) = ((n : Int) - 1, -1) := by
  unfold Builtin.Slice.sliceAdjust
  rfl
theorem q_places_rev (n : Nat) : Builtin.Slice.slicePlaces ((n : Int) - 1) (-1) (-1) = n := by
  unfold Builtin.Slice.slicePlaces
  simp
  omega
theorem q_pick_rev (xs : Array Value) : ((List.range xs.size).filterMap fun (m : Nat) => xs[(((xs.size : Nat) : Int) - 1 + (m : Int) * (-1)).toNat]?).toArray = xs.toList.reverse.toArray := by
  congr 1
  have e : ∀ m ∈ List.range xs.size, xs[(((xs.size : Nat) : Int) - 1 + (m : Int) * (-1)).toNat]? = xs.toList.reverse[m]? := fun m hm => by
    have hm := List.mem_range.mp hm
    rw [List.getElem?_reverse (by simpa using hm), Array.getElem?_toList]
    congr 1
    simp
    omega
  have fc : ∀ {f g : Nat → Option Value} (l : List Nat), (∀ m ∈ l, f m = g m) → l.filterMap f = l.filterMap g := fun {f g} l => by
    induction l with
    | nil => intro _; rfl
    | cons a l ih =>
      intro h
      rw [List.filterMap_cons, List.filterMap_cons, h a List.mem_cons_self, ih fun m q => h m (List.mem_cons_of_mem _ q)]
  rw [fc _ e]
  have : ∀ (ys : List Value), (List.range ys.length).filterMap (fun m => ys[m]?) = ys := fun ys => by
    apply List.ext_getElem?
    intro i
    induction ys generalizing i with
    | nil => rfl
    | cons y ys ih =>
      rw [List.length_cons, List.range_succ_eq_map, List.filterMap_cons]
      simp only [List.getElem?_cons_zero, List.filterMap_map]
      cases i with
      | zero => rfl
      | succ i =>
        rw [List.getElem?_cons_succ, List.getElem?_cons_succ]
        exact ih i
  have h := this xs.toList.reverse
  rw [List.length_reverse, Array.length_toList] at h
  exact h
theorem q_sliceApplied_rev {sl : Addr} {vl vu vs : Value} {n : Nat} {Q : Int × Int × Nat → Shared → Prop} (hs : s.heap.IsSliceOf sl vl vu vs) (pl : IsPart vl none) (pu : IsPart vu none) (ps : IsPart vs (some (-1)))
    (h : Q ((n : Int) - 1, -1, n) s) : wpAny (model prog w) A (Builtin.Slice.sliceApplied (.ref sl) (pure (n : Int))) Q E s := by
  obtain ⟨os, hos, hcs, hds⟩ := id hs
  unfold Builtin.Slice.sliceApplied Builtin.Slice.sliceFields
  refine wpAny_bind (wpAny_bind (wpAny_field hos hds (x := vl) rfl (wpAny_bind (wpAny_field hos hds (x := vu) rfl (wpAny_bind (wpAny_field hos hds (x := vs) rfl (wpAny_pure ?_)))))))
  refine wpAny_bind (slicePart_ ps ?_)
  show wpAny _ _ (if ((-1 : Int) == 0) = true then _ else _) _ _ s
  rw [if_neg (by decide)]
  refine wpAny_bind (slicePart_ pl (wpAny_bind (slicePart_ pu (wpAny_bind (wpAny_pure ?_)))))
  show wpAny _ _ (match Builtin.Slice.sliceAdjust none none (-1) (n : Int) with | (lo, hi) => pure (lo, (-1 : Int), Builtin.Slice.slicePlaces lo hi (-1))) _ _ s
  rw [q_adjust_rev n]
  show wpAny _ _ (pure ((n : Int) - 1, (-1 : Int), Builtin.Slice.slicePlaces ((n : Int) - 1) (-1) (-1))) _ _ s
  rw [q_places_rev]
  exact wpAny_pure h
theorem q_getItem_tuple_rev {t sl : Addr} {items : Array Value} {vl vu vs : Value} {Q : Value → Shared → Prop} (ht : IsTup s.heap t items) (hs : s.heap.IsSliceOf sl vl vu vs) (pl : IsPart vl none) (pu : IsPart vu none) (ps : IsPart vs (some (-1)))
    (h : Q (.ref s.heap.objs.size) { s with heap := s.heap.push { cls := .type "tuple", data := .seq items.toList.reverse.toArray } })
    (hsz : items.size ≤ sizeLine) : wpAny (model prog w) A (getItem (.ref t) (.ref sl)) Q E s := by
  have htake : sizeOk (.seq items.toList.reverse.toArray) := by
    show items.toList.reverse.toArray.size ≤ sizeLine
    rw [List.size_toArray, List.length_reverse, Array.length_toList]
    exact hsz
  obtain ⟨os, hos, hcs, hds⟩ := id hs
  have hTs : s.TypeIs (.ref sl) "slice" := ⟨os, hos, hcs⟩
  unfold getItem
  try with_reducible refine wpAny_holding ?_
  first | refine wpAny_bind (wpAny_pure ?_) | skip
  refine wpAny_bind (wpAny_sequenceKey ht.typeIs (by decide) ?_)
  refine wpAny_bind (wpAny_callSpecial?_slot (name := Str.ofString "__getitem__") ht.typeIs PyProof.Rows.slot_tuple_getitem
    (wpAny_call_entry PyProof.Rows.slot_tuple_getitem ht.typeIs entry_tuple_getitem ?_ (args_tuple_getitem _ _)))
  show wpAny _ _ (Builtin.Tuple.tupleItemsOf (.ref t) >>= _) _ _ s
  refine wpAny_bind (tupleItemsOf_ ht ?_)
  refine wpAny_bind (wpAny_typeOf hTs ?_)
  rw [if_pos (by decide)]
  refine wpAny_bind (q_sliceApplied_rev hs pl pu ps ?_)
  have hno : ¬ ((((items.size : Nat) : Int) - 1 == 0 && (-1 : Int) == 1 && items.size == items.size) = true) := by
    intro q
    rw [Bool.and_eq_true, Bool.and_eq_true] at q
    exact absurd q.1.2 (by decide)
  show wpAny _ _ (if (((items.size : Nat) : Int) - 1 == 0 && (-1 : Int) == 1 && items.size == items.size) = true then _ else _) _ _ s
  rw [if_neg hno, q_pick_rev]
  first
    | exact wpAny_bind (m := Builtin.Tuple.tupleExact _) (wpAny_newObj_type (wpAny_pure ⟨_, rfl, wpAny_pure h⟩) htake)
    | exact wpAny_bind (m := Builtin.Tuple.tupleExact _) (wpAny_newObj_type (wpAny_bind (wpAny_pure (wpAny_pure ⟨_, rfl, wpAny_pure h⟩))) htake)
    | exact wpAny_bind (wpAny_bind (m := Builtin.Tuple.tupleExact _) (wpAny_newObj_type (wpAny_pure (wpAny_pure ⟨_, rfl, wpAny_pure h⟩)) htake))
    | exact wpAny_bind (wpAny_bind (m := Builtin.Tuple.tupleExact _) (wpAny_newObj_type (wpAny_pure ⟨_, rfl, wpAny_pure h⟩) htake))
end
end HT
namespace L2
open PySem PySem.Spec PyProof.Rows
def tRevA (K : PySem.W.Frag) (te : TE) : TE := fun σ H Q => te σ H fun x H1 => ∃ a xs, x = .ref a ∧ ((SqL K H1 a xs ∧ ∀ p, H1 p = none → Q (.ref p) (upd H1 p (.lst xs.reverse))) ∨ (SqT K H1 a xs ∧ ∀ p, H1 p = none → Q (.ref p) (upd H1 p (.tup xs.reverse))))
section
variable {X : Cx}
theorem pe_revA {e : Expr} {te : TE} {k : Nat} {p1 p2 p3 pos : Pos} (he : PE X e te) : PE X (.Subscript e (.Slice none none (some (.UnaryOp .USub (.Constant (.int 1) k p1) p2)) p3) pos) (tRevA X.K te) := by
  refine ⟨fun pins s σ H Q I h => ?_⟩
  refine Subscript_ (thn (he.run pins s σ H _ I h) fun v s1 ⟨x, H1, I1, r1, q1⟩ => ?_)
  obtain ⟨a, xs, ex, q1⟩ := q1
  subst ex
  cases r1
  have hst : PO X (some (.UnaryOp .USub (.Constant (.int 1) k p1) p2)) (tPart (tUn (rU fun i => .int (-i)) (tC (.int 1)))) := po_some (pe_un un_neg pe_int)
  refine wpAny_Slice (thn (po_none.run pins s1 σ H1 (fun o H2 => o = none ∧ H2 = H1) I1 ⟨rfl, rfl⟩) fun vl s2 ⟨l, H2, I2, pl, el, e2⟩ => ?_)
  subst el e2
  refine thn (po_none.run pins s2 σ H2 (fun o H3 => o = none ∧ H3 = H2) I2 ⟨rfl, rfl⟩) fun vu s3 ⟨u, H3, I3, pu, eu, e3⟩ => ?_
  subst eu e3
  refine thn (hst.run pins s3 σ H3 (fun o H4 => o = some (-1) ∧ H4 = H3) I3 ⟨1, rfl, -1, rfl, rfl, rfl⟩) fun vs s4 ⟨o, H4, I4, ps, eo, e4⟩ => ?_
  subst eo e4
  have I5 : Inv X pins σ H4 { s4 with heap := s4.heap.push { cls := .type "slice", data := .fields #[vl, vu, vs] } } := I4.kept (t' := s4.toks) fun b ob q => Heap.get?_push_of_some _ q
  show wpAny (model X.prog X.w) X.A (subscriptTail e (.Slice none none (some (.UnaryOp .USub (.Constant (.int 1) k p1) p2)) p3) (.ref a) (.ref s4.heap.objs.size)) (EP X pins σ Q) X.xe { s4 with heap := s4.heap.push { cls := .type "slice", data := .fields #[vl, vu, vs] } }
  rcases q1 with ⟨hx, q⟩ | ⟨hx, q⟩
  · obtain ⟨its, r, ht, hz⟩ := I5.list hx
    have hlen := r.length
    refine tail_any (ops := [.ref a, .ref s4.heap.objs.size]) ht.isList.typeIs (PySem.slot_list_getitem.lookup) ?_ (by with_unfolding_all rfl)
    refine wpAny_getItem_list_slice ht.isList (Heap.IsSliceOf.new _ vl vu vs) pl pu ps (by decide) ?_ (by rw [List.size_toArray]; omega)
    rw [PySem.W.krv_pick]
    refine ⟨.ref _, _, I5.laid (t' := s4.toks) (o := .lst xs.reverse) (fun b ob q => Heap.get?_push_of_some _ q) (Nat.le_refl _) ?_, rfl, q _ (I5.hok.fresh (Nat.le_refl _))⟩
    exact ⟨by rw [List.length_reverse]; exact hz, _, 0, r.reverse, Heap.get?_push_size _ rfl⟩
  · obtain ⟨its, r, ht, hz⟩ := I5.tuple hx
    have hlen := r.length
    refine tail_any (ops := [.ref a, .ref s4.heap.objs.size]) ht.typeIs (PyProof.Rows.slot_tuple_getitem.lookup) ?_ (by with_unfolding_all rfl)
    refine HT.q_getItem_tuple_rev ht (Heap.IsSliceOf.new _ vl vu vs) pl pu ps ?_ (by rw [List.size_toArray]; omega)
    refine ⟨.ref _, _, I5.laid (t' := s4.toks) (o := .tup xs.reverse) (fun b ob q => Heap.get?_push_of_some _ q) (Nat.le_refl _) ?_, rfl, q _ (I5.hok.fresh (Nat.le_refl _))⟩
    exact ⟨by rw [List.length_reverse]; exact hz, _, r.reverse, IsTup.new _ _⟩
end
end L2
namespace Q
open PySem PySem.Spec PyProof.Rows L2
section
variable {X : Cx} {W : WX} {pos : Pos}
def revV (x : D) (h : AH) : Res D := match x with
  | .tup ds => .ok (.tup ds.reverse) h
  | x => match lsq h x with
    | some ds => .ok (.fro ds.reverse) h
    | none => .stuck
def eRev (m : M) : M := fun σ h => (m σ h).bind fun x h1 => revV x h1
theorem q_rev {m : M} {e : Expr} {k : Nat} {p1 p2 p3 : Pos} (hm : QE X W m e) : QE X W (eRev m) (.Subscript e (.Slice none none (some (.UnaryOp .USub (.Constant (.int 1) k p1) p2)) p3) pos) :=
  QE.of (pe_revA hm) fun τ H Q ⟨σ, h, μ, rs, rh, q⟩ => go rs rh q fun x h1 v H1 μ1 s1 rs1 rh1 rx q1 => by
    unfold revV at q1
    split at q1
    · cases rx with
      | tup t rr => exact ⟨_, _, rfl, .inr ⟨t.sq, fun p hp => q1 _ _ μ1 (Stp.laid hp) (rh1.laid hp) (RD.tup_laid rh1 hp rr.reverse)⟩⟩
    · split at q1
      · rename_i ds hq
        obtain ⟨p, xs, rfl, hs, rr⟩ := lsq_ok rh1 rx hq
        exact ⟨p, xs, rfl, .inl ⟨hs, fun p hp => q1 _ _ μ1 (Stp.laid hp) (rh1.laid hp) (RD.fro_laid rh1 hp rr.reverse)⟩⟩
      · exact q1.elim
end
end Q

/-! Q27: name = {k: v for ..}. -/
namespace Q
open PySem PySem.Spec PyProof.Rows L2
theorem sw_trueD {kx vx : Expr} {gs : List Comprehension} {scope : Scope} {pos py : Pos} {y : Str} {l : Nat} {env : Env} (hk : env.scope.kind = .function) (hy : env.scope.names.lookup y = some .local) (hl : (py.line == pos.line) = true)
    (ha : (scope.names.any fun (n, k) => n == y && (k == .local || k == .cell)) = false) : swapsWith (.DictComp kx vx gs scope pos) (some (.Name y py)) l env = pure true := by
  have ky : env.kindOf y = some .local := hy
  have hb : env.blockKind = .function := by unfold Env.blockKind; rw [hk]; rfl
  unfold swapsWith
  simp only [hb, ky, ha, Expr.pos, hl]
  rfl
section
variable {X : Cx} {W : WX}
theorem ps_setDc {i : Nat} {y : Str} {py : Pos} {kx vx tg iter : Expr} {ifs : List Expr} {scope : Scope} {own : List (Str × Nat)} {pos spos : Pos} {wi : TI} {g : TG} {tt : TT} {tk tv : TE} (hc : X.calm = true) (hN : X.N.Nodup) (hy : X.N[i]? = some y) (hyl : X.env.scope.names.lookup y = some .local)
    (hsw : swapsWith (.DictComp kx vx [⟨tg, iter, ifs, 0⟩] scope pos) (some (.Name y py)) spos.line X.env = pure true) (hi : PI X tg iter wi) (ok : BlkOk X.N X.env.scope scope own)
    (hg : ∀ (s : Shared) (H : Hp) (C : Addr) (cl : List (Str × Addr)) (fp : List Addr), PG (X.blk s H scope (compEnvC scope cl C X.env) fp) tg g) (ht : ∀ (s : Shared) (H : Hp) (C : Addr) (cl : List (Str × Addr)) (fp : List Addr), PTs (X.blk s H scope (compEnvC scope cl C X.env) fp) ifs tt)
    (hk : ∀ (s : Shared) (H : Hp) (C : Addr) (cl : List (Str × Addr)) (fp : List Addr), PE (X.blk s H scope (compEnvC scope cl C X.env) fp) kx tk)
    (he : ∀ (s : Shared) (H : Hp) (C : Addr) (cl : List (Str × Addr)) (fp : List Addr), PE (X.blk s H scope (compEnvC scope cl C X.env) fp) vx tv) (hs : ∀ x, foldedSetIterable iter X.env x = pure x := by intro _; rfl) :
    PS X (.Assign [.Name y py] (.DictComp kx vx [⟨tg, iter, ifs, 0⟩] scope pos) spos) (tAsg (tDc wi g tt tk tv (own.map (·.2))) (gName i)) := by
  refine ⟨fun pins s σ H D I h => ?_⟩
  rw [exec_Assign_Name_used _ _ _ _ hsw]
  refine wpAny_bind (wpAny_standAt (wpAny_bind ?_))
  show wpAny _ X.A (do let _ ← comprehension (.DictComp kx vx [⟨tg, iter, ifs, 0⟩] scope pos) scope X.env (firstIterPos [⟨tg, iter, ifs, 0⟩] pos) newDict false (eval iter X.env) (some (assign (.Name y py) X.env))) _ _ s
  have h : tDc wi g tt tk tv (own.map (·.2)) σ H (fun x H1 => gName i x σ H1 D.nx) := h
  refine wpAny_bind (thn (dc_core (Qf := fun _ s' => SP X pins D .next s') hc hN I hi ok hg ht hk he hs h fun L C s' m H' I' q hn f => ?_) fun _ s' hq => wpAny_pure (wpAny_pure hq))
  show wpAny _ _ (assign (.Name y py) X.env (.ref L)) _ _ _
  refine wpAny_assign_Name (store_ok2 (v := V.ref L) I' hN hy (.inl hyl) rfl (fun s2 I2 ⟨a, sb, ha⟩ => ?_) (.inr hyl))
  obtain ⟨f0, f1, f2, f3, f4, f5⟩ := f
  have haC : C ≠ a := by
    rcases ha with z | z
    · rw [z]; exact f1
    · exact fun e => f4 y a z e.symm
  refine ⟨m, hn.sameBut sb haC, fun h3 sb3 => ?_⟩
  exact ⟨_, H', I2.turned (t' := s2.toks) (fun b o hb e => (sb3.2 b hb).trans e) f0 f1 f3 f4 f5, q⟩
theorem qs_setDc {it : MI} {g : MG} {t : MB} {mk mv : M} {is : List Nat} {i : Nat} {y : Str} {py : Pos} {kx vx tg iter : Expr} {ifs : List Expr} {scope : Scope} {own : List (Str × Nat)} {pos spos : Pos} (hc : X.calm = true) (hN : X.N.Nodup) (hy : X.N[i]? = some y) (hyl : X.env.scope.names.lookup y = some .local)
    (hsw : swapsWith (.DictComp kx vx [⟨tg, iter, ifs, 0⟩] scope pos) (some (.Name y py)) spos.line X.env = pure true) (hi : QI X W tg it iter) (ok : BlkOk X.N X.env.scope scope own)
    (hg : ∀ (s : Shared) (H : Hp) (C : Addr) (cl : List (Str × Addr)) (fp : List Addr), QG (X.blk s H scope (compEnvC scope cl C X.env) fp) g is tg) (ht : ∀ (s : Shared) (H : Hp) (C : Addr) (cl : List (Str × Addr)) (fp : List Addr), QTs (X.blk s H scope (compEnvC scope cl C X.env) fp) WNever t ifs)
    (hk : ∀ (s : Shared) (H : Hp) (C : Addr) (cl : List (Str × Addr)) (fp : List Addr), QE (X.blk s H scope (compEnvC scope cl C X.env) fp) WNever mk kx)
    (he : ∀ (s : Shared) (H : Hp) (C : Addr) (cl : List (Str × Addr)) (fp : List Addr), QE (X.blk s H scope (compEnvC scope cl C X.env) fp) WNever mv vx) (his : ∀ j, j ∈ is → j ∈ own.map (·.2) := by decide) (hs : ∀ x, foldedSetIterable iter X.env x = pure x := by intro _; rfl) :
    QS X W (sAsg (eDc it g t mk mv (own.map (·.2))) (gSlot i)) (.Assign [.Name y py] (.DictComp kx vx [⟨tg, iter, ifs, 0⟩] scope pos) spos) :=
  PS.of (ps_setDc hc hN hy hyl hsw hi ok (g := tGt X g is) (tt := tT X WNever t) (tk := tE X WNever mk) (tv := tE X WNever mv) hg ht hk he hs) fun D τ H ⟨σ, h, μ, rs, rh, q⟩ =>
    dc_go his τ H _ (goS rs rh q fun d h1 v H1 μ1 s1 rs1 rh1 rd q1 => q1 _ H1 μ1 Stp.refl (rs1.set rd i) rh1)
end
end Q

/-! Q28: short forms; instances and dicts, evaluated. -/
namespace Q
open PySem PySem.Spec PyProof.Rows L2
section
variable {X : Cx} {pos : Pos}
theorem pgn {i : Nat} {x : Str} (hN : X.N.Nodup) (hi : X.N[i]? = some x := by rfl) (hx : Loc X.env.scope x := by first | exact Or.inl rfl | exact Or.inr rfl) (hf : X.fn x = true ∨ X.env.scope.names.lookup x = some .local := by first | exact .inl rfl | exact .inr rfl | assumption) : PG X (.Name x pos) (gName i) := pg_name hN hi hx hf
end
section
variable {σ σ1 : AS} {h h1 : AH} {a b m : M} {r : ML} {c f k : Str} {n i j : Nat} {fs : List (Str × D)} {AT : Str → List Str} {d x y z v : D} {g : List D → AH → Res D} {dfl ds : List D} {mp : MP}
@[simp] theorem run_eAt : eAt AT f m σ h = (m σ h).bind fun x h1 => atV AT f x h1 := rfl
theorem atV_of (e : h[n]? = some (.ins c fs)) (hf : f ∈ AT c) (hv : fs.lookup f = some v) : atV AT f (.ref n) h = .ok v h := by
  unfold atV insAt
  dsimp only
  rw [e]
  dsimp only
  rw [if_pos hf, hv]
@[simp] theorem run_sAtt : sAtt AT f a m σ h = (m σ h).andS σ fun y h1 => (a σ h1).andS σ fun x h2 => putV AT f y x σ h2 := rfl
theorem putV_of (e : h[n]? = some (.ins c fs)) (hf : f ∈ AT c) (hl : fs.length < 1000) : putV AT f y (.ref n) σ h = .nx σ (h.set n (.ins c (putD f y fs))) := by
  unfold putV insAt
  dsimp only
  rw [e]
  dsimp only
  rw [if_pos ⟨hf, hl⟩]
def meK (c k : Str) (g : List D → AH → Res D) (dfl : List D) (r : ML) (σ : AS) (x : D) (h1 : AH) : Res D := match insAt h1 x with
  | some (_, c', fs) => if c' = c ∧ fs.lookup k = none then (r σ h1).bind fun ds h2 => g (x :: (ds ++ dfl)) h2 else .stuck
  | none => .stuck
@[simp] theorem run_eMe : eMe c k g dfl a r σ h = (a σ h).bind fun x h1 => meK c k g dfl r σ x h1 := rfl
theorem meK_of (e : h[n]? = some (.ins c fs)) (hk : fs.lookup k = none) : meK c k g dfl r σ (.ref n) h = (r σ h).bind fun ds h2 => g (.ref n :: (ds ++ dfl)) h2 := by
  unfold meK insAt
  dsimp only
  rw [e]
  dsimp only
  rw [if_pos ⟨rfl, hk⟩]
@[simp] theorem run_eMk : eMk c g dfl r σ h = (r σ h).bind fun ds h1 => mkV h1.length (g (.ref h1.length :: (ds ++ dfl)) (h1 ++ [.ins c []])) := rfl
@[simp] theorem mkV_ok : mkV n (.ok .non h) = .ok (.ref n) h := rfl
@[simp] theorem run_pNil : pNil σ h = .ok [] h := rfl
@[simp] theorem run_pCons : pCons a b mp σ h = (a σ h).bind fun x h1 => (b σ h1).bind fun y h2 => (mp σ h2).bind fun ps h3 => .ok ((x, y) :: ps) h3 := rfl
@[simp] theorem run_eDisp : eDisp mp σ h = (okOnly (mp σ h)).bind fun ps h1 => dispV ps h1 := rfl
@[simp] theorem run_eRev : eRev m σ h = (m σ h).bind fun x h1 => revV x h1 := rfl
@[simp] theorem revV_tup : revV (.tup ds) h = .ok (.tup ds.reverse) h := rfl
@[simp] theorem revV_fro : revV (.fro ds) h = .ok (.fro ds.reverse) h := rfl
@[simp] theorem run_iEn : iEn m σ h = (m σ h).bind fun x h1 => enV x h1 := rfl
@[simp] theorem enV_tup : enV (.tup ds) h = .ok (enumD ds, fun _ => True) h := rfl
@[simp] theorem enV_fro : enV (.fro ds) h = .ok (enumD ds, fun _ => True) h := rfl
theorem run_eDItems (e : σ[i]? = some (some x)) (hj : j < σ.length) : eDItems i j σ h = itemsV x h := by
  unfold eDItems
  rw [e]
  dsimp only
  rw [if_pos hj]
theorem itemsV_of {kvs : List (D × D)} (e : h[n]? = some (.dt kvs)) : itemsV (.ref n) h = .ok (.fro (kvs.map fun p => .tup [p.1, p.2])) h := by
  unfold itemsV objAt
  dsimp only
  rw [e]
@[simp] theorem run_eDc {it : MI} {g : MG} {t : MB} {mk mv : M} {vs : List Nat} : eDc it g t mk mv vs σ h = (it σ h).bind fun p h1 => (dcL p.2 g t mk mv (wipeA σ vs) p.1 [] h1).bind fun kvs h2 => .ok (.ref h2.length) (h2 ++ [.dk kvs]) := rfl
@[simp] theorem run_sAugS {p : Int → Int → Int} : sAugS p a b m σ h = (a σ h).andS σ fun x h1 => (b σ h1).andS σ fun y h2 => (lif (dIxK x y h2)).andS σ fun o h3 => (m σ h3).andS σ fun z h4 => augV p x y o z σ h4 := rfl
@[simp] theorem augV_int {p : Int → Int → Int} {u w : Int} : augV p x y (.int u) (.int w) σ h = stH σ (dSet x y (.int (p u w)) h) := rfl
end
end Q

/-! Q29: a dict of the module with texts as keys. -/
namespace Q
open PySem PySem.Spec PyProof.Rows L2
/-- the entries are these, the values ints, bools, texts -/
def dkOk (K : PySem.W.Frag) : List DictEntry → List (Str × He.Dv) → Bool
  | [], [] => true
  | e :: es, (k, v) :: kvs => (match e.key with | .str x _ => decide (x = k) | _ => false) && (He.relB (v.v K) e.val && dkOk K es kvs)
  | _, _ => false
def gdB (K : PySem.W.Frag) (x : Str) (kvs : List (Str × He.Dv)) : Bool := match K.lookup (He.ga K x) with
  | some ⟨_, _, .dict es _, _⟩ => dkOk K es.toList kvs
  | _ => false
/-- the dict that the module's name x holds -/
structure GDk (K : PySem.W.Frag) (w : World) (mg : Str → Option Value) (x : Str) (kvs : List (Str × D)) : Prop where
  glo : mg x = some (.ref (He.ga K x))
  kd : ∃ es n, KDict K w (He.ga K x) es n
  val : ∀ z, (kvs.lookup z = none ∧ PySem.W.nsIn K (He.ga K x) z = some none) ∨ ∃ d v u, kvs.lookup z = some d ∧ PySem.W.nsIn K (He.ga K x) z = some (some u) ∧ RelV v u ∧ ∀ H μ, RD K H μ d v
def dvD : He.Dv → D
  | .bl b => .bl b
  | .int i => .int i
  | .str x => .str x
  | _ => .non
def dvOk : He.Dv → Bool
  | .bl _ => true
  | .int _ => true
  | .str _ => true
  | .non => true
  | _ => false
theorem dkOk_find {K : PySem.W.Frag} {z : Str} : ∀ {es : List DictEntry} {kvs : List (Str × He.Dv)}, dkOk K es kvs = true → (∀ p ∈ kvs, dvOk p.2 = true) →
    (((kvs.map fun p => (p.1, dvD p.2)).lookup z = none ∧ es.find? (·.key.isStr z) = none ∧ es.any (·.refKey) = false) ∨ ∃ d v e, (kvs.map fun p => (p.1, dvD p.2)).lookup z = some d ∧ es.find? (·.key.isStr z) = some e ∧ RelV v e.val ∧ ∀ H μ, RD K H μ d v)
  | [], [], _, _ => .inl ⟨rfl, rfl, rfl⟩
  | e :: es, (k, v) :: kvs, h, hv => by
    rw [dkOk, Bool.and_eq_true, Bool.and_eq_true] at h
    obtain ⟨h1, h2, h3⟩ := h
    split at h1
    · rename_i x t ek
      have hx : x = k := of_decide_eq_true h1
      subst hx
      have hk : e.key.isStr z = (x == z) := by rw [ek]; rfl
      have hr : e.refKey = false := by unfold DictEntry.refKey; rw [ek]
      rw [List.map_cons, List.lookup, List.find?_cons, List.any_cons, hr, hk]
      by_cases hz : x = z
      · subst hz
        have e1 : (x == x) = true := beq_self_eq_true x
        rw [e1]
        refine .inr ⟨dvD v, v.v K, e, rfl, rfl, He.relB_ok h2, fun H μ => ?_⟩
        have := hv _ List.mem_cons_self
        cases v with
        | bl b => exact .bl b
        | int i => exact .int i
        | str s => exact .str s
        | non => exact .non
        | _ => cases this
      · have e1 : (x == z) = false := beq_eq_false_iff_ne.mpr hz
        have e2 : (z == x) = false := beq_eq_false_iff_ne.mpr fun q => hz q.symm
        rw [e1]
        dsimp only
        rw [e2]
        simpa using dkOk_find h3 fun p hp => hv p (List.mem_cons_of_mem _ hp)
    · cases h1
  | [], _ :: _, h, _ => by cases h
  | _ :: _, [], h, _ => by cases h
theorem gdB_ok {K : PySem.W.Frag} {x : Str} {kvs : List (Str × He.Dv)} (h : gdB K x kvs = true) (hv : ∀ p ∈ kvs, dvOk p.2 = true) (z : Str) : ((kvs.map fun p => (p.1, dvD p.2)).lookup z = none ∧ PySem.W.nsIn K (He.ga K x) z = some none) ∨ ∃ d v u, (kvs.map fun p => (p.1, dvD p.2)).lookup z = some d ∧ PySem.W.nsIn K (He.ga K x) z = some (some u) ∧ RelV v u ∧ ∀ H μ, RD K H μ d v := by
  unfold gdB at h
  unfold PySem.W.nsIn
  split at h
  · rename_i es n sl look
    rw [look]
    dsimp only
    rcases dkOk_find (z := z) h hv with ⟨e1, e2, e3⟩ | ⟨d, v, e, e1, e2, e3, e4⟩
    · left
      refine ⟨e1, ?_⟩
      rw [e2]
      dsimp only
      rw [e3]
      rfl
    · right
      refine ⟨d, v, e.val, e1, ?_, e3, e4⟩
      rw [e2]
  · cases h
section
variable {X : Cx} {W : WX} {pos p : Pos} {kvs : List (Str × D)} {x : Str} {a : M} {ea : Expr}
def inGV (neg : Bool) (kvs : List (Str × D)) (x : D) (h : AH) : Res D := match x with
  | .str z => .ok (.bl (neg != (kvs.lookup z).isSome)) h
  | _ => .stuck
def eInG (neg : Bool) (kvs : List (Str × D)) (a : M) : M := fun σ h => (a σ h).bind fun x h1 => inGV neg kvs x h1
theorem inG_go {neg : Bool} (g : GDk X.K X.w X.mg x kvs) {r : R2} (hr : ∀ (z : Str) (o : Option Value) (H : Hp) (Q : VK), PySem.W.nsIn X.K (He.ga X.K x) z = some o → Q (.bl (neg != o.isSome)) H → r (.str z) (.ref (He.ga X.K x)) H Q) : ∀ τ H Q, tE X W (eInG neg kvs a) τ H Q → tOp r (tE X W a) (tC (.ref (He.ga X.K x))) τ H Q := fun τ H Q ⟨σ, h, μ, rs, rh, q⟩ =>
  go rs rh q fun d h1 v H1 μ1 s1 rs1 rh1 rx q1 => by
    unfold inGV at q1
    split at q1
    · rename_i z
      cases rx
      rcases g.val z with ⟨e1, e2⟩ | ⟨d, v, u, e1, e2, _, _⟩
      · rw [e1] at q1; exact hr z _ _ _ e2 (q1.now rh1 (.bl _))
      · rw [e1] at q1; exact hr z _ _ _ e2 (q1.now rh1 (.bl _))
    · exact q1.elim
theorem q_inG (g : GDk X.K X.w X.mg x kvs) (hg : Gl X x) (ha : QE X W a ea) (hd : (x == ("__debug__" : Str)) = false := by decide) (hm : behindInMarks .In (.Name x p) = false := by rfl) : QE X W (eInG false kvs a) (.Compare ea [.In] [.Name x p] pos) := by
  obtain ⟨es, n, kd⟩ := g.kd
  exact QE.of (pe_cmpR (op_in_kd kd) ha (pe_glob (v := .ref (He.ga X.K x)) hg g.glo rfl hd) hm) (inG_go g fun z o H Q e q => ⟨z, o, rfl, rfl, e, by rw [Bool.false_bne] at q; exact q⟩)
theorem q_notInG (g : GDk X.K X.w X.mg x kvs) (hg : Gl X x) (ha : QE X W a ea) (hd : (x == ("__debug__" : Str)) = false := by decide) (hm : behindInMarks .NotIn (.Name x p) = false := by rfl) : QE X W (eInG true kvs a) (.Compare ea [.NotIn] [.Name x p] pos) := by
  obtain ⟨es, n, kd⟩ := g.kd
  exact QE.of (pe_cmpR (op_notIn_kd kd) ha (pe_glob (v := .ref (He.ga X.K x)) hg g.glo rfl hd) hm) (inG_go g fun z o H Q e q => ⟨z, o, rfl, rfl, e, by rw [Bool.true_bne] at q; exact q⟩)
theorem qt_inG (g : GDk X.K X.w X.mg x kvs) (hg : Gl X x) (ha : QE X W a ea) (hd : (x == ("__debug__" : Str)) = false := by decide) (hm : behindInMarks .In (.Name x p) = false := by rfl) : QT X W (mB (eInG false kvs a)) (.Compare ea [.In] [.Name x p] pos) := by
  obtain ⟨es, n, kd⟩ := g.kd
  exact QT.of (pt_cmpR (op_in_kd kd) ha (pe_glob (v := .ref (He.ga X.K x)) hg g.glo rfl hd) hm) fun τ H Q q => inG_go g (fun z o H Q e q => ⟨z, o, rfl, rfl, e, by rw [Bool.false_bne] at q; exact q⟩) τ H _ (tE_asB q)
theorem qt_notInG (g : GDk X.K X.w X.mg x kvs) (hg : Gl X x) (ha : QE X W a ea) (hd : (x == ("__debug__" : Str)) = false := by decide) (hm : behindInMarks .NotIn (.Name x p) = false := by rfl) : QT X W (mB (eInG true kvs a)) (.Compare ea [.NotIn] [.Name x p] pos) := by
  obtain ⟨es, n, kd⟩ := g.kd
  exact QT.of (pt_cmpR (op_notIn_kd kd) ha (pe_glob (v := .ref (He.ga X.K x)) hg g.glo rfl hd) hm) fun τ H Q q => inG_go g (fun z o H Q e q => ⟨z, o, rfl, rfl, e, by rw [Bool.true_bne] at q; exact q⟩) τ H _ (tE_asB q)
def ixGV (kvs : List (Str × D)) (x : D) (h : AH) : Res D := match x with
  | .str z => match kvs.lookup z with
    | some d => .ok d h
    | none => .stuck
  | _ => .stuck
def eIxG (kvs : List (Str × D)) (a : M) : M := fun σ h => (a σ h).bind fun x h1 => ixGV kvs x h1
theorem q_ixG (g : GDk X.K X.w X.mg x kvs) (hg : Gl X x) (ha : QE X W a ea) (hd : (x == ("__debug__" : Str)) = false := by decide) (hs : PlainIx ea := by intro _ _; rfl) : QE X W (eIxG kvs a) (.Subscript (.Name x p) ea pos) := by
  obtain ⟨es, n, kd⟩ := g.kd
  refine QE.of (pe_ix (ix_kdict) (pe_glob (v := .ref (He.ga X.K x)) hg g.glo rfl hd) ha hs) fun τ H Q ⟨σ, h, μ, rs, rh, q⟩ => go rs rh q fun d h1 v H1 μ1 s1 rs1 rh1 rx q1 => ?_
  unfold ixGV at q1
  split at q1
  · rename_i z
    cases rx
    rcases g.val z with ⟨e1, e2⟩ | ⟨d, v, u, e1, e2, e3, e4⟩
    · rw [e1] at q1; exact q1.elim
    · rw [e1] at q1
      exact ⟨_, z, v, rfl, rfl, ⟨es, n, u, kd.at_, kd.lit, e2, e3⟩, q1.now rh1 (e4 _ _)⟩
  · exact q1.elim
end
section
variable {σ : AS} {h : AH} {a : M} {kvs : List (Str × D)} {neg : Bool} {z : Str}
@[simp] theorem run_eInG : eInG neg kvs a σ h = (a σ h).bind fun x h1 => inGV neg kvs x h1 := rfl
@[simp] theorem inGV_str : inGV neg kvs (.str z) h = .ok (.bl (neg != (kvs.lookup z).isSome)) h := rfl
@[simp] theorem run_eIxG : eIxG kvs a σ h = (a σ h).bind fun x h1 => ixGV kvs x h1 := rfl
end
end Q

/-! Q30: list comprehensions of several clauses. -/
namespace L2
open PySem PySem.Spec PyProof.Rows
structure CL where
  wi : TI
  g : TG
  tt : TT
  vs : List Nat
section
variable {prog : Program} {w : World} {A : Around} {R : Result → Shared → Prop} {s : Shared} {elt t0 i0 t1 i1 : Expr} {ifs0 ifs1 : List Expr} {gens : List Comprehension} {d : Nat} {scope : Scope} {pos : Pos} {it acc : Value} {env : Env}
theorem compTurnN_mid (h1 : gens[d]? = some ⟨t0, i0, ifs0, 0⟩) (h2 : gens[d + 1]? = some ⟨t1, i1, ifs1, 0⟩) :
    compTurn (.ListComp elt gens scope pos) d it acc env = (do
      standAt i0.pos
      match ← pyNext it with
      | none => pure (.done .next)
      | some v =>
        letOwnedTupleGo t0 it v
        assign t0 env v
        let mut ok := true
        for c in ifs0 do
          if ok then ok ← isTrue c env (eval c env)
        if ok then
          let x ← eval i1 env
          standAt i1.pos
          let x ← foldedSetIterable i1 env x
          let _ ← runOwn (.compStart (.ListComp elt gens scope pos) (d + 1) (← holding [x] (pyIter x)) acc env) env
        again (.compLoop (.ListComp elt gens scope pos) d it acc env)) := by
  unfold compTurn
  simp only [h1, h2]
  rfl
theorem compTurnN_last (h1 : gens[d]? = some ⟨t0, i0, ifs0, 0⟩) (h2 : gens[d + 1]? = none) :
    compTurn (.ListComp elt gens scope pos) d it acc env = (do
      standAt i0.pos
      match ← pyNext it with
      | none => pure (.done .next)
      | some v =>
        letOwnedTupleGo t0 it v
        assign t0 env v
        let mut ok := true
        for c in ifs0 do
          if ok then ok ← isTrue c env (eval c env)
        if ok then
          (do let _ ← call (.builtin "list.append") [acc, ← eval elt env])
        again (.compLoop (.ListComp elt gens scope pos) d it acc env)) := by
  unfold compTurn
  simp only [h1, h2]
  rfl
theorem compLoopN_mid (h1 : gens[d]? = some ⟨t0, i0, ifs0, 0⟩) (h2 : gens[d + 1]? = some ⟨t1, i1, ifs1, 0⟩) (hs : ∀ x, foldedSetIterable i1 env x = pure x) (I : Nat → Shared → Prop)
    (turn : ∀ n s, I n s → wpAny (model prog w) A (pyNext it) (fun r s₁ => match r with
      | none => R (.ok .next) s₁
      | some v => wpAny (model prog w) A (letOwnedTupleGo t0 it v) (fun _ s₁' => wpAny (model prog w) A (assign t0 env v) (fun _ s₂ =>
          wpAny (model prog w) A (forIn ifs0 true fun c r => if r = true then do let ok ← isTrue c env (eval c env); pure (ForInStep.yield ok) else pure (ForInStep.yield r)) (fun ok s₃ =>
            if ok = true then wpAny (model prog w) A (eval i1 env) (fun x s₄ => wpAny (model prog w) A (pyIter x) (fun it1 s₅ =>
              codeAny (model prog w) A (.compStart (.ListComp elt gens scope pos) (d + 1) it1 acc env) (fun r s' => match r with
                | .ok _ => ∃ m, m < n ∧ I m s'
                | .error _ => False) s₅) (notedBy (model prog w) A env fun e s' => R (.error e) s') s₄) (notedBy (model prog w) A env fun e s' => R (.error e) s') s₃
            else ∃ m, m < n ∧ I m s₃) (notedBy (model prog w) A env fun e s' => R (.error e) s') s₂) (notedBy (model prog w) A env fun e s' => R (.error e) s') s₁') (notedBy (model prog w) A env fun e s' => R (.error e) s') s₁) (notedBy (model prog w) A env fun e s' => R (.error e) s') s)
    (n : Nat) (h : I n s) :
    codeAny (model prog w) A (.compLoop (.ListComp elt gens scope pos) d it acc env) R s := by
  refine codeAny_loop rfl I (fun n s hI => ?_) n h
  show wpAny _ A ((compTurn (.ListComp elt gens scope pos) d it acc env).onRaise (fun x => do noteFrame x env; theTreesLotGoes x)) _ _ s
  refine wpAny_noted ?_
  rw [compTurnN_mid h1 h2]
  refine wpAny_bind (wpAny_standAt (wpAny_bind (wpAny_mono (turn n s hI) (fun r s₁ h₁ => ?_) fun _ _ h' => h')))
  cases r with
  | none => exact wpAny_pure h₁
  | some v =>
    refine wpAny_bind (wpAny_mono h₁ (fun _ s₁' h₁' => ?_) fun _ _ h' => h')
    refine wpAny_bind (wpAny_mono h₁' (fun _ s₂ h₂ => wpAny_bind (wpAny_mono h₂ (fun ok s₃ h₃ => ?_) fun _ _ h' => h')) fun _ _ h' => h')
    cases ok with
    | false => exact wpAny_pure ⟨rfl, h₃⟩
    | true =>
      refine wpAny_bind (wpAny_mono h₃ (fun x s₄ h₄ => ?_) fun _ _ h' => h')
      refine wpAny_bind (wpAny_standAt (wpAny_bind (wpAny_of_eq (hs x) (wpAny_bind (wpAny_holding (wpAny_mono h₄ (fun it1 s₅ h₅ => ?_) fun _ _ h' => h'))))))
      refine wpAny_bind (wpAny_runOwn ?_)
      rw [Around.mark_none]
      refine codeAny_mono h₅ fun r s' hr => ?_
      cases r with
      | ok f =>
        first
          | exact wpAny_pure ⟨rfl, hr⟩
          | exact wpAny_bind (wpAny_pure (wpAny_pure ⟨rfl, hr⟩))
      | error e => exact hr.elim
theorem compLoopN_last (h1 : gens[d]? = some ⟨t1, i1, ifs1, 0⟩) (h2 : gens[d + 1]? = none) (I : Nat → Shared → Prop)
    (turn : ∀ n s, I n s → wpAny (model prog w) A (pyNext it) (fun r s₁ => match r with
      | none => R (.ok .next) s₁
      | some v => wpAny (model prog w) A (letOwnedTupleGo t1 it v) (fun _ s₁' => wpAny (model prog w) A (assign t1 env v) (fun _ s₂ =>
          wpAny (model prog w) A (forIn ifs1 true fun c r => if r = true then do let ok ← isTrue c env (eval c env); pure (ForInStep.yield ok) else pure (ForInStep.yield r)) (fun ok s₃ =>
            if ok = true then wpAny (model prog w) A (eval elt env) (fun x s₄ =>
              wpAny (model prog w) A (call (.builtin "list.append") [acc, x]) (fun _ s₅ => ∃ m, m < n ∧ I m s₅) (notedBy (model prog w) A env fun e s' => R (.error e) s') s₄) (notedBy (model prog w) A env fun e s' => R (.error e) s') s₃
            else ∃ m, m < n ∧ I m s₃) (notedBy (model prog w) A env fun e s' => R (.error e) s') s₂) (notedBy (model prog w) A env fun e s' => R (.error e) s') s₁') (notedBy (model prog w) A env fun e s' => R (.error e) s') s₁) (notedBy (model prog w) A env fun e s' => R (.error e) s') s)
    (n : Nat) (h : I n s) :
    codeAny (model prog w) A (.compLoop (.ListComp elt gens scope pos) d it acc env) R s := by
  refine codeAny_loop rfl I (fun n s hI => ?_) n h
  show wpAny _ A ((compTurn (.ListComp elt gens scope pos) d it acc env).onRaise (fun x => do noteFrame x env; theTreesLotGoes x)) _ _ s
  refine wpAny_noted ?_
  rw [compTurnN_last h1 h2]
  refine wpAny_bind (wpAny_standAt (wpAny_bind (wpAny_mono (turn n s hI) (fun r s₁ h₁ => ?_) fun _ _ h' => h')))
  cases r with
  | none => exact wpAny_pure h₁
  | some v =>
    refine wpAny_bind (wpAny_mono h₁ (fun _ s₁' h₁' => ?_) fun _ _ h' => h')
    refine wpAny_bind (wpAny_mono h₁' (fun _ s₂ h₂ => wpAny_bind (wpAny_mono h₂ (fun ok s₃ h₃ => ?_) fun _ _ h' => h')) fun _ _ h' => h')
    cases ok with
    | false => exact wpAny_pure ⟨rfl, h₃⟩
    | true =>
      exact wpAny_bind (wpAny_bind (wpAny_mono h₃ (fun x s₄ h₄ => wpAny_bind (wpAny_mono h₄ (fun _ s₅ h₅ => wpAny_pure (wpAny_pure ⟨rfl, h₅⟩)) fun _ _ h' => h')) fun _ _ h' => h'))
/-- a clause's start -/
theorem compStartN_ok (h1 : gens[d]? = some ⟨t1, i1, ifs1, 0⟩) (h0 : codeAny (model prog w) A (.compLoop (.ListComp elt gens scope pos) d it acc env) R s)
    (h : wpAny (model prog w) A (pyIter it) (fun it' s' => codeAny (model prog w) A (.compLoop (.ListComp elt gens scope pos) d it' acc env) R s')
      (notedBy (model prog w) A env fun x s' => R (.error x) s') s) :
    codeAny (model prog w) A (.compStart (.ListComp elt gens scope pos) d it acc env) R s := by
  refine codeAny_of_tree ?_
  show wpAny _ _ ((compStart (.ListComp elt gens scope pos) d it acc env).onRaise (fun x => do noteFrame x env; standAt theWindowsPlace)) _ _ s
  refine wpAny_notedAt ?_
  have hcl : (clausesOf (.ListComp elt gens scope pos))[d]? = some ⟨t1, i1, ifs1, 0⟩ := h1
  unfold compStart
  simp only [hcl]
  show wpAny _ _ (ask >>= _) _ _ s
  refine wpAny_bind (wpAny_askSetting (wpAny_ite ?_))
  split
  · first
      | exact wpAny_bind (wpAny_pure (wpAny_pure (And.intro rfl h0)))
      | exact wpAny_pure (And.intro rfl h0)
  · first
      | exact wpAny_bind (wpAny_rule (wpAny_bind (wpAny_standAt (wpAny_bind (wpAny_mono h (fun it' s' h' => wpAny_pure (And.intro rfl h')) fun _ _ x => x)))))
      | (refine wpAny_bind (wpAny_rule ?_); show wpAny _ _ (standAt i1.pos >>= _) _ _ s; exact wpAny_bind (wpAny_standAt (wpAny_bind (wpAny_mono h (fun it' s' h' => wpAny_pure (And.intro rfl h')) fun _ _ x => x))))
end
end L2

/-! Q31: .. run. -/
namespace L2
open PySem PySem.Spec PyProof.Rows
/-- a clause's loop: behind its store and tests the inner reading, from which Nx is reached -/
def rIt (J : It) (c : CL) (inner : L2.St → Hp → (Hp → Prop) → Prop) (σ : L2.St) (H1 : Hp) (K : Hp → Prop) : Prop := ∃ W : Nat → Nat → Hp → Prop, (∃ m, W 0 m H1) ∧ ∀ i m H, W i m H →
  (J.stop i H ∧ K H) ∨ (J.go i H ∧ ∃ Nx : Hp → Prop, (∀ H', Nx H' → ∃ m', m' < m ∧ W (i + 1) m' H') ∧ ∀ x H', J.yld i H x H' → c.g x (wipe σ c.vs) H' fun σ2 H2 => wipe σ2 c.vs = wipe σ c.vs ∧ c.tt σ2 H2 fun b H3 => if b = true then inner σ2 H3 Nx else Nx H3)
def tIn (te : TE) (D : Addr) : List CL → L2.St → Hp → (Hp → Prop) → Prop
  | [], σ, H, K => te σ H fun y H1 => ∃ acc, H1 D = some (.lst acc) ∧ acc.length < sizeLine ∧ K (upd H1 D (.lst (acc ++ [y])))
  | c :: cs, σ, H, K => c.wi σ H fun J H1 => rIt J c (tIn te D cs) σ H1 K
inductive QCls (Y : Cx) : List Comprehension → List CL → Prop
  | one {tg iter : Expr} {ifs : List Expr} {c : CL} : PG Y tg c.g → PTs Y ifs c.tt → QCls Y [⟨tg, iter, ifs, 0⟩] [c]
  | more {tg iter tg' iter' : Expr} {ifs ifs' : List Expr} {c c' : CL} {gs : List Comprehension} {cs : List CL} : PG Y tg c.g → PTs Y ifs c.tt → PI Y tg' iter' c'.wi → (∀ x, foldedSetIterable iter' Y.env x = pure x) → (∀ i ∈ c'.vs, i ∈ c.vs) → QCls Y (⟨tg', iter', ifs', 0⟩ :: gs) (c' :: cs) → QCls Y (⟨tg, iter, ifs, 0⟩ :: ⟨tg', iter', ifs', 0⟩ :: gs) (c :: c' :: cs)
theorem cl_run {Y : Cx} (hc : Y.calm = true) (hxe : ∀ (v : Value) (z : Shared), ¬ Y.xe v z) {elt : Expr} {gens : List Comprehension} {scope : Scope} {pos : Pos} {D : Addr} {te : TE} (pe : PE Y elt te) {gs : List Comprehension} {cls : List CL} (Q0 : QCls Y gs cls) :
    ∀ (d : Nat) (tg iter : Expr) (ifs : List Expr) (rest : List Comprehension) (c : CL) (cs : List CL), gens.drop d = gs → gs = ⟨tg, iter, ifs, 0⟩ :: rest → cls = c :: cs →
      ∀ (pins : List (Addr × Obj)) (σ : L2.St) (H : Hp) (s : Shared) (it : Addr) (fp : List Addr) (tn : Nat → Heap → Prop) (J : It) (K : Hp → Prop), Inv Y pins σ H s → Turn Y.prog Y.w Y.K tg J fp it tn → tn 0 s.heap → (∀ b ∈ fp, H b = none) → (∀ H' : Hp, (∀ b ∈ fp, H' b = none) → ∀ b ∈ fp, FpOk Y pins H' b) → rIt J c (tIn te D cs) σ H K →
        codeAny (model Y.prog Y.w) Y.A (.compStart (.ListComp elt gens scope pos) d (.ref it) (.ref D) Y.env) (fun r s' => match r with
          | .ok .next => ∃ H', Inv Y pins (wipe σ c.vs) H' s' ∧ K H'
          | _ => False) s := by
  have thnY : ∀ {α : Type} {t : Sem α} {Q Q' : α → Shared → Prop} {M : Model} {A : Around} {E : Value → Shared → Prop} {s : Shared}, wpAny M A t Q Y.xe s → (∀ a s, Q a s → Q' a s) → wpAny M A t Q' E s := fun h hQ => wpAny_mono h hQ fun v z q => absurd q (hxe v z)
  induction Q0 with
  | @one tg0 iter0 ifs0 c0 pg pt =>
    intro d tg iter ifs rest c cs hd eg ec pins σ H s it fp tn J K I T st nfp stat q
    cases eg; cases ec
    have g1 : gens[d]? = some ⟨tg0, iter0, ifs0, 0⟩ := by have := congrArg (fun l => l[0]?) hd; simpa using this
    have g2 : gens[d + 1]? = none := by have := congrArg (fun l => l[1]?) hd; simpa using this
    obtain ⟨W1, ⟨m1, w1⟩, turn1⟩ := q
    have loop1 : codeAny (model Y.prog Y.w) Y.A (.compLoop (.ListComp elt gens scope pos) d (.ref it) (.ref D) Y.env) (fun r s' => match r with
        | .ok .next => ∃ H', Inv Y pins (wipe σ c0.vs) H' s' ∧ K H'
        | _ => False) s := by
      refine compLoopN_last g1 g2 (fun k s' => ∃ j H', Inv Y pins (wipe σ c0.vs) H' s' ∧ tn j s'.heap ∧ (∀ b ∈ fp, H' b = none) ∧ W1 j k H') ?_ m1 ⟨0, H, I.weak (wipe_length _ _) (fun j v e => (wipe_some e).1), st, nfp, w1⟩
      rintro k s12 ⟨j, H12, I12, st12, n12, w12⟩
      rcases turn1 j k H12 w12 with ⟨stop1, nx1⟩ | ⟨go1, Nx1, hNx1, step1⟩
      · refine thnF (T.done Y rfl rfl rfl hc j _ s12 (wipe σ c0.vs) H12 (fun _ _ => False) I12 (stat H12 n12) st12 stop1) fun r s13 ⟨hr, I13⟩ => ?_
        subst hr
        exact ⟨H12, I13, nx1⟩
      · refine thnF (T.item Y rfl rfl rfl hc j _ s12 (wipe σ c0.vs) H12 (fun _ _ => False) I12 (stat H12 n12) st12 go1) fun r s13 ⟨u1, hr, h13⟩ => ?_
        subst hr
        refine thnF h13 fun _ s14 ⟨x1, H14, I14, r14, y14, st14, n14⟩ => ?_
        have I14' := I14.pinned (stat H14 n14) (T.obj _ _ st14)
        refine thnY (pg.run _ s14 (wipe σ c0.vs) H14 x1 u1 _ I14' r14 (step1 x1 H14 y14)) fun _ s15 ⟨σ15, H15, I15, hw15, q15⟩ => ?_
        refine thnY (pt.run _ s15 σ15 H15 _ I15 q15) fun b1 s16 ⟨H16, I16, q16⟩ => ?_
        have fin1 : ∀ {s' : Shared} {H' : Hp}, Inv Y (pins ++ pinsAt fp s14.heap) σ15 H' s' → Nx1 H' → ∃ m, m < k ∧ ∃ j H', Inv Y pins (wipe σ c0.vs) H' s' ∧ tn j s'.heap ∧ (∀ b ∈ fp, H' b = none) ∧ W1 j m H' := fun {s' H'} I' nx => by
          obtain ⟨m', hm, w'⟩ := hNx1 H' nx
          have pin' : ∀ b ∈ fp, ∀ o, s14.heap.get? b = some o → s'.heap.get? b = some o ∧ H' b = none := fun b hb o e =>
            let z := I'.pin (b, o) (List.mem_append_right _ (List.mem_append_right _ (mem_pinsAt hb e)))
            ⟨z.1, z.2.1⟩
          refine ⟨m', hm, j + 1, H', I'.unpinned.weak (by rw [← hw15, wipe_length]) (fun j v e => by rw [← hw15] at e; exact (wipe_some e).1), T.keep _ _ _ st14 fun b hb o e => (pin' b hb o e).1, fun b hb => ?_, w'⟩
          obtain ⟨o, e, _⟩ := T.obj _ _ st14 b hb
          exact (pin' b hb o e).2
        cases b1 with
        | false =>
          simp only [Bool.false_eq_true, if_false] at q16 ⊢
          exact fin1 I16 q16
        | true =>
          simp only [if_true] at q16 ⊢
          refine thnY (pe.run _ s16 σ15 H16 _ I16 q16) fun z s17 ⟨yv, H17, I17, r17, acc, hD17, hz17, nx⟩ => ?_
          exact app_ok (X := Y) I17 hD17 hz17 r17 fun s18 I18 => fin1 I18 nx
    exact compStartN_ok g1 loop1 (T.self Y.A 0 _ _ _ st loop1)
  | @more tg0 iter0 tg1 iter1 ifs0 ifs1 c0 c1 gs0 cs0 pg pt pi1 hs1 hv Q1 ih =>
    intro d tg iter ifs rest c cs hd eg ec pins σ H s it fp tn J K I T st nfp stat q
    cases eg; cases ec
    have g1 : gens[d]? = some ⟨tg0, iter0, ifs0, 0⟩ := by have := congrArg (fun l => l[0]?) hd; simpa using this
    have g2 : gens[d + 1]? = some ⟨tg1, iter1, ifs1, 0⟩ := by have := congrArg (fun l => l[1]?) hd; simpa using this
    have hd1 : gens.drop (d + 1) = ⟨tg1, iter1, ifs1, 0⟩ :: gs0 := by
      have : gens.drop (d + 1) = (gens.drop d).drop 1 := by rw [List.drop_drop]
      rw [this, hd] <;> rfl
    obtain ⟨W1, ⟨m1, w1⟩, turn1⟩ := q
    have loop1 : codeAny (model Y.prog Y.w) Y.A (.compLoop (.ListComp elt gens scope pos) d (.ref it) (.ref D) Y.env) (fun r s' => match r with
        | .ok .next => ∃ H', Inv Y pins (wipe σ c0.vs) H' s' ∧ K H'
        | _ => False) s := by
      refine compLoopN_mid g1 g2 hs1 (fun k s' => ∃ j H', Inv Y pins (wipe σ c0.vs) H' s' ∧ tn j s'.heap ∧ (∀ b ∈ fp, H' b = none) ∧ W1 j k H') ?_ m1 ⟨0, H, I.weak (wipe_length _ _) (fun j v e => (wipe_some e).1), st, nfp, w1⟩
      rintro k s12 ⟨j, H12, I12, st12, n12, w12⟩
      rcases turn1 j k H12 w12 with ⟨stop1, nx1⟩ | ⟨go1, Nx1, hNx1, step1⟩
      · refine thnF (T.done Y rfl rfl rfl hc j _ s12 (wipe σ c0.vs) H12 (fun _ _ => False) I12 (stat H12 n12) st12 stop1) fun r s13 ⟨hr, I13⟩ => ?_
        subst hr
        exact ⟨H12, I13, nx1⟩
      · refine thnF (T.item Y rfl rfl rfl hc j _ s12 (wipe σ c0.vs) H12 (fun _ _ => False) I12 (stat H12 n12) st12 go1) fun r s13 ⟨u1, hr, h13⟩ => ?_
        subst hr
        refine thnF h13 fun _ s14 ⟨x1, H14, I14, r14, y14, st14, n14⟩ => ?_
        have I14' := I14.pinned (stat H14 n14) (T.obj _ _ st14)
        refine thnY (pg.run _ s14 (wipe σ c0.vs) H14 x1 u1 _ I14' r14 (step1 x1 H14 y14)) fun _ s15 ⟨σ15, H15, I15, hw15, q15⟩ => ?_
        refine thnY (pt.run _ s15 σ15 H15 _ I15 q15) fun b1 s16 ⟨H16, I16, q16⟩ => ?_
        have fin1 : ∀ {σ9 : L2.St} {s' : Shared} {H' : Hp}, Inv Y (pins ++ pinsAt fp s14.heap) σ9 H' s' → (wipe σ c0.vs).length = σ9.length → (∀ (j : Nat) v, (wipe σ c0.vs)[j]? = some (some v) → σ9[j]? = some (some v)) → Nx1 H' → ∃ m, m < k ∧ ∃ j H', Inv Y pins (wipe σ c0.vs) H' s' ∧ tn j s'.heap ∧ (∀ b ∈ fp, H' b = none) ∧ W1 j m H' := fun {σ9 s' H'} I' hl hk nx => by
          obtain ⟨m', hm, w'⟩ := hNx1 H' nx
          have pin' : ∀ b ∈ fp, ∀ o, s14.heap.get? b = some o → s'.heap.get? b = some o ∧ H' b = none := fun b hb o e =>
            let z := I'.pin (b, o) (List.mem_append_right _ (List.mem_append_right _ (mem_pinsAt hb e)))
            ⟨z.1, z.2.1⟩
          refine ⟨m', hm, j + 1, H', I'.unpinned.weak hl hk, T.keep _ _ _ st14 fun b hb o e => (pin' b hb o e).1, fun b hb => ?_, w'⟩
          obtain ⟨o, e, _⟩ := T.obj _ _ st14 b hb
          exact (pin' b hb o e).2
        have hl8 : (wipe σ c0.vs).length = σ15.length := by rw [← hw15, wipe_length]
        have hk8 : ∀ (j : Nat) v, (wipe σ c0.vs)[j]? = some (some v) → σ15[j]? = some (some v) := fun j v e => by
          rw [← hw15] at e
          exact (wipe_some e).1
        have hk9 : ∀ (j : Nat) v, (wipe σ c0.vs)[j]? = some (some v) → (wipe σ15 c1.vs)[j]? = some (some v) := fun j v e => by
          rw [← hw15] at e
          obtain ⟨e1, e2⟩ := wipe_some e
          rw [wipe_out fun z => e2 (hv j z)]
          exact e1
        cases b1 with
        | false =>
          simp only [Bool.false_eq_true, if_false] at q16 ⊢
          exact fin1 I16 hl8 hk8 q16
        | true =>
          simp only [if_true] at q16 ⊢
          refine thnY (pi1.run _ s16 σ15 H16 _ I16 q16) fun xv s17 hx => thnY hx fun itv s18 h18 => ?_
          obtain ⟨it1, fp1, tn1, J1, H18, e1, I18, T1, st18, f18, q18⟩ := h18
          subst e1
          refine codeAny_mono (ih (d + 1) tg1 iter1 ifs1 gs0 c1 cs0 hd1 rfl rfl _ σ15 H18 s18 it1 fp1 tn1 J1 Nx1 I18 T1 st18 (fun b hb => (f18 b hb).1) (fun H' hn b hb => ⟨hn b hb, (f18 b hb).2⟩) q18) fun r s19 hr => ?_
          cases r with
          | error e => exact hr
          | ok f =>
            cases f with
            | next =>
              obtain ⟨H19, I19, nx⟩ := hr
              exact fin1 I19 (hl8.trans (wipe_length σ15 c1.vs).symm) hk9 nx
            | brk => exact hr.elim
            | cont => exact hr.elim
            | ret v => exact hr.elim
    exact compStartN_ok g1 loop1 (T.self Y.A 0 _ _ _ st loop1)
section
variable {X : Cx}
/-- the whole: the first source is read outside -/
def tLcN (wi : TI) (c : CL) (cs : List CL) (te : TE) : TE := fun σ H Q => wi σ H fun J H1 => ∀ D, H1 D = none → rIt J c (tIn te D cs) (wipe σ c.vs) (upd H1 D (.lst [])) fun H2 => Q (.ref D) H2
theorem lcN_core {pins : List (Addr × Obj)} {s : Shared} {σ : St} {H : Hp} {Q : VK} {elt tg iter : Expr} {ifs : List Expr} {gs : List Comprehension} {scope : Scope} {own : List (Str × Nat)} {pos pos' : Pos} {wi : TI} {c : CL} {cs : List CL} {te : TE} {use : Option (Value → Sem Unit)} {Qf : Value → Shared → Prop}
    (hc : X.calm = true) (hN : X.N.Nodup) (I : Inv X pins σ H s) (hi : PI X tg iter wi) (ok : BlkOk X.N X.env.scope scope own) (hcv : c.vs = own.map (·.2))
    (hq : ∀ (s : Shared) (H : Hp) (C : Addr) (cl : List (Str × Addr)) (fp : List Addr), QCls (X.blk s H scope (compEnvC scope cl C X.env) fp) (⟨tg, iter, ifs, 0⟩ :: gs) (c :: cs))
    (he : ∀ (s : Shared) (H : Hp) (C : Addr) (cl : List (Str × Addr)) (fp : List Addr), PE (X.blk s H scope (compEnvC scope cl C X.env) fp) elt te) (hs : ∀ x, foldedSetIterable iter X.env x = pure x)
    (h : tLcN wi c cs te σ H Q)
    (hRR : ∀ D C s' m H', Inv X pins σ H' s' → Q (.ref D) H' → s'.heap.Ns C m → FpOk X pins H' C → compPost (model X.prog X.w) X.A X.xe use Qf (.ref D) C (.ok .next) s') :
    wpAny (model X.prog X.w) X.A (comprehension (.ListComp elt (⟨tg, iter, ifs, 0⟩ :: gs) scope pos) scope X.env pos' (newList []) false (eval iter X.env) use) Qf X.xe s := by
  have hfree : ∀ y ∈ scope.names, y.2 = .free → ∃ c, X.env.cells.lookup y.1 = some c := fun y hy e => by
    rcases ok.free y hy e with k | k
    · exact I.ok.has _ (.inl k)
    · exact I.ok.has _ (.inr k)
  refine wpAny_comprehension_free (use := use) rfl hs (closure_ok hfree) ok.kind (fun y hy e => by rw [ok.uniq y hy, e])
    (thn (hi.run pins s σ H _ I h) fun xv s1 hx => thn hx fun itv s2 h2 => ?_)
  obtain ⟨it, fp, tn, J, H2, e, I2, T, st2, f2, q⟩ := h2
  subst e
  refine wpAny_newObj_type (newEnv_comp ?_) (by show 0 ≤ sizeLine; decide)
  generalize hD : s2.heap.objs.size = D
  have hDn : H2 D = none := I2.hok.fresh (Nat.le_of_eq hD)
  have q0 := q D hDn
  generalize hs3 : ({ s2 with heap := s2.heap.push { cls := .type "list", data := .seq ([] : List Value).toArray } } : Shared) = s3
  have I3 : Inv X pins σ (upd H2 D (.lst [])) s3 := by
    rw [← hs3]
    refine I2.laid (t' := s2.toks) (fun b o e => Heap.get?_push_of_some _ e) (Nat.le_of_eq hD) ⟨Nat.zero_le _, [], 0, .nil, ?_⟩
    rw [← hD]
    exact Heap.get?_push_size _ rfl
  have h3 : s3.heap = s2.heap.push { cls := .type "list", data := .seq ([] : List Value).toArray } := by rw [← hs3]
  have sz : ∀ b ∈ fp, b < s2.heap.objs.size := fun b hb => by
    obtain ⟨o, e, _⟩ := T.obj _ _ st2 b hb
    exact Heap.lt_size e
  have f3 : ∀ b ∈ fp, FpOk X pins (upd H2 D (.lst [])) b ∧ b < s3.heap.objs.size := fun b hb => by
    have hlt := sz b hb
    refine ⟨⟨?_, (f2 b hb).2⟩, by rw [h3, Heap.size_push]; exact Nat.lt_succ_of_lt hlt⟩
    rw [upd_ne (by rw [← hD]; exact Nat.ne_of_lt hlt)]
    exact (f2 b hb).1
  have st3 : tn 0 s3.heap := T.keep _ _ _ st2 fun b _ o e => by rw [h3]; exact Heap.get?_push_of_some _ e
  have I4 := block_start I3 ok hN f3
  have pq := hq s3 (upd H2 D (.lst [])) s3.heap.objs.size (cellsFrom (s3.heap.objs.size + 1) scope.names (cloFrom X.env.cells scope.names [])) fp
  have pe := he s3 (upd H2 D (.lst [])) s3.heap.objs.size (cellsFrom (s3.heap.objs.size + 1) scope.names (cloFrom X.env.cells scope.names [])) fp
  show codeAny _ _ (.compStart (.ListComp elt (⟨tg, iter, ifs, 0⟩ :: gs) scope pos) 0 (.ref it) (.ref D) (compEnvC scope (cellsFrom (s3.heap.objs.size + 1) scope.names (cloFrom X.env.cells scope.names [])) s3.heap.objs.size X.env)) (compPost (model X.prog X.w) X.A X.xe use Qf (.ref D) s3.heap.objs.size) { s3 with heap := pushCells (s3.heap.push { cls := .type "dict", data := .dict #[] }) scope.names }
  have nfp : ∀ b ∈ fp, (upd H2 D (.lst [])) b = none := fun b hb => (f3 b hb).1.1
  generalize hce : compEnvC scope (cellsFrom (s3.heap.objs.size + 1) scope.names (cloFrom X.env.cells scope.names [])) s3.heap.objs.size X.env = ce at I4 pq pe ⊢
  have cL : ce.locals = s3.heap.objs.size := by subst hce; rfl
  generalize hH3 : upd H2 D (.lst []) = H3 at I3 I4 pq pe q0 nfp f3
  generalize hs4 : ({ s3 with heap := pushCells (s3.heap.push { cls := .type "dict", data := .dict #[] }) scope.names } : Shared) = s4 at I4 ⊢
  have st4 : tn 0 s4.heap := T.keep _ _ _ st3 fun b _ o e => by rw [← hs4]; exact pushCells_keeps _ _ _ _ (Heap.get?_push_of_some _ e)
  have stat : ∀ H' : Hp, (∀ b ∈ fp, H' b = none) → ∀ b ∈ fp, FpOk (X.blk s3 H3 scope ce fp) [] H' b := fun H' hn b hb =>
    ⟨hn b hb, (I4.ok.exf b hb).1, I4.ok.exfs b hb, .inl hb, fun x c e => (I4.ok.exf b hb).2 x c e, fun p hp => absurd (show p ∈ ([] : List (Addr × Obj)) ++ [] from hp) (by simp)⟩
  rw [hcv] at q0
  have run := cl_run (Y := X.blk s3 H3 scope ce fp) hc (fun _ _ z => z) (elt := elt) (gens := ⟨tg, iter, ifs, 0⟩ :: gs) (scope := scope) (pos := pos) (D := D) pe pq 0 tg iter ifs gs c cs rfl rfl rfl [] (wipe σ (own.map (·.2))) H3 s4 it fp tn J (fun H2 => Q (.ref D) H2) I4 T st4 nfp stat q0
  refine codeAny_mono run fun r s6 hr => ?_
  cases r with
  | error e => exact hr.elim
  | ok f =>
    cases f with
    | brk => exact hr.elim
    | cont => exact hr.elim
    | ret v => exact hr.elim
    | next =>
      obtain ⟨H5, I6, qq⟩ := hr
      have I7 : Inv X pins σ H5 s6 := I3.call' (ch := fp) I6.os I6.base I6.hok I6.bare fun b hb => ⟨(f3 b hb).1.2.2.2.1, (f3 b hb).1.2.1, (f3 b hb).1.2.2.2.2.1, (f3 b hb).1.2.2.2.2.2⟩
      have nC : H5 s3.heap.objs.size = none := by
        have z : H5 ce.locals = none := I6.free
        rw [cL] at z
        exact z
      obtain ⟨m, hn, _⟩ := I6.loc
      have hn : s6.heap.Ns ce.locals m := hn
      rw [cL] at hn
      exact hRR D s3.heap.objs.size s6 m H5 I7 qq hn (I3.fpOk (Nat.le_refl _) nC)
theorem pe_lcN {elt tg iter : Expr} {ifs : List Expr} {gs : List Comprehension} {scope : Scope} {own : List (Str × Nat)} {pos : Pos} {wi : TI} {c : CL} {cs : List CL} {te : TE} (hc : X.calm = true) (hN : X.N.Nodup) (hi : PI X tg iter wi) (ok : BlkOk X.N X.env.scope scope own) (hcv : c.vs = own.map (·.2))
    (hq : ∀ (s : Shared) (H : Hp) (C : Addr) (cl : List (Str × Addr)) (fp : List Addr), QCls (X.blk s H scope (compEnvC scope cl C X.env) fp) (⟨tg, iter, ifs, 0⟩ :: gs) (c :: cs))
    (he : ∀ (s : Shared) (H : Hp) (C : Addr) (cl : List (Str × Addr)) (fp : List Addr), PE (X.blk s H scope (compEnvC scope cl C X.env) fp) elt te) (hs : ∀ x, foldedSetIterable iter X.env x = pure x := by intro _; rfl) :
    PE X (.ListComp elt (⟨tg, iter, ifs, 0⟩ :: gs) scope pos) (tLcN wi c cs te) := by
  refine ⟨fun pins s σ H Q I h => ?_⟩
  rw [eval_ListComp]
  refine lcN_core hc hN I hi ok hcv hq he hs h fun D C s' m H' I' q hn f => ⟨m, hn, fun h'' sb => ?_⟩
  obtain ⟨f0, f1, f2, f3, f4, f5⟩ := f
  exact ⟨.ref D, H', I'.turned (t' := s'.toks) (fun b o hb e => (sb.2 b hb).trans e) f0 f1 f3 f4 f5, rfl, q⟩
theorem ps_setLcN {i : Nat} {y : Str} {py : Pos} {elt tg iter : Expr} {ifs : List Expr} {gs : List Comprehension} {scope : Scope} {own : List (Str × Nat)} {pos spos : Pos} {wi : TI} {c : CL} {cs : List CL} {te : TE} (hc : X.calm = true) (hN : X.N.Nodup) (hy : X.N[i]? = some y) (hyl : X.env.scope.names.lookup y = some .local)
    (hsw : swapsWith (.ListComp elt (⟨tg, iter, ifs, 0⟩ :: gs) scope pos) (some (.Name y py)) spos.line X.env = pure true) (hi : PI X tg iter wi) (ok : BlkOk X.N X.env.scope scope own) (hcv : c.vs = own.map (·.2))
    (hq : ∀ (s : Shared) (H : Hp) (C : Addr) (cl : List (Str × Addr)) (fp : List Addr), QCls (X.blk s H scope (compEnvC scope cl C X.env) fp) (⟨tg, iter, ifs, 0⟩ :: gs) (c :: cs))
    (he : ∀ (s : Shared) (H : Hp) (C : Addr) (cl : List (Str × Addr)) (fp : List Addr), PE (X.blk s H scope (compEnvC scope cl C X.env) fp) elt te) (hs : ∀ x, foldedSetIterable iter X.env x = pure x := by intro _; rfl) :
    PS X (.Assign [.Name y py] (.ListComp elt (⟨tg, iter, ifs, 0⟩ :: gs) scope pos) spos) (tAsg (tLcN wi c cs te) (gName i)) := by
  refine ⟨fun pins s σ H D I h => ?_⟩
  rw [exec_Assign_Name_used _ _ _ _ hsw]
  refine wpAny_bind (wpAny_standAt (wpAny_bind ?_))
  show wpAny _ X.A (do let _ ← comprehension (.ListComp elt (⟨tg, iter, ifs, 0⟩ :: gs) scope pos) scope X.env (firstIterPos (⟨tg, iter, ifs, 0⟩ :: gs) pos) (newList []) false (eval iter X.env) (some (assign (.Name y py) X.env))) _ _ s
  have h : tLcN wi c cs te σ H (fun x H1 => gName i x σ H1 D.nx) := h
  refine wpAny_bind (thn (lcN_core (Qf := fun _ s' => SP X pins D .next s') hc hN I hi ok hcv hq he hs h fun L C s' m H' I' q hn f => ?_) fun _ s' hq => wpAny_pure (wpAny_pure hq))
  show wpAny _ _ (assign (.Name y py) X.env (.ref L)) _ _ _
  refine wpAny_assign_Name (store_ok2 (v := V.ref L) I' hN hy (.inl hyl) rfl (fun s2 I2 ⟨a, sb, ha⟩ => ?_) (.inr hyl))
  obtain ⟨f0, f1, f2, f3, f4, f5⟩ := f
  have haC : C ≠ a := by
    rcases ha with z | z
    · rw [z]; exact f1
    · exact fun e => f4 y a z e.symm
  refine ⟨m, hn.sameBut sb haC, fun h3 sb3 => ?_⟩
  exact ⟨_, H', I2.turned (t' := s2.toks) (fun b o hb e => (sb3.2 b hb).trans e) f0 f1 f3 f4 f5, q⟩
end
end L2

/-! Q32: .. by mirrors. -/
namespace Q
open PySem PySem.Spec PyProof.Rows L2
structure MC where
  it : MI
  g : MG
  t : MB
  vs : List Nat
open Classical in
noncomputable def lcW (G : AH → Prop) (g : MG) (t : MB) (inner : AS → List D → AH → Res (List D)) (σ : AS) : List D → List D → AH → Res (List D)
  | [], acc, h => if G h then .ok acc h else .stuck
  | d :: ds, acc, h => if G h then (match g d σ h with
    | some (σ1, h1) => match t σ1 h1 with
      | .ok true h2 => match inner σ1 acc h2 with
        | .ok acc' h3 => lcW G g t inner σ ds acc' h3
        | _ => .stuck
      | .ok false h2 => lcW G g t inner σ ds acc h2
      | _ => .stuck
    | none => .stuck) else .stuck
noncomputable def lcN (m : M) : List MC → AS → List D → AH → Res (List D)
  | [], σ, acc, h => match m σ h with
    | .ok y h' => if acc.length < 16777216 then .ok (acc ++ [y]) h' else .stuck
    | _ => .stuck
  | c :: cs, σ, acc, h => match c.it σ h with
    | .ok p h1 => lcW p.2 c.g c.t (lcN m cs) (wipeA σ c.vs) p.1 acc h1
    | _ => .stuck
noncomputable def eLcN (c : MC) (cs : List MC) (m : M) : M := fun σ h => (c.it σ h).bind fun p h1 => (lcW p.2 c.g c.t (lcN m cs) (wipeA (wipeA σ c.vs) c.vs) p.1 [] h1).bind fun ds h2 => .ok (.fro ds) h2
/-- a walk, by the program, the world and the fragment -/
structure WalkK (P : Program) (w : World) (K : PySem.W.Frag) (H0 : Hp) (μ0 : Mu) (p : List D × (AH → Prop)) (J : It) : Prop where
  goes : ∀ (i : Nat) (H : Hp) (μ : Mu) (h : AH), i < p.1.length → Stp0 μ0 μ H0 H → RelH P w K H μ h → p.2 h → J.go i H
  stops : ∀ (H : Hp) (μ : Mu) (h : AH), Stp0 μ0 μ H0 H → RelH P w K H μ h → p.2 h → J.stop p.1.length H
  yields : ∀ (i : Nat) (H : Hp) (μ : Mu) (h : AH) (x : V) (H' : Hp), i < p.1.length → Stp0 μ0 μ H0 H → RelH P w K H μ h → p.2 h → J.yld i H x H' → ∃ d, p.1[i]? = some d ∧ Stp μ μ H H' ∧ RelH P w K H' μ h ∧ RD K H' μ d x
theorem WalkD.k {X : Cx} {H0 : Hp} {μ0 : Mu} {p : List D × (AH → Prop)} {J : It} (w : WalkD X H0 μ0 p J) : WalkK X.prog X.w X.K H0 μ0 p J := ⟨w.goes, w.stops, w.yields⟩
theorem WalkK.later {P : Program} {w : World} {K : PySem.W.Frag} {H0 H1 : Hp} {μ0 μ1 : Mu} {p : List D × (AH → Prop)} {J : It} (s : Stp0 μ0 μ1 H0 H1) (k : WalkK P w K H0 μ0 p J) : WalkK P w K H1 μ1 p J :=
  ⟨fun i H μ h hi t => k.goes i H μ h hi (s.trans t), fun H μ h t => k.stops H μ h (s.trans t), fun i H μ h x H' hi t => k.yields i H μ h x H' hi (s.trans t)⟩
abbrev tIk (X : Cx) (W : WX) (m : MI) : TI := tG X W (WalkK X.prog X.w X.K) m
theorem QI.k {X Y : Cx} {W : WX} {tg e : Expr} {m : MI} (h : QI Y W tg m e) (e1 : Y.prog = X.prog := by rfl) (e2 : Y.w = X.w := by rfl) (e3 : Y.K = X.K := by rfl) (e4 : Y.mg = X.mg := by rfl) : PI Y tg e (tIk X W m) :=
  ⟨fun pins s τ H R I ⟨σ, h0, μ, rs, rh, q⟩ => h.run pins s τ H R I ⟨σ, h0, μ, e3 ▸ rs, by rw [e1, e2, e3]; exact rh, by
    cases e : m σ h0 with
    | stuck => rw [e] at q; exact q
    | ok p h1 =>
      rw [e] at q
      intro J H' μ' s' rh' wk
      refine q J H' μ' s' (by rw [← e1, ← e2, ← e3]; exact rh') ?_
      have := wk.k
      rw [e1, e2, e3] at this
      exact this
    | ex x h1 =>
      rw [e] at q
      intro c dd H' μ' s' rh' rx
      exact q c dd H' μ' s' (by rw [← e1, ← e2, ← e3]; exact rh') (by rw [← e3, ← e4]; exact rx)⟩⟩
/-- the list A that is being made, from the state H1, μ1 on -/
structure CurL (P : Program) (w : World) (K : PySem.W.Frag) (H1 : Hp) (μ1 : Mu) (A : Addr) (H : Hp) (μ : Mu) (h : AH) (acc : List D) (xs : List V) : Prop where
  st0 : Stp0 μ1 μ H1 H
  st : Stp μ1 ⟨μ.l, μ1.f⟩ H1 H
  hf : μ.f = A :: μ1.f
  rh : RelH P w K H μ h
  ha : H A = some (.lst xs)
  ra : RDs K H μ acc xs
theorem CurL.go {P : Program} {w : World} {K : PySem.W.Frag} {H1 H H' : Hp} {μ1 μ μ' : Mu} {A : Addr} {h h' : AH} {acc : List D} {xs : List V} (hA : H1 A = none) (c : CurL P w K H1 μ1 A H μ h acc xs) (s : Stp μ μ' H H') (rh : RelH P w K H' μ' h') : CurL P w K H1 μ1 A H' μ' h' acc xs where
  st0 := c.st0.trans s.toStp0
  st := c.st.within (f := μ1.f) hA c.hf s rh.dj
  hf := s.fz.trans c.hf
  rh := rh
  ha := s.hid _ _ (by rw [c.hf]; exact List.mem_cons_self) c.ha
  ra := c.ra.stp s
section
variable {X : Cx} {H1 : Hp} {μ1 : Mu} {A : Addr}
/-- what an inner mirror means for a reading -/
def InnerOk (X : Cx) (H1 : Hp) (μ1 : Mu) (A : Addr) (inner : AS → List D → AH → Res (List D)) (r : L2.St → Hp → (Hp → Prop) → Prop) : Prop :=
  ∀ (σ : AS) (τ : L2.St) (h : AH) (acc : List D) (H : Hp) (μ : Mu) (xs : List V) (K : Hp → Prop), CurL X.prog X.w X.K H1 μ1 A H μ h acc xs → RelS X.K H μ σ τ →
    (∃ acc' h', inner σ acc h = .ok acc' h' ∧ ∀ (H' : Hp) (μ' : Mu) (xs' : List V), Stp0 μ μ' H H' → CurL X.prog X.w X.K H1 μ1 A H' μ' h' acc' xs' → K H') → r τ H K
theorem rIt_of (hA : H1 A = none) {g : MG} {t : MB} {vs is : List Nat} {wi : TI} {inner : AS → List D → AH → Res (List D)} {r : L2.St → Hp → (Hp → Prop) → Prop} (his : ∀ j, j ∈ is → j ∈ vs) (hin : InnerOk X H1 μ1 A inner r)
    {J : It} {ds : List D} {G : AH → Prop} {H0 : Hp} {μ0 : Mu} (w : WalkK X.prog X.w X.K H0 μ0 (ds, G) J) {σ : AS} {τ : L2.St} (rs0 : RelS X.K H0 μ0 σ τ) {h : AH} {acc : List D} {xs : List V} (cu : CurL X.prog X.w X.K H1 μ1 A H0 μ0 h acc xs) {K : Hp → Prop}
    (q : ∃ acc' h', lcW G g t inner (wipeA σ vs) ds acc h = .ok acc' h' ∧ ∀ (H' : Hp) (μ' : Mu) (xs' : List V), Stp0 μ0 μ' H0 H' → CurL X.prog X.w X.K H1 μ1 A H' μ' h' acc' xs' → K H') :
    rIt J ⟨wi, tGt X g is, tT X WNever t, vs⟩ r τ H0 K := by
  refine ⟨fun i m' H => m' = ds.length - i ∧ i ≤ ds.length ∧ ∃ h μ acc xs, Stp0 μ0 μ H0 H ∧ CurL X.prog X.w X.K H1 μ1 A H μ h acc xs ∧ ∃ acc' h', lcW G g t inner (wipeA σ vs) (ds.drop i) acc h = .ok acc' h' ∧ ∀ (H' : Hp) (μ' : Mu) (xs' : List V), Stp0 μ0 μ' H0 H' → CurL X.prog X.w X.K H1 μ1 A H' μ' h' acc' xs' → K H',
    ⟨ds.length, rfl, Nat.zero_le _, h, μ0, acc, xs, ⟨fun _ _ z => z, fun a m n => absurd m n, fun _ _ z _ => z⟩, cu, by rw [List.drop_zero]; exact q⟩, ?_⟩
  rintro i m' H ⟨rfl, hi, h, μ, acc, xs, st, cu, acc', h', q, fin⟩
  by_cases hlt : i < ds.length
  · rw [List.drop_eq_getElem_cons hlt, lcW] at q
    by_cases hG : G h
    · rw [if_pos hG] at q
      refine .inr ⟨w.goes i H μ h hlt st cu.rh hG, fun H => ∃ h μ acc xs, Stp0 μ0 μ H0 H ∧ CurL X.prog X.w X.K H1 μ1 A H μ h acc xs ∧ ∃ acc' h', lcW G g t inner (wipeA σ vs) (ds.drop (i + 1)) acc h = .ok acc' h' ∧ ∀ (H' : Hp) (μ' : Mu) (xs' : List V), Stp0 μ0 μ' H0 H' → CurL X.prog X.w X.K H1 μ1 A H' μ' h' acc' xs' → K H',
        fun H' p' => ⟨ds.length - (i + 1), by omega, rfl, hlt, p'⟩, fun x H' y => ?_⟩
      obtain ⟨d, ed, st', rh', rd⟩ := w.yields i H μ h x H' hlt st cu.rh hG y
      have ed' : ds[i] = d := by
        rw [List.getElem?_eq_getElem hlt] at ed
        exact Option.some.inj ed
      rw [ed'] at q
      have cu1 := cu.go hA st' rh'
      have rs1 : RelS X.K H' μ σ τ := ⟨rs0.1, fun i d e => let ⟨v, a, b⟩ := rs0.2 i d e; ⟨v, a, b.stp0 (st.trans st'.toStp0)⟩⟩
      refine ⟨d, wipeA σ vs, h, μ, rs1.wipe vs, rh', rd, ?_⟩
      cases eg : g d (wipeA σ vs) h with
      | none => rw [eg] at q; cases q
      | some p =>
        obtain ⟨σ1, h2⟩ := p
        rw [eg] at q
        dsimp only at q
        refine ⟨σ1, h2, rfl, fun τ2 H2 μ2 st2 rs2 rh2 hl2 f2 => ⟨?_, σ1, h2, μ2, rs2, rh2, ?_⟩⟩
        · have e1 : L2.wipe τ2 vs = L2.wipe (L2.wipe τ vs) vs := wipe_ext hl2 fun j hj => f2 j fun z => hj (his j z)
          show L2.wipe τ2 vs = L2.wipe τ vs
          rw [e1]
          exact wipe_ext (wipe_length _ _) fun j hj => wipe_get hj
        cases et : t σ1 h2 with
        | stuck => rw [et] at q; cases q
        | ex e h3 => rw [et] at q; cases q
        | ok k h3 =>
          rw [et] at q
          intro b H3 μ3 st3 rh3 rb
          cases (show k = b from rb)
          have cu3 := (cu1.go hA st2 rh2).go hA st3 rh3
          have sta := st.trans ((st'.trans st2).trans st3).toStp0
          cases k with
          | false =>
            rw [if_neg Bool.false_ne_true]
            exact ⟨h3, μ3, acc, xs, sta, cu3, acc', h', q, fin⟩
          | true =>
            rw [if_pos rfl]
            dsimp only at q
            cases ei : inner σ1 acc h3 with
            | stuck => rw [ei] at q; cases q
            | ex e h4 => rw [ei] at q; cases q
            | ok acc2 h4 =>
              rw [ei] at q
              exact hin σ1 τ2 h3 acc H3 μ3 xs _ cu3 (rs2.stp st3) ⟨acc2, h4, ei, fun H4 μ4 xs4 s4 cu4 => ⟨h4, μ4, acc2, xs4, sta.trans s4, cu4, acc', h', q, fin⟩⟩
    · rw [if_neg hG] at q
      cases q
  · have eI : i = ds.length := by omega
    subst eI
    rw [List.drop_length, lcW] at q
    by_cases hG : G h
    · rw [if_pos hG] at q
      cases q
      exact .inl ⟨w.stops H μ h st cu.rh hG, fin H μ xs st cu⟩
    · rw [if_neg hG] at q
      cases q
/-- clauses in step with their readings -/
inductive MCs (X : Cx) : List MC → List CL → Prop
  | nil : MCs X [] []
  | cons {c : MC} {is : List Nat} {cs : List MC} {cls : List CL} : (∀ j, j ∈ is → j ∈ c.vs) → MCs X cs cls → MCs X (c :: cs) (⟨tIk X WNever c.it, tGt X c.g is, tT X WNever c.t, c.vs⟩ :: cls)
theorem inner_ok (hA : H1 A = none) {m : M} {cs : List MC} {cls : List CL} (h : MCs X cs cls) : InnerOk X H1 μ1 A (lcN m cs) (tIn (tE X WNever m) A cls) := by
  induction h with
  | nil =>
    intro σ τ h acc H μ xs K cu rs ⟨acc', h', q, fin⟩
    show tE X WNever m τ H _
    refine ⟨σ, h, μ, rs, cu.rh, ?_⟩
    rw [lcN] at q
    cases em : m σ h with
    | stuck => rw [em] at q; cases q
    | ex e h4 => rw [em] at q; cases q
    | ok yd h4 =>
      rw [em] at q
      intro v H4 μ4 st4 rh4 rv
      dsimp only at q
      by_cases hl : acc.length < 16777216
      · rw [if_pos hl] at q
        cases q
        have cu4 := cu.go hA st4 rh4
        have mA4 : A ∈ μ4.f := by rw [cu4.hf]; exact List.mem_cons_self
        have pk : Stp0 μ4 μ4 H4 (upd H4 A (.lst (xs ++ [v]))) := Stp0.poke mA4
        refine ⟨xs, cu4.ha, by rw [sizeLine_eq, cu.ra.length]; exact hl, fin _ μ4 (xs ++ [v]) (st4.toStp0.trans pk) ⟨cu4.st0.trans pk, cu4.st.poke_new hA, cu4.hf, rh4.poke mA4, upd_same, ?_⟩⟩
        exact (cu4.ra.append (.cons rv .nil)).stp0 pk
      · rw [if_neg hl] at q
        cases q
  | @cons c is cs cls his hcs ih =>
    intro σ τ h acc H μ xs K cu rs ⟨acc', h', q, fin⟩
    show tIk X WNever c.it τ H _
    refine ⟨σ, h, μ, rs, cu.rh, ?_⟩
    rw [lcN] at q
    cases em : c.it σ h with
    | stuck => rw [em] at q; cases q
    | ex e h4 => rw [em] at q; cases q
    | ok p h4 =>
      rw [em] at q
      intro J H4 μ4 st4 rh4 wk
      obtain ⟨ds, G⟩ := p
      exact rIt_of hA his ih wk (rs.stp st4) (cu.go hA st4 rh4) ⟨acc', h', q, fun H' μ' xs' s5 cu5 => fin H' μ' xs' (st4.toStp0.trans s5) cu5⟩
theorem lcN_go {W : WX} {c : MC} {is : List Nat} {cs : List MC} {cls : List CL} {m : M} (his : ∀ j, j ∈ is → j ∈ c.vs) (hcs : MCs X cs cls) : ∀ τ H Q, tE X W (eLcN c cs m) τ H Q → tLcN (tI X W c.it) ⟨tIk X WNever c.it, tGt X c.g is, tT X WNever c.t, c.vs⟩ cls (tE X WNever m) τ H Q := fun τ H Q ⟨σ, h, μ, rs, rh, q⟩ =>
  go rs rh q fun p h1 J H1 μ1 s1 rs1 rh1 w q1 A hA => by
    obtain ⟨ds, G⟩ := p
    have s0 : Stp0 μ1 (μ1.hide A) H1 (upd H1 A (.lst [])) := Stp0.hide hA
    have rs2 : RelS X.K (upd H1 A (.lst [])) (μ1.hide A) σ τ := ⟨rs1.1, fun i d e => let ⟨v, a, b⟩ := rs1.2 i d e; ⟨v, a, b.stp0 s0⟩⟩
    have cu : CurL X.prog X.w X.K H1 μ1 A (upd H1 A (.lst [])) (μ1.hide A) h1 [] [] := ⟨s0, Stp.laid hA, rfl, rh1.hide hA, upd_same, .nil⟩
    cases e : lcW G c.g c.t (lcN m cs) (wipeA (wipeA σ c.vs) c.vs) ds [] h1 with
    | stuck => dsimp only at q1; rw [e] at q1; exact q1.elim
    | ex x h' => dsimp only at q1; rw [e] at q1; exact (by
        have hno : ∀ (ds acc : List D) (h : AH), lcW G c.g c.t (lcN m cs) (wipeA (wipeA σ c.vs) c.vs) ds acc h ≠ .ex x h' := by
          intro ds
          induction ds with
          | nil => intro acc h; rw [lcW]; split <;> intro z <;> cases z
          | cons d ds ih =>
            intro acc h
            rw [lcW]
            split
            · split
              · split
                · split
                  · exact ih _ _
                  · intro z; cases z
                · exact ih _ _
                · intro z; cases z
              · intro z; cases z
            · intro z; cases z
        exact absurd e (hno _ _ _))
    | ok acc' h' =>
      dsimp only at q1
      rw [e] at q1
      refine rIt_of hA his (inner_ok (X := X) (m := m) hA hcs) ((w.k).later s0) (rs2.wipe c.vs) cu ⟨acc', h', e, fun H' μ' xs' s5 cu5 => ?_⟩
      have mA : A ∈ μ'.f := by rw [cu5.hf]; exact List.mem_cons_self
      have sh : Stp0 μ' ⟨μ'.l, μ1.f⟩ H' H' := Stp0.show fun a m => by rw [cu5.hf]; exact List.mem_cons_of_mem _ m
      refine q1 _ H' ⟨μ'.l, μ1.f⟩ cu5.st (cu5.rh.show fun a m => by rw [cu5.hf]; exact List.mem_cons_of_mem _ m) (.fro cu5.ha (fun z => ?_) (cu5.ra.stp0 sh))
      rcases z with z | z
      · exact cu5.rh.dj A z mA
      · obtain ⟨u, e⟩ := rh1.fo A z
        rw [hA] at e; cases e
theorem q_lcN {W : WX} {it : MI} {g : MG} {t : MB} {vs is : List Nat} {cs : List MC} {cls : List CL} {m : M} {elt tg iter : Expr} {ifs : List Expr} {gs : List Comprehension} {scope : Scope} {own : List (Str × Nat)} {pos : Pos} (hc : X.calm = true) (hN : X.N.Nodup) (hi : QI X W tg it iter) (ok : BlkOk X.N X.env.scope scope own) (hcv : vs = own.map (·.2)) (his : ∀ j, j ∈ is → j ∈ vs) (hcs : MCs X cs cls)
    (hq : ∀ (s : Shared) (H : Hp) (C : Addr) (cl : List (Str × Addr)) (fp : List Addr), QCls (X.blk s H scope (compEnvC scope cl C X.env) fp) (⟨tg, iter, ifs, 0⟩ :: gs) (⟨tIk X WNever it, tGt X g is, tT X WNever t, vs⟩ :: cls))
    (he : ∀ (s : Shared) (H : Hp) (C : Addr) (cl : List (Str × Addr)) (fp : List Addr), QE (X.blk s H scope (compEnvC scope cl C X.env) fp) WNever m elt) (hs : ∀ x, foldedSetIterable iter X.env x = pure x := by intro _; rfl) :
    QE X W (eLcN ⟨it, g, t, vs⟩ cs m) (.ListComp elt (⟨tg, iter, ifs, 0⟩ :: gs) scope pos) :=
  QE.of (pe_lcN hc hN hi ok hcv hq (te := tE X WNever m) he hs) (lcN_go (c := ⟨it, g, t, vs⟩) his hcs)
theorem qs_setLcN {W : WX} {it : MI} {g : MG} {t : MB} {vs is : List Nat} {cs : List MC} {cls : List CL} {m : M} {i : Nat} {y : Str} {py : Pos} {elt tg iter : Expr} {ifs : List Expr} {gs : List Comprehension} {scope : Scope} {own : List (Str × Nat)} {pos spos : Pos} (hc : X.calm = true) (hN : X.N.Nodup) (hy : X.N[i]? = some y) (hyl : X.env.scope.names.lookup y = some .local)
    (hsw : swapsWith (.ListComp elt (⟨tg, iter, ifs, 0⟩ :: gs) scope pos) (some (.Name y py)) spos.line X.env = pure true) (hi : QI X W tg it iter) (ok : BlkOk X.N X.env.scope scope own) (hcv : vs = own.map (·.2)) (his : ∀ j, j ∈ is → j ∈ vs) (hcs : MCs X cs cls)
    (hq : ∀ (s : Shared) (H : Hp) (C : Addr) (cl : List (Str × Addr)) (fp : List Addr), QCls (X.blk s H scope (compEnvC scope cl C X.env) fp) (⟨tg, iter, ifs, 0⟩ :: gs) (⟨tIk X WNever it, tGt X g is, tT X WNever t, vs⟩ :: cls))
    (he : ∀ (s : Shared) (H : Hp) (C : Addr) (cl : List (Str × Addr)) (fp : List Addr), QE (X.blk s H scope (compEnvC scope cl C X.env) fp) WNever m elt) (hs : ∀ x, foldedSetIterable iter X.env x = pure x := by intro _; rfl) :
    QS X W (sAsg (eLcN ⟨it, g, t, vs⟩ cs m) (gSlot i)) (.Assign [.Name y py] (.ListComp elt (⟨tg, iter, ifs, 0⟩ :: gs) scope pos) spos) :=
  PS.of (ps_setLcN hc hN hy hyl hsw hi ok hcv hq (te := tE X WNever m) he hs) fun D τ H ⟨σ, h, μ, rs, rh, q⟩ =>
    lcN_go (c := ⟨it, g, t, vs⟩) his hcs τ H _ (goS rs rh q fun d h1 v H1 μ1 s1 rs1 rh1 rd q1 => q1 _ H1 μ1 Stp.refl (rs1.set rd i) rh1)
end
end Q

/-! Q33: min(a, b), max(a, b). -/
namespace PySem.W
open PySem PySem.Spec
section
variable {prog : Program} {w : World} {A : Around} {E : Value → Shared → Prop} {s : Shared}
theorem q_min_twoH {a b : Value} {Q : Value → Shared → Prop}
    (h : wpAny (model prog w) A.in1 (pyIter (.ref s.heap.objs.size)) (fun it s₂ => ∃ I fp wr G n P St H bt, it = .ref I ∧ WalksS prog w A.in1 I fp wr G n P St ∧ St 0 s₂ ∧ (∀ b ∈ fp, b < s₂.heap.objs.size) ∧ 0 < n ∧
      (∀ b o, H.get? b = some o → b ∉ wr) ∧ (∀ b o, H.get? b = some o → s₂.heap.get? b = some o) ∧ CmpIn prog w A.in1 .Lt H P bt ∧ ∀ v s', P (argBest bt (n - 1)) v → Moved wr G s₂ s' → Q v s') E { s with heap := s.heap.push { cls := .type "tuple", data := .seq #[a, b] } }) :
    wpAny (model prog w) A (call (.builtin "min") [a, b]) Q E s := by
  have hname : (toString "min" ++ toString ".loop" : String) = "min.loop" := by decide
  refine call_function_tree F.kind_min F.plain_min F.entry_min (F.args_min2 _ _) ?_
  show wpAny _ A.in1 (Builtin.Builtins.bindParams "min" ["key", "default"] 0 ⟨[], []⟩ >>= _) _ _ s
  refine wpAny_bind (wpAny_of_eq (show Builtin.Builtins.bindParams "min" ["key", "default"] 0 ⟨[], []⟩ = pure [none, none] from rfl) ?_)
  show wpAny _ A.in1 (newTuple [a, b] >>= _) _ _ s
  refine wpAny_bind (wpAny_newObj_type ?_)
  refine wpAny_bind (wpAny_mono h (fun it s₂ h₂ => ?_) fun _ _ e => e)
  obtain ⟨I, fp, wr, G, n, P, St, H, bt, rfl, W, hst, hfp, hn, hw, hkeep, hcmp, hQ⟩ := h₂
  refine wpAny_bind (wpAny_newObj_type ?_)
  have hSf : s₂.heap.objs.size ∉ fp := fun hm => Nat.lt_irrefl _ (hfp _ hm)
  rw [hname]
  refine wpAny_pure ⟨plainId_quiet F.plain_min_loop _, codeAny_min_loop_firstH W H hw bt hcmp s₂.heap.objs.size hSf (fresh_in hkeep) _ hn (fun b o e => Heap.get?_push_of_some _ (hkeep b o e)) (W.frame 0 s₂ _ s₂.toks hst (Nat.le_refl _) fun b _ o e => Heap.get?_push_of_some _ e) (Heap.get?_push_size _ rfl) fun v s' hP hm => ?_⟩
  exact hQ v s' hP (Moved.drop_new (tk := s₂.toks) hm (Nat.le_refl _))
theorem q_max_twoH {a b : Value} {Q : Value → Shared → Prop}
    (h : wpAny (model prog w) A.in1 (pyIter (.ref s.heap.objs.size)) (fun it s₂ => ∃ I fp wr G n P St H bt, it = .ref I ∧ WalksS prog w A.in1 I fp wr G n P St ∧ St 0 s₂ ∧ (∀ b ∈ fp, b < s₂.heap.objs.size) ∧ 0 < n ∧
      (∀ b o, H.get? b = some o → b ∉ wr) ∧ (∀ b o, H.get? b = some o → s₂.heap.get? b = some o) ∧ CmpIn prog w A.in1 .Gt H P bt ∧ ∀ v s', P (argBest bt (n - 1)) v → Moved wr G s₂ s' → Q v s') E { s with heap := s.heap.push { cls := .type "tuple", data := .seq #[a, b] } }) :
    wpAny (model prog w) A (call (.builtin "max") [a, b]) Q E s := by
  have hname : (toString "max" ++ toString ".loop" : String) = "max.loop" := by decide
  refine call_function_tree F.kind_max F.plain_max F.entry_max (F.args_max2 _ _) ?_
  show wpAny _ A.in1 (Builtin.Builtins.bindParams "max" ["key", "default"] 0 ⟨[], []⟩ >>= _) _ _ s
  refine wpAny_bind (wpAny_of_eq (show Builtin.Builtins.bindParams "max" ["key", "default"] 0 ⟨[], []⟩ = pure [none, none] from rfl) ?_)
  show wpAny _ A.in1 (newTuple [a, b] >>= _) _ _ s
  refine wpAny_bind (wpAny_newObj_type ?_)
  refine wpAny_bind (wpAny_mono h (fun it s₂ h₂ => ?_) fun _ _ e => e)
  obtain ⟨I, fp, wr, G, n, P, St, H, bt, rfl, W, hst, hfp, hn, hw, hkeep, hcmp, hQ⟩ := h₂
  refine wpAny_bind (wpAny_newObj_type ?_)
  have hSf : s₂.heap.objs.size ∉ fp := fun hm => Nat.lt_irrefl _ (hfp _ hm)
  rw [hname]
  refine wpAny_pure ⟨plainId_quiet F.plain_max_loop _, codeAny_max_loop_firstH W H hw bt hcmp s₂.heap.objs.size hSf (fresh_in hkeep) _ hn (fun b o e => Heap.get?_push_of_some _ (hkeep b o e)) (W.frame 0 s₂ _ s₂.toks hst (Nat.le_refl _) fun b _ o e => Heap.get?_push_of_some _ e) (Heap.get?_push_size _ rfl) fun v s' hP hm => ?_⟩
  exact hQ v s' hP (Moved.drop_new (tk := s₂.toks) hm (Nat.le_refl _))
theorem q_min_two {a b : Value} {x y : PyData} {as bs : List Addr} {Q : Value → Shared → Prop} (hh : A.handled = none) (ra : Reads s.heap a x as) (rb : Reads s.heap b y bs) (ha : AlikeAll [x, y]) (hu : A.units + 1 + PyData.depthAll [x, y] < cLine)
    (h : ∀ h' tk, (∀ b o, s.heap.get? b = some o → h'.get? b = some o) → Q (if dataLt y x = true then b else a) { s with heap := h', toks := tk }) :
    wpAny (model prog w) A (call (.builtin "min") [a, b]) Q E s := by
  refine q_min_twoH ?_
  generalize hs1 : ({ s with heap := s.heap.push { cls := .type "tuple", data := .seq #[a, b] } } : Shared) = s1
  have hk1 : ∀ c o, s.heap.get? c = some o → s1.heap.get? c = some o := fun c o e => by rw [← hs1]; exact Heap.get?_push_of_some _ e
  have hT : s1.heap.IsTuple s.heap.objs.size #[a, b] := by rw [← hs1]; exact ⟨_, Heap.get?_push_size _ rfl, rfl, 0, rfl⟩
  have hr : ReadsAll s1.heap (#[a, b] : Array Value).toList [x, y] _ := .cons (reads_keeps hk1 ra) (.cons (reads_keeps hk1 rb) .nil)
  refine iter_tupleW (A := A.in1) hh hT fun s₂ e W st hfp hw hk => ?_
  refine ⟨_, _, _, _, _, _, _, s1.heap, _, rfl, W, st, hfp, (by show 0 < 2; omega), hw, hk, cmpIn_lt (A := A.in1) hr ha (by show A.units + 1 + _ < _; exact hu), fun v s' hP m => ?_⟩
  obtain ⟨h', tk, rfl, hk'⟩ := moved_old e rfl m
  have e1 : v = if dataLt y x = true then b else a := by
    have hP' : (#[a, b] : Array Value)[argBest (fun i j => dataLt ([x, y].getD i .none) ([x, y].getD j .none)) 1]? = some v := hP
    by_cases hd : dataLt y x = true
    · have e2 : argBest (fun i j => dataLt ([x, y].getD i .none) ([x, y].getD j .none)) 1 = 1 := by simp [argBest, hd]
      rw [e2] at hP'
      simpa [hd] using hP'.symm
    · have e2 : argBest (fun i j => dataLt ([x, y].getD i .none) ([x, y].getD j .none)) 1 = 0 := by simp [argBest, hd]
      rw [e2] at hP'
      simpa [hd] using hP'.symm
  rw [e1]
  have := h h' tk fun c o q => hk' c o (hk1 c o q)
  rw [← hs1]
  exact this
theorem q_max_two {a b : Value} {x y : PyData} {as bs : List Addr} {Q : Value → Shared → Prop} (hh : A.handled = none) (ra : Reads s.heap a x as) (rb : Reads s.heap b y bs) (ha : AlikeAll [x, y]) (hu : A.units + 1 + PyData.depthAll [x, y] < cLine)
    (h : ∀ h' tk, (∀ b o, s.heap.get? b = some o → h'.get? b = some o) → Q (if dataLt x y = true then b else a) { s with heap := h', toks := tk }) :
    wpAny (model prog w) A (call (.builtin "max") [a, b]) Q E s := by
  refine q_max_twoH ?_
  generalize hs1 : ({ s with heap := s.heap.push { cls := .type "tuple", data := .seq #[a, b] } } : Shared) = s1
  have hk1 : ∀ c o, s.heap.get? c = some o → s1.heap.get? c = some o := fun c o e => by rw [← hs1]; exact Heap.get?_push_of_some _ e
  have hT : s1.heap.IsTuple s.heap.objs.size #[a, b] := by rw [← hs1]; exact ⟨_, Heap.get?_push_size _ rfl, rfl, 0, rfl⟩
  have hr : ReadsAll s1.heap (#[a, b] : Array Value).toList [x, y] _ := .cons (reads_keeps hk1 ra) (.cons (reads_keeps hk1 rb) .nil)
  refine iter_tupleW (A := A.in1) hh hT fun s₂ e W st hfp hw hk => ?_
  refine ⟨_, _, _, _, _, _, _, s1.heap, _, rfl, W, st, hfp, (by show 0 < 2; omega), hw, hk, cmpIn_gt (A := A.in1) hr ha (by show A.units + 1 + _ < _; exact hu), fun v s' hP m => ?_⟩
  obtain ⟨h', tk, rfl, hk'⟩ := moved_old e rfl m
  have e1 : v = if dataLt x y = true then b else a := by
    have hP' : (#[a, b] : Array Value)[argBest (fun i j => dataLt ([x, y].getD j .none) ([x, y].getD i .none)) 1]? = some v := hP
    by_cases hd : dataLt x y = true
    · have e2 : argBest (fun i j => dataLt ([x, y].getD j .none) ([x, y].getD i .none)) 1 = 1 := by simp [argBest, hd]
      rw [e2] at hP'
      simpa [hd] using hP'.symm
    · have e2 : argBest (fun i j => dataLt ([x, y].getD j .none) ([x, y].getD i .none)) 1 = 0 := by simp [argBest, hd]
      rw [e2] at hP'
      simpa [hd] using hP'.symm
  rw [e1]
  have := h h' tk fun c o q => hk' c o (hk1 c o q)
  rw [← hs1]
  exact this
end
end PySem.W
namespace Q
open PySem PySem.Spec PyProof.Rows L2
section
variable {X : Cx}
def ordP (p q : PyData) : Bool := PySem.W.alike p p && (PySem.W.alike p q && (PySem.W.alike q p && (PySem.W.alike q q && (notNone p && notNone q)))) && decide (PyData.depthAll [p, q] ≤ 60)
def gMin2 : FC := fun ds h => match ds with
  | [x, y] => match pd x, pd y with
    | some p, some q => if ordP p q = true then some (if PySem.W.dataLt q p = true then y else x, h) else none
    | _, _ => none
  | _ => none
def gMax2 : FC := fun ds h => match ds with
  | [x, y] => match pd x, pd y with
    | some p, some q => if ordP p q = true then some (if PySem.W.dataLt p q = true then y else x, h) else none
    | _, _ => none
  | _ => none
theorem ordP_ok {p q : PyData} (h : ordP p q = true) : PySem.W.AlikeAll [p, q] ∧ PyData.depthAll [p, q] ≤ 60 := by
  unfold ordP at h
  simp only [Bool.and_eq_true, decide_eq_true_eq] at h
  obtain ⟨⟨h1, h2, h3, h4, h5, h6⟩, h7⟩ := h
  refine ⟨⟨fun x hx y hy => ?_, fun x hx => ?_⟩, h7⟩
  · simp only [List.mem_cons, List.not_mem_nil, or_false] at hx hy
    rcases hx with rfl | rfl <;> rcases hy with rfl | rfl <;> assumption
  · simp only [List.mem_cons, List.not_mem_nil, or_false] at hx
    rcases hx with rfl | rfl
    · exact notNone_ne h5
    · exact notNone_ne h6
theorem cd_min2 (hc : X.calm = true) (hu : X.A.units + 64 < cLine) : CallD X (.builtin "min") gMin2 := fun pins s σ H vs us Q I rv ⟨ds, μ, h, rh, rds, q⟩ => by
  unfold gMin2 at q
  split at q
  · rename_i x y
    obtain ⟨v, u, rfl, rx, ry⟩ := rds.two
    obtain ⟨u1, u2, rfl, r1, r2⟩ := vals2 rv
    split at q
    · rename_i p r ep er
      split at q
      · rename_i ho
        obtain ⟨ha, hd⟩ := ordP_ok ho
        obtain ⟨⟨as, q1⟩, _⟩ := RD.reads I _ _ _ _ rx r1 ep
        obtain ⟨⟨bs, q2⟩, _⟩ := RD.reads I _ _ _ _ ry r2 er
        refine PySem.W.q_min_two (I.ok.hd hc) q1 q2 ha (by omega) fun h' tk hk => ?_
        have I' := I.kept (t' := tk) hk
        by_cases hl : PySem.W.dataLt r p = true
        · rw [if_pos hl] at q ⊢
          exact ⟨u, H, I', r2, q.now rfl rh ry⟩
        · rw [if_neg hl] at q ⊢
          exact ⟨v, H, I', r1, q.now rfl rh rx⟩
      · exact q.elim
    · exact q.elim
  · exact q.elim
theorem cd_max2 (hc : X.calm = true) (hu : X.A.units + 64 < cLine) : CallD X (.builtin "max") gMax2 := fun pins s σ H vs us Q I rv ⟨ds, μ, h, rh, rds, q⟩ => by
  unfold gMax2 at q
  split at q
  · rename_i x y
    obtain ⟨v, u, rfl, rx, ry⟩ := rds.two
    obtain ⟨u1, u2, rfl, r1, r2⟩ := vals2 rv
    split at q
    · rename_i p r ep er
      split at q
      · rename_i ho
        obtain ⟨ha, hd⟩ := ordP_ok ho
        obtain ⟨⟨as, q1⟩, _⟩ := RD.reads I _ _ _ _ rx r1 ep
        obtain ⟨⟨bs, q2⟩, _⟩ := RD.reads I _ _ _ _ ry r2 er
        refine PySem.W.q_max_two (I.ok.hd hc) q1 q2 ha (by omega) fun h' tk hk => ?_
        have I' := I.kept (t' := tk) hk
        by_cases hl : PySem.W.dataLt p r = true
        · rw [if_pos hl] at q ⊢
          exact ⟨u, H, I', r2, q.now rfl rh ry⟩
        · rw [if_neg hl] at q ⊢
          exact ⟨v, H, I', r1, q.now rfl rh rx⟩
      · exact q.elim
    · exact q.elim
  · exact q.elim
end
end Q

/-! Q34: a text in a text; d.get(k, x); join; list * n; gcd; while. -/
namespace Q
open PySem PySem.Spec PyProof.Rows L2
section
variable {X : Cx} {W : WX} {H : Hp} {μ : Mu} {h : AH}
/-! ### a text in a text -/
def dInT (neg : Bool) : F2 := fun x y h => match x, y with
  | .str a, .str b => some (.bl (neg != !(Builtin.Str.occurrences b a 0 b.length 1).isEmpty), h)
  | x, y => dIn neg x y h
theorem opd_inT (hu : X.A.units + 64 < cLine) : OpD X (compareOp .In) (dInT false) := fun pins s σ H v u v' u' Q I rv ru ⟨x, y, μ, h, rh, rx, ry, q⟩ => by
  unfold dInT at q
  split at q
  · rename_i a b
    cases rx; cases ry
    rw [Bool.false_bne] at q
    exact op_in_str pins s σ H _ _ v' u' Q I rv ru ⟨a, b, rfl, rfl, q.now rfl rh (.bl _)⟩
  · exact opd_in hu pins s σ H v u v' u' Q I rv ru ⟨x, y, μ, h, rh, rx, ry, q⟩
theorem opd_notInT (hu : X.A.units + 64 < cLine) : OpD X (compareOp .NotIn) (dInT true) := fun pins s σ H v u v' u' Q I rv ru ⟨x, y, μ, h, rh, rx, ry, q⟩ => by
  unfold dInT at q
  split at q
  · rename_i a b
    cases rx; cases ry
    rw [Bool.true_bne] at q
    exact op_notin_str pins s σ H _ _ v' u' Q I rv ru ⟨a, b, rfl, rfl, q.now rfl rh (.bl _)⟩
  · exact opd_notIn hu pins s σ H v u v' u' Q I rv ru ⟨x, y, μ, h, rh, rx, ry, q⟩
/-! ### list * n -/
def dRep : F2 := fun x y h => match x, y with
  | .fro ds, .int k => if (-(2 ^ 63) ≤ k ∧ k < 2 ^ 63) ∧ ds.length * k.toNat ≤ 16777216 then some (.fro (List.replicate k.toNat ds).flatten, h) else none
  | _, _ => none
theorem RDs.rep {K : PySem.W.Frag} {ds : List D} {xs : List V} (r : RDs K H μ ds xs) : ∀ k : Nat, RDs K H μ (List.replicate k ds).flatten (List.replicate k xs).flatten
  | 0 => .nil
  | k + 1 => by
    rw [List.replicate_succ, List.replicate_succ, List.flatten_cons, List.flatten_cons]
    exact r.append (RDs.rep r k)
theorem opd_rep : OpD X (binaryOp .Mult) dRep := .of op_rep fun v u H Q ⟨x, y, μ, h, rh, rx, ry, q⟩ => by
  unfold dRep at q
  split at q
  · rename_i ds k
    split at q
    · rename_i hc
      cases rx with
      | fro e n r =>
        cases ry
        exact ⟨_, k, _, rfl, rfl, e, hc.1.1, hc.1.2, by rw [sizeLine_eq, r.length]; exact hc.2, q.fro rh (r.rep _)⟩
    · exact q.elim
  · exact q.elim
/-! ### join -/
def asStrs : List D → Option (List Str)
  | [] => some []
  | .str s :: ds => (asStrs ds).map (s :: ·)
  | _ :: _ => none
theorem asStrs_map : ∀ ss : List Str, asStrs (ss.map .str) = some ss
  | [] => rfl
  | s :: ss => by rw [List.map_cons, asStrs, asStrs_map ss]; rfl
theorem asStrs_ok : ∀ {ds : List D} {ss : List Str}, asStrs ds = some ss → ds = ss.map .str
  | [], ss, e => by cases e; rfl
  | .str s :: ds, ss, e => by
    rw [asStrs] at e
    obtain ⟨t, e1, rfl⟩ := Option.map_eq_some_iff.mp e
    rw [asStrs_ok e1]; rfl
  | .non :: _, _, e => by cases e
  | .bl _ :: _, _, e => by cases e
  | .int _ :: _, _, e => by cases e
  | .tup _ :: _, _, e => by cases e
  | .fro _ :: _, _, e => by cases e
  | .scr _ :: _, _, e => by cases e
  | .ref _ :: _, _, e => by cases e
  | .exn _ _ _ _ _ :: _, _, e => by cases e
def mJoin : FM := fun x ds h => match x, ds with
  | .str a, [.tup es] => match asStrs es with
    | some ss => if (ss.map (·.length)).sum + ss.length * a.length ≤ 16777216 then some (.str (Txt.join a ss), h) else none
    | none => none
  | .str a, [.fro es] => match asStrs es with
    | some ss => if (ss.map (·.length)).sum + ss.length * a.length ≤ 16777216 then some (.str (Txt.join a ss), h) else none
    | none => none
  | _, _ => none
theorem md_join : MethD X "str.join" mJoin := .of mt_join fun v vs H Q ⟨x, ds, μ, h, rh, rx, rds, q⟩ => by
  unfold mJoin at q
  split at q
  · split at q
    · rename_i a es ss e
      split at q
      · rename_i hl
        obtain ⟨u, rfl, ru⟩ := rds.one
        cases rx
        cases ru with
        | tup t r =>
          have e2 := asStrs_ok e
          subst e2
          have e3 := RDs.strs r
          subst e3
          exact ⟨_, _, _, rfl, rfl, .inr t.sq, hl, q.now rfl rh (.str _)⟩
      · exact q.elim
    · exact q.elim
  · split at q
    · rename_i a es ss e
      split at q
      · rename_i hl
        obtain ⟨u, rfl, ru⟩ := rds.one
        cases rx
        cases ru with
        | fro t n r =>
          have e2 := asStrs_ok e
          subst e2
          have e3 := RDs.strs r
          subst e3
          exact ⟨_, _, _, rfl, rfl, .inl (SqL.of t), hl, q.now rfl rh (.str _)⟩
      · exact q.elim
    · exact q.elim
  · exact q.elim
/-! ### gcd -/
def gGcd : FC := fun ds h => match ds with
  | [.int a, .int b] => some (.int ((Nat.gcd a.natAbs b.natAbs : Nat) : Int), h)
  | _ => none
theorem q_gcd {r : ML} {x : Str} {p pos : Pos} {e : Expr} {es : List Expr} (hg : Gl X x) (hm : X.mg x = some (.builtin "math.gcd")) (ha : QA X W r (e :: es)) (hdb : (x == ("__debug__" : Str)) = false := by decide)
    (he : starEach (e :: es) X.env = (false, eval e X.env) :: starEach es X.env := by rfl) (hpl : (backTo pos (starEach es X.env)).any (·.1) = false := by rfl) : QE X W (eCall gGcd r) (.Call (.Name x p) (e :: es) [] pos) :=
  QE.of (pe_callBfun cr_gcd hg hm ha hdb he hpl) fun τ H Q ⟨σ, h, μ, rs, rh, q⟩ => go rs rh q fun ds h1 vs H1 μ1 s1 rs1 rh1 rds q1 => by
    unfold gGcd at q1
    split at q1
    · rename_i a b
      obtain ⟨v, w, rfl, r1, r2⟩ := rds.two
      cases r1; cases r2
      exact ⟨a, b, rfl, q1.now rh1 (.int _)⟩
    · exact q1.elim
/-! ### d.get(k, x) -/
def getV (x y z : D) (h : AH) : Opt := match objAt h x with
  | some (.dt kvs) => match tkey y with
    | some k => some ((dtGet kvs k).getD z, h)
    | none => none
  | some (.dk kvs) => match keyD y with
    | some k => some ((dkGet kvs k).getD z, h)
    | none => none
  | _ => none
def isDt (h : AH) (x : D) : Bool := match objAt h x with
  | some (.dt _) => true
  | some (.dk _) => true
  | _ => false
def get2K (b c : M) (σ : AS) (x : D) (h1 : AH) : Res D := if isDt h1 x = true then (b σ h1).bind fun y h2 => (c σ h2).bind fun z h3 => lif (getV x y z h3) else .stuck
def eGet2 (a b c : M) : M := fun σ h => (a σ h).bind fun x h1 => get2K b c σ x h1
theorem isDt_at {pins : List (Addr × Obj)} {τ : L2.St} {s : Shared} {x : D} {v : V} (I : Inv X pins τ H s) (rh : RelH X.prog X.w X.K H μ h) (rx : RD X.K H μ x v) (e : isDt h x = true) :
    ∃ a, v = .ref a ∧ s.TypeIs (.ref a) "dict" ∧ (∀ b, Value.ref a = .ref b → ∃ ob, s.heap.get? b = some ob ∧ ob.dict = none) := by
  unfold isDt at e
  split at e
  · rename_i kvs eo
    obtain ⟨n, b, rfl, hm, rfl, ro⟩ := objAt_ok rh rx eo
    cases ro with
    | dt he hz hl hp hn =>
      have hD := dt_raw I he hp hn
      refine ⟨b, rfl, hD.typeIs, fun c q => ?_⟩
      cases q
      obtain ⟨ob, _, _, h1, h2, _⟩ := hD
      exact ⟨ob, h1, h2.2.1⟩
  · rename_i kvs eo
    obtain ⟨n, b, rfl, hm, rfl, ro⟩ := objAt_ok rh rx eo
    cases ro with
    | dk he hp =>
      obtain ⟨t1, t2, _⟩ := isD_at I (.inl ⟨_, .inl he⟩)
      exact ⟨b, rfl, t1, t2⟩
  · cases e
theorem q_get2 {a b c : M} {o e f : Expr} {apos cpos : Pos} (hu : X.A.units + 64 < cLine) (ha : QE X W a o) (hb : QE X W b e) (hc : QE X W c f) (m : M2 X o "get" apos e f cpos) : QE X W (eGet2 a b c) (.Call (.Attribute o "get" apos) [e, f] [] cpos) := by
  refine ⟨fun pins s τ H Q I ⟨σ, h, μ, rs, rh, q⟩ => ?_⟩
  refine wpAny_Call_method m.base m.few m.line PySem.F.plainAttrs_dict PySem.F.slot_dict_get PySem.F.type_dict_get (thn (ha.run pins s τ H (fun v H1 => ∃ x μ1 h1, RelS X.K H1 μ1 σ τ ∧ RelH X.prog X.w X.K H1 μ1 h1 ∧ RD X.K H1 μ1 x v ∧ Post X W τ H1 μ1 (RD X.K) Q (get2K b c σ x h1)) I
    (go rs rh q fun x h1 v H1 μ1 s1 rs1 rh1 rd q1 => ⟨x, μ1, h1, rs1, rh1, rd, q1⟩)) fun u s1 ⟨v, H1, I1, r1, x, μ1, h1, rs1, rh1, rx, q1⟩ => ?_)
  unfold get2K at q1
  split at q1
  · rename_i hd
    obtain ⟨A, rfl, t1, t2⟩ := isDt_at I1 rh1 rx hd
    cases r1
    refine ⟨t1, t2, ?_⟩
    rw [m.trees]
    refine Calls.callWith_builtin rfl (Calls.evalArgs_plain (Calls.spliced_cons (thn (hb.run pins s1 τ H1 (fun y' H2 => ∃ y μ2 h2, Stp μ1 μ2 H1 H2 ∧ RelS X.K H2 μ2 σ τ ∧ RelH X.prog X.w X.K H2 μ2 h2 ∧ RD X.K H2 μ2 y y' ∧ Post X W τ H2 μ2 (RD X.K) Q ((c σ h2).bind fun z h3 => lif (getV x y z h3))) I1
      (go rs1 rh1 q1 fun y h2 v H2 μ2 s2 rs2 rh2 rd2 q2 => ⟨y, μ2, h2, s2, rs2, rh2, rd2, q2⟩)) fun iv s2 ⟨yv, H2, I2, ry0, y, μ2, h2, st2, rs2, rh2, ry, q2⟩ =>
      Calls.spliced_cons (thn (hc.run pins s2 τ H2 (fun z' H3 => ∃ z μ3 h3, Stp μ2 μ3 H2 H3 ∧ RelH X.prog X.w X.K H3 μ3 h3 ∧ RD X.K H3 μ3 z z' ∧ Post X W τ H3 μ3 (RD X.K) Q (lif (getV x y z h3))) I2
      (go rs2 rh2 q2 fun z h3 v H3 μ3 s3 rs3 rh3 rd3 q3 => ⟨z, μ3, h3, s3, rh3, rd3, q3⟩)) fun fv s3 ⟨zv, H3, I3, rz0, z, μ3, h3, st3, rh3, rz, q3⟩ => Calls.spliced_nil ?_))))
    have rx3 := (rx.stp st2).stp st3
    have ry3 := ry.stp st3
    unfold getV at q3
    split at q3
    · rename_i kvs eo
      split at q3
      · rename_i k ek
        obtain ⟨n, b', rfl, hm, e1, ro⟩ := objAt_ok rh3 rx3 eo
        cases e1
        obtain ⟨b2, rfl, e1, e2⟩ := tkey_V ry3 ek
        cases ry0
        cases ro with
        | dt he hz hl hp hn =>
          have hD := dt_raw I3 he hp hn
          refine call_meetsIn PySem.F.slot_dict_get hD.typeIs PySem.F.entry_dict_get (PySem.F.args_dict_get_3 _ _ _) (meetsH_dict_get_default (nestedKind X.prog X.w) A b2 hz fv) ⟨?_, k, _, key_is I3 ry3 e1 e2, hD, ?_⟩
          · show X.A.units + 1 + 8 < cLine
            omega
          · rcases paired_dt hp k with ⟨z1, z2⟩ | ⟨d, b3, u3, v3, z1, z2, z3, z4⟩
            · rw [z1] at q3
              rw [z2]
              exact ⟨zv, H3, I3.tok _, rz0, q3.now rh3 rz⟩
            · rw [z1] at q3
              rw [z2]
              exact ⟨v3, H3, I3.tok _, z3, q3.now rh3 z4⟩
      · exact q3.elim
    · rename_i kvs eo
      split at q3
      · rename_i k ek
        obtain ⟨n, b', rfl, hm, e1, ro⟩ := objAt_ok rh3 rx3 eo
        cases e1
        have ev := keyD_V ry3 ek
        cases ro with
        | dk he hp =>
          rcases paired_dk hp k with ⟨z1, z2⟩ | ⟨d, v, z1, z2, z3⟩
          · rw [z1] at q3
            have g : DGet H3 A yv none := .inl ⟨_, k, .inl he, ev, z2.symm⟩
            exact d_get2 (by omega) I3 g ry0 rz0 fun w' s' I' rw' => ⟨zv, H3, I', rw', q3.now rh3 rz⟩
          · rw [z1] at q3
            have g : DGet H3 A yv (some v) := .inl ⟨_, k, .inl he, ev, z2.symm⟩
            exact d_get2 (by omega) I3 g ry0 rz0 fun w' s' I' rw' => ⟨v, H3, I', rw', q3.now rh3 z3⟩
      · exact q3.elim
    · exact q3.elim
  · exact q1.elim
/-! ### while -/
def whL (t : MB) (body : MS) : Nat → MS
  | 0 => fun _ _ => .stuck
  | n + 1 => fun σ h => (t σ h).andS σ fun k h1 => if k = true then (match body σ h1 with
    | .nx σ2 h2 => whL t body n σ2 h2
    | .ct σ2 h2 => whL t body n σ2 h2
    | .bk σ2 h2 => .nx σ2 h2
    | r => r) else .nx σ h1
/-- more turns than any loop here has -/
@[irreducible] def FU : Nat := 1000000000000
def sWhile (t : MB) (body : MS) : MS := whL t body FU
theorem qs_while {t : MB} {body : MS} {c : Expr} {ss : List Stmt} {pos : Pos} (hp : PassesOwn (model X.prog X.w) X.A X.env X.xe) (hc : QT X W t c) (hb : QSs X W body ss) : QS X W (sWhile t body) (.While c ss [] pos) :=
  PS.of (ps_while hp hc hb) fun D τ H ⟨σ, h, μ, rs, rh, q⟩ => by
    refine ⟨fun m τ1 H1 => ∃ σ1 h1 μ1, Stp μ μ1 H H1 ∧ RelS X.K H1 μ1 σ1 τ1 ∧ RelH X.prog X.w X.K H1 μ1 h1 ∧ PostS X W D H1 μ1 (whL t body m σ1 h1), ⟨FU, σ, h, μ, Stp.refl, rs, rh, q⟩, ?_⟩
    rintro m τ1 H1 ⟨σ1, h1, μ1, st1, rs1, rh1, q1⟩
    cases m with
    | zero => exact q1.elim
    | succ m =>
      rw [whL] at q1
      refine goS rs1 rh1 q1 fun k h2 k' H2 μ2 s2 rs2 rh2 rk q2 => ?_
      cases (show k = k' from rk)
      cases k with
      | false =>
        rw [if_neg Bool.false_ne_true] at q2 ⊢
        exact q2 τ1 H2 μ2 Stp.refl rs2 rh2
      | true =>
        rw [if_pos rfl] at q2 ⊢
        refine ⟨fun τ3 H3 => ∃ σ3 h3 μ3, Stp μ μ3 H H3 ∧ RelS X.K H3 μ3 σ3 τ3 ∧ RelH X.prog X.w X.K H3 μ3 h3 ∧ PostS X W D H3 μ3 (whL t body m σ3 h3), fun τ3 H3 p => ⟨m, Nat.lt_succ_self m, p⟩, σ1, h2, μ2, rs2, rh2, ?_⟩
        split at q2
        · rename_i σ3 h3 eb
          rw [eb]
          exact fun τ3 H3 μ3 st3 rs3 rh3 => ⟨σ3, h3, μ3, (st1.trans s2).trans st3, rs3, rh3, q2.mono st3⟩
        · rename_i σ3 h3 eb
          rw [eb]
          exact fun τ3 H3 μ3 st3 rs3 rh3 => ⟨σ3, h3, μ3, (st1.trans s2).trans st3, rs3, rh3, q2.mono st3⟩
        · rename_i σ3 h3 eb
          rw [eb]
          exact fun τ3 H3 μ3 st3 rs3 rh3 => q2 τ3 H3 μ3 st3 rs3 rh3
        · rename_i n1 n2 n3
          cases eb : body σ1 h2 with
          | nx a b => exact absurd eb (n1 a b)
          | ct a b => exact absurd eb (n2 a b)
          | bk a b => exact absurd eb (n3 a b)
          | stuck => rw [eb] at q2; exact q2
          | rt a b => rw [eb] at q2; exact q2
          | ex a b c => rw [eb] at q2; exact q2
end
/-! ### evaluated -/
section
variable {σ : AS} {h : AH} {a b c : M} {t : MB} {body : MS} {x y z : D} {n : Nat} {kvs : List (D × D)} {kks : List (Key × D)} {k : NestedKey} {kk : Key} {i j : Int} {s u : Str} {ds : List D}
@[simp] theorem run_eGet2 : eGet2 a b c σ h = (a σ h).bind fun x h1 => get2K b c σ x h1 := rfl
theorem get2_dt (e : h[n]? = some (.dt kvs)) : get2K b c σ (.ref n) h = (b σ h).bind fun y h2 => (c σ h2).bind fun z h3 => lif (getV (.ref n) y z h3) := by
  unfold get2K
  rw [if_pos (by unfold isDt objAt; dsimp only; rw [e])]
theorem get2_dk (e : h[n]? = some (.dk kks)) : get2K b c σ (.ref n) h = (b σ h).bind fun y h2 => (c σ h2).bind fun z h3 => lif (getV (.ref n) y z h3) := by
  unfold get2K
  rw [if_pos (by unfold isDt objAt; dsimp only; rw [e])]
theorem getV_dt (e : h[n]? = some (.dt kvs)) (hk : tkey y = some k) : getV (.ref n) y z h = some ((dtGet kvs k).getD z, h) := by
  unfold getV objAt
  dsimp only
  rw [e]
  dsimp only
  rw [hk]
theorem getV_dk (e : h[n]? = some (.dk kks)) (hk : keyD y = some kk) : getV (.ref n) y z h = some ((dkGet kks kk).getD z, h) := by
  unfold getV objAt
  dsimp only
  rw [e]
  dsimp only
  rw [hk]
@[simp] theorem gcd_int : gGcd [.int i, .int j] h = some (.int ((Nat.gcd i.natAbs j.natAbs : Nat) : Int), h) := rfl
theorem rep_fro {k : Int} (h1 : -(2 ^ 63) ≤ k ∧ k < 2 ^ 63) (h2 : ds.length * k.toNat ≤ 16777216) : dRep (.fro ds) (.int k) h = some (.fro (List.replicate k.toNat ds).flatten, h) := if_pos ⟨h1, h2⟩
theorem join_tup {ss : List Str} (hl : (ss.map (·.length)).sum + ss.length * s.length ≤ 16777216) : mJoin (.str s) [.tup (ss.map .str)] h = some (.str (Txt.join s ss), h) := by
  unfold mJoin
  dsimp only
  rw [asStrs_map]
  exact if_pos hl
theorem join_fro {ss : List Str} (hl : (ss.map (·.length)).sum + ss.length * s.length ≤ 16777216) : mJoin (.str s) [.fro (ss.map .str)] h = some (.str (Txt.join s ss), h) := by
  unfold mJoin
  dsimp only
  rw [asStrs_map]
  exact if_pos hl
/-- a while by an invariant and a measure -/
theorem wh_inv {R : Out → Prop} (I : AS → AH → Prop) (μ : AS → AH → Nat)
    (hs : ∀ σ h, I σ h → ∃ k h1, t σ h = .ok k h1 ∧ if k = true then (match body σ h1 with
      | .nx σ2 h2 => I σ2 h2 ∧ μ σ2 h2 < μ σ h
      | .ct σ2 h2 => I σ2 h2 ∧ μ σ2 h2 < μ σ h
      | .bk σ2 h2 => R (.nx σ2 h2)
      | r => R r) else R (.nx σ h1)) : ∀ n σ h, I σ h → μ σ h < n → R (whL t body n σ h)
  | 0, σ, h, _, hl => absurd hl (Nat.not_lt_zero _)
  | n + 1, σ, h, i, hl => by
    obtain ⟨k, h1, e, q⟩ := hs σ h i
    rw [whL]
    show R (Res.andS σ (t σ h) _)
    rw [e]
    show R (if k = true then _ else _)
    cases k with
    | false =>
      rw [if_neg Bool.false_ne_true] at q ⊢
      exact q
    | true =>
      rw [if_pos rfl] at q ⊢
      cases eb : body σ h1 with
      | nx σ2 h2 => rw [eb] at q; exact wh_inv I μ hs n σ2 h2 q.1 (by omega)
      | ct σ2 h2 => rw [eb] at q; exact wh_inv I μ hs n σ2 h2 q.1 (by omega)
      | bk σ2 h2 => rw [eb] at q; exact q
      | rt a b => rw [eb] at q; exact q
      | ex a b c => rw [eb] at q; exact q
      | stuck => rw [eb] at q; exact q
theorem sWhile_inv {R : Out → Prop} (I : AS → AH → Prop) (μ : AS → AH → Nat)
    (hs : ∀ σ h, I σ h → ∃ k h1, t σ h = .ok k h1 ∧ if k = true then (match body σ h1 with
      | .nx σ2 h2 => I σ2 h2 ∧ μ σ2 h2 < μ σ h
      | .ct σ2 h2 => I σ2 h2 ∧ μ σ2 h2 < μ σ h
      | .bk σ2 h2 => R (.nx σ2 h2)
      | r => R r) else R (.nx σ h1)) (i : I σ h) (hl : μ σ h < 1000000000000) : R (sWhile t body σ h) := wh_inv I μ hs _ σ h i (by unfold FU; exact hl)
end
end Q
namespace Q
open PySem PySem.Spec PyProof.Rows L2
theorem in_sign {c : Nat} {s : Str} {h : AH} : dInT false (.str ⟨#[c]⟩) (.str s) h = some (.bl (decide (c ∈ s.cps.toList)), h) := by
  show some (D.bl (false != !(Builtin.Str.occurrences s ⟨#[c]⟩ 0 s.length 1).isEmpty), h) = _
  rw [Bool.false_bne]
  exact congrArg (fun b => some (D.bl b, h)) (StrLaws.found_one s c)
end Q

/-! Q35: list comprehensions whose lists change later. -/
namespace Q
open PySem PySem.Spec PyProof.Rows L2
noncomputable def eLcR (it : MI) (g : MG) (t : MB) (m : M) (vs : List Nat) : M := fun σ h => (it σ h).bind fun p h1 => (lcL p.2 g t m (wipeA σ vs) p.1 [] h1).bind fun ds h2 => .ok (.ref h2.length) (h2 ++ [.lst ds])
section
variable {X : Cx} {W : WX} {D D' : Ends} {H : Hp} {μ : Mu}
theorem lc_goR {it : MI} {g : MG} {t : MB} {m : M} {vs is : List Nat} (his : ∀ j, j ∈ is → j ∈ vs) : ∀ τ H Q, tE X W (eLcR it g t m vs) τ H Q → tLc (tI X W it) (tGt X g is) (tT X WNever t) (tE X WNever m) vs τ H Q := fun τ H Q ⟨σ, h, μ, rs, rh, q⟩ =>
  go rs rh q fun p h1 J H1 μ1 s1 rs1 rh1 w q1 A hA => by
    obtain ⟨ds, G⟩ := p
    have hA1 : upd H1 A (.lst []) A = some (.lst []) := upd_same
    let Inv' : Nat → Hp → Prop := fun i H => ∃ h μ acc xs, Stp0 μ1 μ H1 H ∧ Stp μ1 ⟨μ.l, μ1.f⟩ H1 H ∧ μ.f = A :: μ1.f ∧ RelH X.prog X.w X.K H μ h ∧ H A = some (.lst xs) ∧ RDs X.K H μ acc xs ∧
      Post X W τ H1 μ1 (RD X.K) Q ((lcL G g t m (wipeA σ vs) (ds.drop i) acc h).bind fun ds h2 => .ok (.ref h2.length) (h2 ++ [.lst ds]))
    refine ⟨fun i m' H => m' = ds.length - i ∧ i ≤ ds.length ∧ Inv' i H, ⟨ds.length, rfl, Nat.zero_le _, h1, μ1.hide A, [], [], Stp0.hide hA, Stp.laid hA, rfl, rh1.hide hA, hA1, .nil, ?_⟩, ?_⟩
    · rw [List.drop_zero]; exact q1
    rintro i m' H ⟨rfl, hi, h, μ, acc, xs, st0, st, hf, rh, hHA, racc, q⟩
    have mA : A ∈ μ.f := by rw [hf]; exact List.mem_cons_self
    by_cases hlt : i < ds.length
    · rw [List.drop_eq_getElem_cons hlt, lcL] at q
      by_cases hG : G h
      · rw [if_pos hG] at q
        refine .inr ⟨w.goes i H μ h hlt st0 rh hG, Inv' (i + 1), fun H' p' => ⟨ds.length - (i + 1), by omega, rfl, hlt, p'⟩, fun x H' y => ?_⟩
        obtain ⟨d, ed, st', rh', rd⟩ := w.yields i H μ h x H' hlt st0 rh hG y
        have ed' : ds[i] = d := by
          rw [List.getElem?_eq_getElem hlt] at ed
          exact Option.some.inj ed
        rw [ed'] at q
        have rs0 : RelS X.K H' μ σ τ := ⟨rs1.1, fun i d e => let ⟨v, a, b⟩ := rs1.2 i d e; ⟨v, a, b.stp0 (st0.trans st'.toStp0)⟩⟩
        refine ⟨d, wipeA σ vs, h, μ, rs0.wipe vs, rh', rd, ?_⟩
        cases eg : g d (wipeA σ vs) h with
        | none => rw [eg] at q; exact q.elim
        | some p =>
          obtain ⟨σ1, h2⟩ := p
          rw [eg] at q
          refine ⟨σ1, h2, rfl, fun τ2 H2 μ2 st2 rs2 rh2 hl2 f2 => ⟨?_, σ1, h2, μ2, rs2, rh2, ?_⟩⟩
          · have e1 : L2.wipe τ2 vs = L2.wipe (L2.wipe τ vs) vs := wipe_ext hl2 fun j hj => f2 j fun z => hj (his j z)
            rw [e1]
            exact wipe_ext (wipe_length _ _) fun j hj => wipe_get hj
          dsimp only at q
          cases et : t σ1 h2 with
          | stuck => rw [et] at q; exact q.elim
          | ex e h3 => rw [et] at q; exact q.elim
          | ok k h3 =>
            rw [et] at q
            intro b H3 μ3 st3 rh3 rb
            cases (show k = b from rb)
            cases k with
            | false =>
              rw [if_neg Bool.false_ne_true]
              have sta := (st'.trans st2).trans st3
              exact ⟨h3, μ3, acc, xs, st0.trans sta.toStp0, st.within (f := μ1.f) hA hf sta rh3.dj, sta.fz.trans hf, rh3, sta.hid _ _ mA hHA, racc.stp sta, q⟩
            | true =>
              rw [if_pos rfl]
              refine ⟨σ1, h3, μ3, rs2.stp st3, rh3, ?_⟩
              dsimp only at q
              cases em : m σ1 h3 with
              | stuck => rw [em] at q; exact q.elim
              | ex e h4 => rw [em] at q; exact q.elim
              | ok yd h4 =>
                rw [em] at q
                intro v H4 μ4 st4 rh4 rv
                dsimp only at q
                by_cases hl : acc.length < 16777216
                · rw [if_pos hl] at q
                  have sta := ((st'.trans st2).trans st3).trans st4
                  have hA4 := sta.hid _ _ mA hHA
                  have mA4 : A ∈ μ4.f := by rw [sta.fz]; exact mA
                  have pk : Stp0 μ4 μ4 H4 (upd H4 A (.lst (xs ++ [v]))) := Stp0.poke mA4
                  refine ⟨xs, hA4, by rw [sizeLine_eq, racc.length]; exact hl, h4, μ4, acc ++ [yd], xs ++ [v], (st0.trans sta.toStp0).trans pk, (st.within (f := μ1.f) hA hf sta rh4.dj).poke_new hA, sta.fz.trans hf, rh4.poke mA4, upd_same, ?_, q⟩
                  exact ((racc.stp sta).append (.cons rv .nil)).stp0 pk
                · rw [if_neg hl] at q
                  exact q.elim
      · rw [if_neg hG] at q
        exact q.elim
    · have ei : i = ds.length := by omega
      subst ei
      rw [List.drop_length, lcL] at q
      by_cases hG : G h
      · rw [if_pos hG] at q
        have hn : A ∉ μ1.f := fun z => by
          obtain ⟨u, e⟩ := rh1.fo A z
          rw [hA] at e; cases e
        have eu : upd H A (.lst xs) = H := by
          funext b
          by_cases hb : b = A
          · rw [hb, upd_same, hHA]
          · rw [upd_ne hb]
        have r1 := rh.reveal (u := .lst xs) (o := .lst acc) hf hn (.lst upd_same (racc.stp0 (Stp0.reveal hf)))
        have s1 := st.reveal (u := .lst xs) hA
        rw [eu] at r1 s1
        refine .inl ⟨w.stops H μ h st0 rh hG, q _ H ⟨μ.l ++ [A], μ1.f⟩ s1 r1 (.ref ?_)⟩
        show (μ.l ++ [A])[h.length]? = some A
        rw [← rh.len]; simp
      · rw [if_neg hG] at q
        exact q.elim
variable {N : List Str}
theorem q_lcR {it : MI} {g : MG} {t : MB} {m : M} {is : List Nat} {elt tg iter : Expr} {ifs : List Expr} {scope : Scope} {own : List (Str × Nat)} {pos : Pos} (hc : X.calm = true) (hN : X.N.Nodup) (hi : QI X W tg it iter) (ok : BlkOk X.N X.env.scope scope own)
    (hg : ∀ (s : Shared) (H : Hp) (C : Addr) (cl : List (Str × Addr)) (fp : List Addr), QG (X.blk s H scope (compEnvC scope cl C X.env) fp) g is tg) (ht : ∀ (s : Shared) (H : Hp) (C : Addr) (cl : List (Str × Addr)) (fp : List Addr), QTs (X.blk s H scope (compEnvC scope cl C X.env) fp) WNever t ifs)
    (he : ∀ (s : Shared) (H : Hp) (C : Addr) (cl : List (Str × Addr)) (fp : List Addr), QE (X.blk s H scope (compEnvC scope cl C X.env) fp) WNever m elt) (his : ∀ j, j ∈ is → j ∈ own.map (·.2) := by decide) (hs : ∀ x, foldedSetIterable iter X.env x = pure x := by intro _; rfl) :
    QE X W (eLcR it g t m (own.map (·.2))) (.ListComp elt [⟨tg, iter, ifs, 0⟩] scope pos) :=
  QE.of (pe_lc hc hN hi ok (g := tGt X g is) (tt := tT X WNever t) (te := tE X WNever m) hg ht he hs) (lc_goR his)
/-- name = [..] -/
theorem qs_setLcR {it : MI} {g : MG} {t : MB} {m : M} {is : List Nat} {i : Nat} {y : Str} {py : Pos} {elt tg iter : Expr} {ifs : List Expr} {scope : Scope} {own : List (Str × Nat)} {pos spos : Pos} (hc : X.calm = true) (hN : X.N.Nodup) (hy : X.N[i]? = some y) (hyl : X.env.scope.names.lookup y = some .local)
    (hsw : swapsWith (.ListComp elt [⟨tg, iter, ifs, 0⟩] scope pos) (some (.Name y py)) spos.line X.env = pure true) (hi : QI X W tg it iter) (ok : BlkOk X.N X.env.scope scope own)
    (hg : ∀ (s : Shared) (H : Hp) (C : Addr) (cl : List (Str × Addr)) (fp : List Addr), QG (X.blk s H scope (compEnvC scope cl C X.env) fp) g is tg) (ht : ∀ (s : Shared) (H : Hp) (C : Addr) (cl : List (Str × Addr)) (fp : List Addr), QTs (X.blk s H scope (compEnvC scope cl C X.env) fp) WNever t ifs)
    (he : ∀ (s : Shared) (H : Hp) (C : Addr) (cl : List (Str × Addr)) (fp : List Addr), QE (X.blk s H scope (compEnvC scope cl C X.env) fp) WNever m elt) (his : ∀ j, j ∈ is → j ∈ own.map (·.2) := by decide) (hs : ∀ x, foldedSetIterable iter X.env x = pure x := by intro _; rfl) :
    QS X W (sAsg (eLcR it g t m (own.map (·.2))) (gSlot i)) (.Assign [.Name y py] (.ListComp elt [⟨tg, iter, ifs, 0⟩] scope pos) spos) :=
  PS.of (ps_setLc hc hN hy hyl hsw hi ok (g := tGt X g is) (tt := tT X WNever t) (te := tE X WNever m) hg ht he hs) fun D τ H ⟨σ, h, μ, rs, rh, q⟩ =>
    lc_goR his τ H _ (goS rs rh q fun d h1 v H1 μ1 s1 rs1 rh1 rd q1 => q1 _ H1 μ1 Stp.refl (rs1.set rd i) rh1)
end
@[simp] theorem run_eLcR {it : MI} {g : MG} {t : MB} {m : M} {vs : List Nat} {σ : AS} {h : AH} : eLcR it g t m vs σ h = (it σ h).bind fun p h1 => (lcL p.2 g t m (wipeA σ vs) p.1 [] h1).bind fun ds h2 => .ok (.ref h2.length) (h2 ++ [.lst ds]) := rfl
end Q

/-! Q36: a walk over a tuple, where an exception is handled. -/
namespace HotX
open PySem PySem.Spec PyProof.Rows
section
variable {prog : Program} {w : World} {A : Around} {E : Value → Shared → Prop} {s : Shared}
theorem tuple_end_hot {it t x1 : Addr} {i : Nat} {items : Array Value} {Q : Option Value → Shared → Prop} (hot : HotAt A x1 s.heap) (hit : s.heap.IsTupleIter it t i) (ht : s.heap.IsTuple t items) (hx : items[i]? = none)
    (hQ : ∀ h', Heap.ExtBut it s.heap h' → Q none { s with heap := h' }) : wpAny (model prog w) A (pyNext (.ref it)) Q E s := by
  obtain ⟨o, ho, hc, hd⟩ := id hit
  obtain ⟨ol, hol, _, nl, hdl⟩ := ht
  obtain ⟨hh, o1, vs1, h1, d1, c1⟩ := hot
  have hne : x1 ≠ it := by
    rintro rfl
    rw [ho] at h1
    cases h1
    rw [hd] at d1
    cases d1
    simp at c1
  unfold pyNext
  refine wpAny_bind (wpAny_attempt (wpAny_callSpecial?_slot (name := Str.ofString "__next__") hit.typeIs F.slot_tuple_iterator_next
    (wpAny_call_entry F.slot_tuple_iterator_next hit.typeIs F.entry_tuple_iterator_next ?_ (F.args_tuple_iterator_next_1 _))))
  show wpAny _ _ (field (.ref it) 0 >>= _) _ _ s
  refine wpAny_bind (wpAny_field ho hd (x := .ref t) rfl ?_)
  show wpAny _ _ (if (Value.ref t == Value.none) = true then _ else _) _ _ s
  rw [if_neg (show ¬ ((Value.ref t == Value.none) = true) from Bool.false_ne_true)]
  show wpAny _ _ (field (.ref it) 1 >>= _) _ _ s
  refine wpAny_bind (wpAny_field ho hd (x := .int i 0) rfl ?_)
  show wpAny _ _ (seqItems? (.ref t) >>= _) _ _ s
  refine wpAny_bind (wpAny_seqItems hol hdl ?_)
  simp only [Int.toNat_natCast, hx]
  refine wpAny_bind (wpAny_rule (wpAny_bind (wpAny_setField ho hd (by simp) ?_)))
  show wpAny _ _ (newExc (.type "StopIteration") [] >>= _) _ _ _
  refine wpAny_bind ?_
  simp only [newExc, newTuple]
  refine wpAny_bind (wpAny_newObj_type ?_ (by size_fits))
  refine wpAny_bind (m := firstArgMember _ _) (wpAny_of_eq (a := Value.none) (by first | rfl | (simp only [firstArgMember]; rfl)) ?_)
  refine wpAny_newObj_type ?_ (by size_fits)
  have h1u := (Heap.get?_update_other (h := s.heap) (a := it) (b := x1) (Obj.mapFields (·.setIfInBounds 0 .none)) (Ne.symm hne)).trans h1
  refine raiseNew_hot ⟨hh, o1, vs1, Heap.get?_push_of_some _ (Heap.get?_push_of_some _ h1u), d1, c1⟩ (Nat.ne_of_lt (Heap.lt_size (Heap.get?_push_of_some _ h1u))) (Heap.get?_push_size _ rfl) rfl (by first | (simp; done) | (simp; omega) | (simp only [Array.size_append]; simp; omega)) ?_
  refine wpAny_bind (wpAny_isInstance (T := "StopIteration") (b := true) ⟨_, Heap.get?_update_self _ (Heap.get?_push_size _ rfl) rfl, rfl⟩ isSubtype_stop ?_)
  refine wpAny_pure (hQ _ fun b o nb e => ?_)
  have eu := (Heap.get?_update_other (h := s.heap) (a := it) (b := b) (Obj.mapFields (·.setIfInBounds 0 .none)) (Ne.symm nb)).trans e
  rw [Heap.get?_update_other _ _ (Nat.ne_of_gt (Heap.lt_size (Heap.get?_push_of_some _ eu)))]
  exact Heap.get?_push_of_some _ (Heap.get?_push_of_some _ eu)
end
end HotX
namespace Q
open PySem PySem.Spec PyProof.Rows L2
theorem turn_tupleH {P : Program} {w : World} {K : PySem.W.Frag} {tg : Expr} (a it : Addr) : L2H.TurnH P w K tg (Itt K a) [it] it (fun i h => h.IsTupleIter it a i) where
  mem := (turn_tuple (P := P) (w := w) (K := K) (tg := tg) a it).mem
  obj := (turn_tuple (P := P) (w := w) (K := K) (tg := tg) a it).obj
  keep := (turn_tuple (P := P) (w := w) (K := K) (tg := tg) a it).keep
  item := by
    intro X hP hw hK hc i pins s σ H E I hf st hg
    subst hP hw hK
    obtain ⟨xs, x, hq, hx⟩ := hg
    obtain ⟨its, rv, p, hz⟩ := I.tuple hq
    obtain ⟨u, hu, ru⟩ := rv.get hx
    obtain ⟨f0, f1, f2, f3, f4, f5⟩ := hf it (by simp)
    refine wpAny_pyNext_tuple_item st (show s.heap.IsTuple a its.toArray from p) (x := u) (by simpa using hu) fun h' st' sb => ?_
    have I1 : Inv X pins σ H { s with heap := h' } := I.turned (t' := s.toks) (fun b o hb e => (sb.2 b hb).trans e) f0 f1 f3 f4 f5
    obtain ⟨o, e, c, d⟩ := id st'
    exact ⟨u, rfl, go_of (s := { s with heap := h' }) e c d (by decide) ⟨x, H, I1, ru, ⟨rfl, fun ys hy => by rw [I.tuple_inj hy hq]; exact hx⟩, st', fun b hb => (hf b hb).1⟩⟩
  done := by
    intro X hP hw hK hc i pins s σ H E I hf st hg
    subst hP hw hK
    obtain ⟨xs, hq, hx⟩ := hg
    obtain ⟨its, rv, p, hz⟩ := I.tuple hq
    obtain ⟨f0, f1, f2, f3, f4, f5⟩ := hf it (by simp)
    have hl := rv.length
    obtain ⟨x1, hot⟩ := hc.at I
    exact HotX.tuple_end_hot hot st (show s.heap.IsTuple a its.toArray from p) (by simp; omega) fun h' eb => ⟨rfl, I.turned (t' := s.toks) (fun b o hb e => eb b o hb e) f0 f1 f3 f4 f5⟩
  self := fun _ _ _ _ _ st h => wpAny_pyIter_tupleiter st h
section
variable {X : Cx} {W : WX} {tg : Expr}
theorem iter_tH {pins : List (Addr × Obj)} {σ : L2.St} {H : Hp} {s : Shared} {R : It → Hp → Prop} {E : Value → Shared → Prop} {a : Addr} {xs : List V} (I : Inv X pins σ H s) (hq : SqT X.K H a xs) (q : R (Itt X.K a) H) : wpAny (model X.prog X.w) X.A (pyIter (.ref a)) (L2H.PIEH X pins σ tg R) E s := by
  obtain ⟨its, rv, p, hz⟩ := I.tuple hq
  refine wpAny_pyIter_tuple (show s.heap.IsTuple a its.toArray from p) ?_
  refine ⟨s.heap.objs.size, [s.heap.objs.size], _, _, H, rfl, I.kept (t' := s.toks) fun b o e => Heap.get?_push_of_some _ e, turn_tupleH a _, ⟨_, Heap.get?_push_size _ rfl, rfl, rfl⟩, fun b hb => ?_, q⟩
  have e : b = s.heap.objs.size := by simpa using hb
  subst e
  exact I.fpOk (Nat.le_refl _) (I.hok.fresh (Nat.le_refl _))
/-- a tuple alone -/
def iTupH (m : M) : MI := fun σ h => (m σ h).bind fun x h1 => match x with
  | .tup ds => .ok (ds, fun _ => True) h1
  | _ => .stuck
theorem qi_tupH {m : M} {e : Expr} (hm : QE X W m e) : L2H.PIH X tg e (tI X W (iTupH m)) := by
  refine ⟨fun pins s τ H R I ⟨σ, h, μ, rs, rh, q⟩ => ?_⟩
  refine thn (hm.run pins s τ H (fun v H1 => ∃ d μ1 h1, Stp μ μ1 H H1 ∧ RelH X.prog X.w X.K H1 μ1 h1 ∧ RD X.K H1 μ1 d v ∧ Post X W τ H1 μ1 (WalkD X) R ((fun x h1 => match x with
    | .tup ds => .ok (ds, fun _ => True) h1
    | _ => .stuck : D → AH → Res (List D × (AH → Prop))) d h1)) I (go rs rh q fun d h1 v H1 μ1 s1 rs1 rh1 rd q1 => ⟨d, μ1, h1, s1, rh1, rd, q1⟩)) fun u s1 ⟨v, H1, I1, rv, d, μ1, h1, s01, rh1, rd, q1⟩ => ?_
  cases rd with
  | tup ta rr =>
    cases rv
    exact iter_tH I1 ta.sq (q1.now rh1 (walk_tp fun H μ h st _ _ => ⟨_, (ta.stp0 st).sq, rr.stp0 st⟩))
  | _ => exact q1.elim
end
def tupK (x : D) (h1 : AH) : Res (List D × (AH → Prop)) := match x with
  | .tup ds => .ok (ds, fun _ => True) h1
  | _ => .stuck
section
variable {σ : AS} {h : AH} {m : M} {ds : List D}
@[simp] theorem run_iTupH : iTupH m σ h = (m σ h).bind fun x h1 => tupK x h1 := rfl
@[simp] theorem tupK_tup : tupK (.tup ds) h = .ok (ds, fun _ => True) h := rfl
end
end Q

/-! The walk of morethan_k02_whole_contraries_and_mirror: printed by gen3.py. -/
namespace G
open PySem PySem.Spec PyProof.Rows L2 Q
def top (i : Nat) : Stmt := PySem.Challenge.pw_morethan_k02_whole_contraries_and_mirror.main.body.getD i (.Pass ⟨0, 0, 0, 0⟩)
/-- a statement of a class -/
def mth (i j : Nat) : Stmt := match top i with
  | .ClassDef _ _ _ body .. => body.getD j (.Pass ⟨0, 0, 0, 0⟩)
  | _ => .Pass ⟨0, 0, 0, 0⟩
/-- the fields of the classes -/
def FS (c : Str) : List Str := if c = "BadValue" then ["name"] else []
/-- which of them are of a class -/
def CK (T : Str) : Ct := fun c => if FS c = [] then none else some (decide (T = c) || (decide (T = "MoreError") || decide (T = "ValueError")))
/-- the attributes of the classes -/
def AT (c : Str) : List Str := if c = "Measure" then ["many", "masks", "numbers", "sizes"] else []
def K_MOST_SIGNS : Q.D := .int 12
def K_MOST_KINDS : Q.D := .int 30
def K_WORDS : Q.D := .tup [.str "all", .str "many", .str "more", .str "some"]
def K_MOST_PARTS : Q.D := .int 40
def K_MOST_SORTS : Q.D := .int 4000
def K_MOST_NUMBER : Q.D := .int 1152921504606846976
/-- the free names, the constants -/
structure Fr (mg : Str → Option Value) (K : PySem.W.Frag) : Prop where
  len : mg "len" = none
  isinstance : mg "isinstance" = none
  int : mg "int" = none
  bool : mg "bool" = none
  str : mg "str" = none
  tuple : mg "tuple" = none
  list : mg "list" = none
  all : mg "all" = none
  sum : mg "sum" = none
  sorted : mg "sorted" = none
  range : mg "range" = none
  enumerate : mg "enumerate" = none
  abs : mg "abs" = none
  min : mg "min" = none
  MOST_SIGNS : GCm mg K "MOST_SIGNS" K_MOST_SIGNS
  MOST_KINDS : GCm mg K "MOST_KINDS" K_MOST_KINDS
  WORDS : GCm mg K "WORDS" K_WORDS
  MOST_PARTS : GCm mg K "MOST_PARTS" K_MOST_PARTS
  MOST_SORTS : GCm mg K "MOST_SORTS" K_MOST_SORTS
  MOST_NUMBER : GCm mg K "MOST_NUMBER" K_MOST_NUMBER
/-- the classes -/
structure Xs (P : Program) (w : World) (K : PySem.W.Frag) (mg : Str → Option Value) (base : Heap) : Prop where
  tab : XTab K mg FS
  at_ : ATab K AT
  c_BadValue : XCls P w K mg base "BadValue" ["name"]

/-! ### is_integer (level 1) -/
abbrev s_is_integer : Stmt := top 6
abbrev N_is_integer : List Str := ["value"]
abbrev P_is_integer : List Str := ["value"]
theorem sc_is_integer : FnScope N_is_integer P_is_integer (defScope s_is_integer) := ⟨rfl, rfl, rfl, by decide +kernel, rfl, by decide +kernel, by decide +kernel⟩
noncomputable def m_is_integer : MS :=
  (sCons (sRet (eAnd (eIsi "int" (eVar 0)) (eNot (eIsi "bool" (eVar 0)))))
  sNil)
noncomputable def f_is_integer : List Q.D → AH → Res Q.D := fnR true P_is_integer.length N_is_integer.length m_is_integer

/-! ### is_bit (level 1) -/
abbrev s_is_bit : Stmt := top 7
abbrev N_is_bit : List Str := ["value"]
abbrev P_is_bit : List Str := ["value"]
theorem sc_is_bit : FnScope N_is_bit P_is_bit (defScope s_is_bit) := ⟨rfl, rfl, rfl, by decide +kernel, rfl, by decide +kernel, by decide +kernel⟩
noncomputable def m_is_bit : MS :=
  (sCons (sRet (eIsi "bool" (eVar 0)))
  sNil)
noncomputable def f_is_bit : List Q.D → AH → Res Q.D := fnR true P_is_bit.length N_is_bit.length m_is_bit

/-! ### is_from_to (level 2) -/
abbrev s_is_from_to : Stmt := top 8
abbrev N_is_from_to : List Str := ["value", "least", "most"]
abbrev P_is_from_to : List Str := ["value", "least", "most"]
theorem sc_is_from_to : FnScope N_is_from_to P_is_from_to (defScope s_is_from_to) := ⟨rfl, rfl, rfl, by decide +kernel, rfl, by decide +kernel, by decide +kernel⟩
noncomputable def m_is_from_to : MS :=
  (sCons (sRet (eAnd (eFn f_is_integer [] (aCons (eVar 0) aNil)) (eChain dLe dLe (eVar 1) (eVar 0) (eVar 2))))
  sNil)
noncomputable def f_is_from_to : List Q.D → AH → Res Q.D := fnR true P_is_from_to.length N_is_from_to.length m_is_from_to

/-! ### is_tuple_of (level 1) -/
abbrev s_is_tuple_of : Stmt := top 9
abbrev N_is_tuple_of : List Str := ["value", "least", "most"]
abbrev P_is_tuple_of : List Str := ["value", "least", "most"]
theorem sc_is_tuple_of : FnScope N_is_tuple_of P_is_tuple_of (defScope s_is_tuple_of) := ⟨rfl, rfl, rfl, by decide +kernel, rfl, by decide +kernel, by decide +kernel⟩
noncomputable def m_is_tuple_of : MS :=
  (sCons (sRet (eAnd (eIsi "tuple" (eVar 0)) (eChain dLe dLe (eVar 1) (eCall gLen (aCons (eVar 0) aNil)) (eVar 2))))
  sNil)
noncomputable def f_is_tuple_of : List Q.D → AH → Res Q.D := fnR true P_is_tuple_of.length N_is_tuple_of.length m_is_tuple_of

/-! ### is_ascending (level 1) -/
abbrev s_is_ascending : Stmt := top 10
abbrev N_is_ascending : List Str := ["rows", "at"]
abbrev P_is_ascending : List Str := ["rows"]
theorem sc_is_ascending : FnScope N_is_ascending P_is_ascending (defScope s_is_ascending) := ⟨rfl, rfl, rfl, by decide +kernel, rfl, by decide +kernel, by decide +kernel⟩
noncomputable def m_is_ascending : MS :=
  (sCons (sRet (eCall gAll (aCons (eLc (iRange1 (eOp dSub (eCall gLen (aCons (eVar 0) aNil)) (eC (.int 1)))) (gSlot 1) tYesM (eOp dLt (eOp dIx (eVar 0) (eVar 1)) (eOp dIx (eVar 0) (eOp dPlus (eVar 1) (eC (.int 1))))) [1]) aNil)))
  sNil)
noncomputable def f_is_ascending : List Q.D → AH → Res Q.D := fnR true P_is_ascending.length N_is_ascending.length m_is_ascending

/-! ### is_kind (level 1) -/
abbrev s_is_kind : Stmt := top 11
abbrev N_is_kind : List Str := ["value", "sign"]
abbrev P_is_kind : List Str := ["value"]
theorem sc_is_kind : FnScope N_is_kind P_is_kind (defScope s_is_kind) := ⟨rfl, rfl, rfl, by decide +kernel, rfl, by decide +kernel, by decide +kernel⟩
noncomputable def m_is_kind : MS :=
  (sCons (sIf (tOrM (tNotM (mB (eIsi "str" (eVar 0)))) (tNotM (mB (eChain dLe dLe (eC (.int 1)) (eCall gLen (aCons (eVar 0) aNil)) (eC K_MOST_SIGNS))))) (sCons (sRet (eC (.bl false)))
  sNil) sNil)
  (sCons (sRet (eAnd (eChain dLe dLe (eC (.str "a")) (eOp dIx (eVar 0) (eC (.int 0))) (eC (.str "z"))) (eCall gAll (aCons (eLc (iSeq (eVar 0)) (gSlot 1) tYesM (eOr (eChain dLe dLe (eC (.str "a")) (eVar 1) (eC (.str "z"))) (eChain dLe dLe (eC (.str "0")) (eVar 1) (eC (.str "9")))) [1]) aNil))))
  sNil))
noncomputable def f_is_kind : List Q.D → AH → Res Q.D := fnR true P_is_kind.length N_is_kind.length m_is_kind

/-! ### is_kind_row (level 2) -/
abbrev s_is_kind_row : Stmt := top 12
abbrev N_is_kind_row : List Str := ["value", "least", "one"]
abbrev P_is_kind_row : List Str := ["value", "least"]
theorem sc_is_kind_row : FnScope N_is_kind_row P_is_kind_row (defScope s_is_kind_row) := ⟨rfl, rfl, rfl, by decide +kernel, rfl, by decide +kernel, by decide +kernel⟩
noncomputable def m_is_kind_row : MS :=
  (sCons (sRet (eAnd (eFn f_is_tuple_of [] (aCons (eVar 0) (aCons (eVar 1) (aCons (eC K_MOST_KINDS) aNil)))) (eAnd (eCall gAll (aCons (eLc (iSeq (eVar 0)) (gSlot 2) tYesM (eFn f_is_kind [] (aCons (eVar 2) aNil)) [2]) aNil)) (eFn f_is_ascending [] (aCons (eVar 0) aNil)))))
  sNil)
noncomputable def f_is_kind_row : List Q.D → AH → Res Q.D := fnR true P_is_kind_row.length N_is_kind_row.length m_is_kind_row

/-! ### is_kinds (level 3) -/
abbrev s_is_kinds : Stmt := top 13
abbrev N_is_kinds : List Str := ["value"]
abbrev P_is_kinds : List Str := ["value"]
theorem sc_is_kinds : FnScope N_is_kinds P_is_kinds (defScope s_is_kinds) := ⟨rfl, rfl, rfl, by decide +kernel, rfl, by decide +kernel, by decide +kernel⟩
noncomputable def m_is_kinds : MS :=
  (sCons (sRet (eFn f_is_kind_row [] (aCons (eVar 0) (aCons (eC (.int 1)) aNil))))
  sNil)
noncomputable def f_is_kinds : List Q.D → AH → Res Q.D := fnR true P_is_kinds.length N_is_kinds.length m_is_kinds

/-! ### is_free_term (level 2) -/
abbrev s_is_free_term : Stmt := top 14
abbrev N_is_free_term : List Str := ["value"]
abbrev P_is_free_term : List Str := ["value"]
theorem sc_is_free_term : FnScope N_is_free_term P_is_free_term (defScope s_is_free_term) := ⟨rfl, rfl, rfl, by decide +kernel, rfl, by decide +kernel, by decide +kernel⟩
noncomputable def m_is_free_term : MS :=
  (sCons (sRet (eAnd (eFn f_is_tuple_of [] (aCons (eVar 0) (aCons (eC (.int 2)) (aCons (eC (.int 2)) aNil)))) (eAnd (eFn f_is_kind [] (aCons (eOp dIx (eVar 0) (eC (.int 0))) aNil)) (eFn f_is_bit [] (aCons (eOp dIx (eVar 0) (eC (.int 1))) aNil)))))
  sNil)
noncomputable def f_is_free_term : List Q.D → AH → Res Q.D := fnR true P_is_free_term.length N_is_free_term.length m_is_free_term

/-! ### is_term_over (level 2) -/
abbrev s_is_term_over : Stmt := top 15
abbrev N_is_term_over : List Str := ["kinds", "value"]
abbrev P_is_term_over : List Str := ["kinds", "value"]
theorem sc_is_term_over : FnScope N_is_term_over P_is_term_over (defScope s_is_term_over) := ⟨rfl, rfl, rfl, by decide +kernel, rfl, by decide +kernel, by decide +kernel⟩
noncomputable def m_is_term_over : MS :=
  (sCons (sRet (eAnd (eFn f_is_tuple_of [] (aCons (eVar 1) (aCons (eC (.int 2)) (aCons (eC (.int 2)) aNil)))) (eAnd (eIsi "str" (eOp dIx (eVar 1) (eC (.int 0)))) (eAnd (eOp (dIn false) (eOp dIx (eVar 1) (eC (.int 0))) (eVar 0)) (eFn f_is_bit [] (aCons (eOp dIx (eVar 1) (eC (.int 1))) aNil))))))
  sNil)
noncomputable def f_is_term_over : List Q.D → AH → Res Q.D := fnR true P_is_term_over.length N_is_term_over.length m_is_term_over

/-! ### check_kinds (level 4) -/
abbrev s_check_kinds : Stmt := top 16
abbrev N_check_kinds : List Str := ["kinds", "name"]
abbrev P_check_kinds : List Str := ["kinds", "name"]
theorem sc_check_kinds : FnScope N_check_kinds P_check_kinds (defScope s_check_kinds) := ⟨rfl, rfl, rfl, by decide +kernel, rfl, by decide +kernel, by decide +kernel⟩
noncomputable def m_check_kinds : MS :=
  (sCons (sIf (tNotM (mB (eFn f_is_kinds [] (aCons (eVar 0) aNil)))) (sCons (sRaise "BadValue" ["name"] (aCons (eVar 1) aNil))
  sNil) sNil)
  sNil)
noncomputable def f_check_kinds : List Q.D → AH → Res Q.D := fnR true P_check_kinds.length N_check_kinds.length m_check_kinds

/-! ### flip (level 1) -/
abbrev s_flip : Stmt := top 17
abbrev N_flip : List Str := ["term"]
abbrev P_flip : List Str := ["term"]
theorem sc_flip : FnScope N_flip P_flip (defScope s_flip) := ⟨rfl, rfl, rfl, by decide +kernel, rfl, by decide +kernel, by decide +kernel⟩
noncomputable def m_flip : MS :=
  (sCons (sRet (eTup (aCons (eOp dIx (eVar 0) (eC (.int 0))) (aCons (eNot (eOp dIx (eVar 0) (eC (.int 1)))) aNil))))
  sNil)
noncomputable def f_flip : List Q.D → AH → Res Q.D := fnR true P_flip.length N_flip.length m_flip

/-! ### terms_among (level 1) -/
abbrev s_terms_among : Stmt := top 18
abbrev N_terms_among : List Str := ["kinds", "kind", "bit"]
abbrev P_terms_among : List Str := ["kinds"]
theorem sc_terms_among : FnScope N_terms_among P_terms_among (defScope s_terms_among) := ⟨rfl, rfl, rfl, by decide +kernel, rfl, by decide +kernel, by decide +kernel⟩
noncomputable def m_terms_among : MS :=
  (sCons (sRet (eCall gTuple (aCons (eLcN (MC.mk (iSeq (eVar 0)) (gSlot 1) tYesM [1, 2]) [(MC.mk (iSeq (eTup (aCons (eC (.bl false)) (aCons (eC (.bl true)) aNil)))) (gSlot 2) tYesM [2])] (eTup (aCons (eVar 1) (aCons (eVar 2) aNil)))) aNil)))
  sNil)
noncomputable def f_terms_among : List Q.D → AH → Res Q.D := fnR true P_terms_among.length N_terms_among.length m_terms_among

/-! ### is_word_and (level 2) -/
abbrev s_is_word_and : Stmt := top 22
abbrev N_is_word_and : List Str := ["value", "size"]
abbrev P_is_word_and : List Str := ["value", "size"]
theorem sc_is_word_and : FnScope N_is_word_and P_is_word_and (defScope s_is_word_and) := ⟨rfl, rfl, rfl, by decide +kernel, rfl, by decide +kernel, by decide +kernel⟩
noncomputable def m_is_word_and : MS :=
  (sCons (sRet (eAnd (eFn f_is_tuple_of [] (aCons (eVar 0) (aCons (eVar 1) (aCons (eVar 1) aNil)))) (eAnd (eIsi "str" (eOp dIx (eVar 0) (eC (.int 0)))) (eOp (dIn false) (eOp dIx (eVar 0) (eC (.int 0))) (eC K_WORDS)))))
  sNil)
noncomputable def f_is_word_and : List Q.D → AH → Res Q.D := fnR true P_is_word_and.length N_is_word_and.length m_is_word_and

/-! ### is_free_sentence (level 3) -/
abbrev s_is_free_sentence : Stmt := top 23
abbrev N_is_free_sentence : List Str := ["value"]
abbrev P_is_free_sentence : List Str := ["value"]
theorem sc_is_free_sentence : FnScope N_is_free_sentence P_is_free_sentence (defScope s_is_free_sentence) := ⟨rfl, rfl, rfl, by decide +kernel, rfl, by decide +kernel, by decide +kernel⟩
noncomputable def m_is_free_sentence : MS :=
  (sCons (sRet (eAnd (eFn f_is_word_and [] (aCons (eVar 0) (aCons (eC (.int 3)) aNil))) (eAnd (eFn f_is_free_term [] (aCons (eOp dIx (eVar 0) (eC (.int 1))) aNil)) (eFn f_is_free_term [] (aCons (eOp dIx (eVar 0) (eC (.int 2))) aNil)))))
  sNil)
noncomputable def f_is_free_sentence : List Q.D → AH → Res Q.D := fnR true P_is_free_sentence.length N_is_free_sentence.length m_is_free_sentence

/-! ### is_sentence_over (level 3) -/
abbrev s_is_sentence_over : Stmt := top 24
abbrev N_is_sentence_over : List Str := ["kinds", "value"]
abbrev P_is_sentence_over : List Str := ["kinds", "value"]
theorem sc_is_sentence_over : FnScope N_is_sentence_over P_is_sentence_over (defScope s_is_sentence_over) := ⟨rfl, rfl, rfl, by decide +kernel, rfl, by decide +kernel, by decide +kernel⟩
noncomputable def m_is_sentence_over : MS :=
  (sCons (sRet (eAnd (eFn f_is_word_and [] (aCons (eVar 1) (aCons (eC (.int 3)) aNil))) (eAnd (eFn f_is_term_over [] (aCons (eVar 0) (aCons (eOp dIx (eVar 1) (eC (.int 1))) aNil))) (eFn f_is_term_over [] (aCons (eVar 0) (aCons (eOp dIx (eVar 1) (eC (.int 2))) aNil))))))
  sNil)
noncomputable def f_is_sentence_over : List Q.D → AH → Res Q.D := fnR true P_is_sentence_over.length N_is_sentence_over.length m_is_sentence_over

/-! ### is_question_over (level 4) -/
abbrev s_is_question_over : Stmt := top 25
abbrev N_is_question_over : List Str := ["kinds", "value", "one"]
abbrev P_is_question_over : List Str := ["kinds", "value"]
theorem sc_is_question_over : FnScope N_is_question_over P_is_question_over (defScope s_is_question_over) := ⟨rfl, rfl, rfl, by decide +kernel, rfl, by decide +kernel, by decide +kernel⟩
noncomputable def m_is_question_over : MS :=
  (sCons (sIf (mB (eFn f_is_sentence_over [] (aCons (eVar 0) (aCons (eVar 1) aNil)))) (sCons (sRet (eC (.bl true)))
  sNil) sNil)
  (sCons (sRet (eAnd (eFn f_is_tuple_of [] (aCons (eVar 1) (aCons (eC (.int 1)) (aCons (eC K_MOST_PARTS) aNil)))) (eCall gAll (aCons (eLc (iSeq (eVar 1)) (gSlot 2) tYesM (eFn f_is_sentence_over [] (aCons (eVar 0) (aCons (eVar 2) aNil))) [2]) aNil))))
  sNil))
noncomputable def f_is_question_over : List Q.D → AH → Res Q.D := fnR true P_is_question_over.length N_is_question_over.length m_is_question_over

/-! ### check_question (level 5) -/
abbrev s_check_question : Stmt := top 26
abbrev N_check_question : List Str := ["kinds", "question", "name"]
abbrev P_check_question : List Str := ["kinds", "question", "name"]
theorem sc_check_question : FnScope N_check_question P_check_question (defScope s_check_question) := ⟨rfl, rfl, rfl, by decide +kernel, rfl, by decide +kernel, by decide +kernel⟩
noncomputable def m_check_question : MS :=
  (sCons (sIf (tNotM (mB (eFn f_is_question_over [] (aCons (eVar 0) (aCons (eVar 1) aNil))))) (sCons (sRaise "BadValue" ["name"] (aCons (eVar 2) aNil))
  sNil) sNil)
  sNil)
noncomputable def f_check_question : List Q.D → AH → Res Q.D := fnR true P_check_question.length N_check_question.length m_check_question

/-! ### contrary_of (level 2) -/
abbrev s_contrary_of : Stmt := top 27
abbrev N_contrary_of : List Str := ["sentence", "word", "a", "b"]
abbrev P_contrary_of : List Str := ["sentence"]
theorem sc_contrary_of : FnScope N_contrary_of P_contrary_of (defScope s_contrary_of) := ⟨rfl, rfl, rfl, by decide +kernel, rfl, by decide +kernel, by decide +kernel⟩
noncomputable def m_contrary_of : MS :=
  (sCons (sAsg (eVar 0) (gTupD 3 (gsCons (gSlot 1) (gsCons (gSlot 2) (gsCons (gSlot 3) gsNil)))))
  (sCons (sIf (mB (eOp dEq (eVar 1) (eC (.str "all")))) (sCons (sRet (eTup (aCons (eC (.str "some")) (aCons (eVar 2) (aCons (eFn f_flip [] (aCons (eVar 3) aNil)) aNil)))))
  sNil) sNil)
  (sCons (sIf (mB (eOp dEq (eVar 1) (eC (.str "some")))) (sCons (sRet (eTup (aCons (eC (.str "all")) (aCons (eVar 2) (aCons (eFn f_flip [] (aCons (eVar 3) aNil)) aNil)))))
  sNil) sNil)
  (sCons (sRet (eTup (aCons (eIf (mB (eOp dEq (eVar 1) (eC (.str "more")))) (eC (.str "many")) (eC (.str "more"))) (aCons (eVar 3) (aCons (eVar 2) aNil)))))
  sNil))))
noncomputable def f_contrary_of : List Q.D → AH → Res Q.D := fnR true P_contrary_of.length N_contrary_of.length m_contrary_of

/-! ### mirror_of (level 2) -/
abbrev s_mirror_of : Stmt := top 28
abbrev N_mirror_of : List Str := ["sentence", "word", "a", "b"]
abbrev P_mirror_of : List Str := ["sentence"]
theorem sc_mirror_of : FnScope N_mirror_of P_mirror_of (defScope s_mirror_of) := ⟨rfl, rfl, rfl, by decide +kernel, rfl, by decide +kernel, by decide +kernel⟩
noncomputable def m_mirror_of : MS :=
  (sCons (sAsg (eVar 0) (gTupD 3 (gsCons (gSlot 1) (gsCons (gSlot 2) (gsCons (gSlot 3) gsNil)))))
  (sCons (sRet (eIf (mB (eOp dEq (eVar 1) (eC (.str "some")))) (eTup (aCons (eVar 1) (aCons (eVar 3) (aCons (eVar 2) aNil)))) (eTup (aCons (eVar 1) (aCons (eFn f_flip [] (aCons (eVar 3) aNil)) (aCons (eFn f_flip [] (aCons (eVar 2) aNil)) aNil))))))
  sNil))
noncomputable def f_mirror_of : List Q.D → AH → Res Q.D := fnR true P_mirror_of.length N_mirror_of.length m_mirror_of

/-! ### plain_of (level 3) -/
abbrev s_plain_of : Stmt := top 29
abbrev N_plain_of : List Str := ["sentence"]
abbrev P_plain_of : List Str := ["sentence"]
theorem sc_plain_of : FnScope N_plain_of P_plain_of (defScope s_plain_of) := ⟨rfl, rfl, rfl, by decide +kernel, rfl, by decide +kernel, by decide +kernel⟩
noncomputable def m_plain_of : MS :=
  (sCons (sRet (eCall gMin2 (aCons (eVar 0) (aCons (eFn f_mirror_of [] (aCons (eVar 0) aNil)) aNil))))
  sNil)
noncomputable def f_plain_of : List Q.D → AH → Res Q.D := fnR true P_plain_of.length N_plain_of.length m_plain_of

/-! ### check_free (level 4) -/
abbrev s_check_free : Stmt := top 30
abbrev N_check_free : List Str := ["sentence"]
abbrev P_check_free : List Str := ["sentence"]
theorem sc_check_free : FnScope N_check_free P_check_free (defScope s_check_free) := ⟨rfl, rfl, rfl, by decide +kernel, rfl, by decide +kernel, by decide +kernel⟩
noncomputable def m_check_free : MS :=
  (sCons (sIf (tNotM (mB (eFn f_is_free_sentence [] (aCons (eVar 0) aNil)))) (sCons (sRaise "BadValue" ["name"] (aCons (eC (.str "sentence")) aNil))
  sNil) sNil)
  sNil)
noncomputable def f_check_free : List Q.D → AH → Res Q.D := fnR true P_check_free.length N_check_free.length m_check_free

/-! ### contrary (level 5) -/
abbrev s_contrary : Stmt := top 31
abbrev N_contrary : List Str := ["sentence"]
abbrev P_contrary : List Str := ["sentence"]
theorem sc_contrary : FnScope N_contrary P_contrary (defScope s_contrary) := ⟨rfl, rfl, rfl, by decide +kernel, rfl, by decide +kernel, by decide +kernel⟩
noncomputable def m_contrary : MS :=
  (sCons (sExpr (eFn f_check_free [] (aCons (eVar 0) aNil)))
  (sCons (sRet (eFn f_contrary_of [] (aCons (eVar 0) aNil)))
  sNil))
noncomputable def f_contrary : List Q.D → AH → Res Q.D := fnR true P_contrary.length N_contrary.length m_contrary

/-! ### mirror (level 5) -/
abbrev s_mirror : Stmt := top 32
abbrev N_mirror : List Str := ["sentence"]
abbrev P_mirror : List Str := ["sentence"]
theorem sc_mirror : FnScope N_mirror P_mirror (defScope s_mirror) := ⟨rfl, rfl, rfl, by decide +kernel, rfl, by decide +kernel, by decide +kernel⟩
noncomputable def m_mirror : MS :=
  (sCons (sExpr (eFn f_check_free [] (aCons (eVar 0) aNil)))
  (sCons (sRet (eFn f_mirror_of [] (aCons (eVar 0) aNil)))
  sNil))
noncomputable def f_mirror : List Q.D → AH → Res Q.D := fnR true P_mirror.length N_mirror.length m_mirror

/-! ### plain (level 5) -/
abbrev s_plain : Stmt := top 33
abbrev N_plain : List Str := ["sentence"]
abbrev P_plain : List Str := ["sentence"]
theorem sc_plain : FnScope N_plain P_plain (defScope s_plain) := ⟨rfl, rfl, rfl, by decide +kernel, rfl, by decide +kernel, by decide +kernel⟩
noncomputable def m_plain : MS :=
  (sCons (sExpr (eFn f_check_free [] (aCons (eVar 0) aNil)))
  (sCons (sRet (eFn f_plain_of [] (aCons (eVar 0) aNil)))
  sNil))
noncomputable def f_plain : List Q.D → AH → Res Q.D := fnR true P_plain.length N_plain.length m_plain

/-! ### always_holds (level 1) -/
abbrev s_always_holds : Stmt := top 34
abbrev N_always_holds : List Str := ["sentence"]
abbrev P_always_holds : List Str := ["sentence"]
theorem sc_always_holds : FnScope N_always_holds P_always_holds (defScope s_always_holds) := ⟨rfl, rfl, rfl, by decide +kernel, rfl, by decide +kernel, by decide +kernel⟩
noncomputable def m_always_holds : MS :=
  (sCons (sRet (eAnd (eOp dEq (eOp dIx (eVar 0) (eC (.int 1))) (eOp dIx (eVar 0) (eC (.int 2)))) (eOr (eOp dEq (eOp dIx (eVar 0) (eC (.int 0))) (eC (.str "all"))) (eOp dEq (eOp dIx (eVar 0) (eC (.int 0))) (eC (.str "many"))))))
  sNil)
noncomputable def f_always_holds : List Q.D → AH → Res Q.D := fnR true P_always_holds.length N_always_holds.length m_always_holds

/-! ### by_itself (level 5) -/
abbrev s_by_itself : Stmt := top 35
abbrev N_by_itself : List Str := ["sentence"]
abbrev P_by_itself : List Str := ["sentence"]
theorem sc_by_itself : FnScope N_by_itself P_by_itself (defScope s_by_itself) := ⟨rfl, rfl, rfl, by decide +kernel, rfl, by decide +kernel, by decide +kernel⟩
noncomputable def m_by_itself : MS :=
  (sCons (sExpr (eFn f_check_free [] (aCons (eVar 0) aNil)))
  (sCons (sIf (mB (eFn f_always_holds [] (aCons (eVar 0) aNil))) (sCons (sRet (eC (.str "always")))
  sNil) sNil)
  (sCons (sRet (eIf (mB (eFn f_always_holds [] (aCons (eFn f_contrary_of [] (aCons (eVar 0) aNil)) aNil))) (eC (.str "never")) (eC (.str "open"))))
  sNil)))
noncomputable def f_by_itself : List Q.D → AH → Res Q.D := fnR true P_by_itself.length N_by_itself.length m_by_itself

/-! ### plain_sentences_over (level 3) -/
abbrev s_plain_sentences_over : Stmt := top 36
abbrev N_plain_sentences_over : List Str := ["kinds", "terms", "told", "word", "a", "b", "sentence"]
abbrev P_plain_sentences_over : List Str := ["kinds"]
theorem sc_plain_sentences_over : FnScope N_plain_sentences_over P_plain_sentences_over (defScope s_plain_sentences_over) := ⟨rfl, rfl, rfl, by decide +kernel, rfl, by decide +kernel, by decide +kernel⟩
noncomputable def m_plain_sentences_over : MS :=
  (sCons (sAsg (eFn f_terms_among [] (aCons (eVar 0) aNil)) (gSlot 1))
  (sCons (sAsg (eLcN (MC.mk (iSeq (eC K_WORDS)) (gSlot 3) tYesM [3, 4, 5]) [(MC.mk (iSeq (eVar 1)) (gSlot 4) tYesM [4, 5]), (MC.mk (iSeq (eVar 1)) (gSlot 5) tYesM [5])] (eTup (aCons (eVar 3) (aCons (eVar 4) (aCons (eVar 5) aNil))))) (gSlot 2))
  (sCons (sRet (eLc (iSeq (eVar 2)) (gSlot 6) (mB (eOp dLe (eVar 6) (eFn f_mirror_of [] (aCons (eVar 6) aNil)))) (eVar 6) [6]))
  sNil)))
noncomputable def f_plain_sentences_over : List Q.D → AH → Res Q.D := fnR true P_plain_sentences_over.length N_plain_sentences_over.length m_plain_sentences_over

/-! ### plain_sentences (level 5) -/
abbrev s_plain_sentences : Stmt := top 37
abbrev N_plain_sentences : List Str := ["kinds"]
abbrev P_plain_sentences : List Str := ["kinds"]
theorem sc_plain_sentences : FnScope N_plain_sentences P_plain_sentences (defScope s_plain_sentences) := ⟨rfl, rfl, rfl, by decide +kernel, rfl, by decide +kernel, by decide +kernel⟩
noncomputable def m_plain_sentences : MS :=
  (sCons (sExpr (eFn f_check_kinds [.str "kinds"] (aCons (eVar 0) aNil)))
  (sCons (sRet (eCall gTuple (aCons (eFn f_plain_sentences_over [] (aCons (eVar 0) aNil)) aNil)))
  sNil))
noncomputable def f_plain_sentences : List Q.D → AH → Res Q.D := fnR true P_plain_sentences.length N_plain_sentences.length m_plain_sentences

/-! ### parts_of (level 1) -/
abbrev s_parts_of : Stmt := top 38
abbrev N_parts_of : List Str := ["question"]
abbrev P_parts_of : List Str := ["question"]
theorem sc_parts_of : FnScope N_parts_of P_parts_of (defScope s_parts_of) := ⟨rfl, rfl, rfl, by decide +kernel, rfl, by decide +kernel, by decide +kernel⟩
noncomputable def m_parts_of : MS :=
  (sCons (sRet (eIf (mB (eIsi "str" (eOp dIx (eVar 0) (eC (.int 0))))) (eTup (aCons (eVar 0) aNil)) (eVar 0)))
  sNil)
noncomputable def f_parts_of : List Q.D → AH → Res Q.D := fnR true P_parts_of.length N_parts_of.length m_parts_of

/-! ### is_sort_over (level 3) -/
abbrev s_is_sort_over : Stmt := top 42
abbrev N_is_sort_over : List Str := ["known", "value", "some", "at", "one"]
abbrev P_is_sort_over : List Str := ["known", "value"]
theorem sc_is_sort_over : FnScope N_is_sort_over P_is_sort_over (defScope s_is_sort_over) := ⟨rfl, rfl, rfl, by decide +kernel, rfl, by decide +kernel, by decide +kernel⟩
noncomputable def m_is_sort_over : MS :=
  (sCons (sIf (tOrM (tNotM (mB (eFn f_is_tuple_of [] (aCons (eVar 1) (aCons (eC (.int 2)) (aCons (eC (.int 2)) aNil)))))) (tNotM (mB (eFn f_is_tuple_of [] (aCons (eOp dIx (eVar 1) (eC (.int 0))) (aCons (eC (.int 0)) (aCons (eCall gLen (aCons (eVar 0) aNil)) aNil))))))) (sCons (sRet (eC (.bl false)))
  sNil) sNil)
  (sCons (sIf (tNotM (mB (eFn f_is_from_to [] (aCons (eOp dIx (eVar 1) (eC (.int 1))) (aCons (eC (.int 1)) (aCons (eC K_MOST_NUMBER) aNil)))))) (sCons (sRet (eC (.bl false)))
  sNil) sNil)
  (sCons (sAsg (eOp dIx (eVar 1) (eC (.int 0))) (gSlot 2))
  (sCons (sIf (tNotM (mB (eCall gAll (aCons (eLc (iSeq (eVar 2)) (gSlot 4) tYesM (eAnd (eIsi "str" (eVar 4)) (eOp (dIn false) (eVar 4) (eVar 0))) [4]) aNil)))) (sCons (sRet (eC (.bl false)))
  sNil) sNil)
  (sCons (sRet (eCall gAll (aCons (eLc (iRange1 (eOp dSub (eCall gLen (aCons (eVar 2) aNil)) (eC (.int 1)))) (gSlot 3) tYesM (eOp dLt (eOp dIx (eVar 2) (eVar 3)) (eOp dIx (eVar 2) (eOp dPlus (eVar 3) (eC (.int 1))))) [3]) aNil)))
  sNil)))))
noncomputable def f_is_sort_over : List Q.D → AH → Res Q.D := fnR true P_is_sort_over.length N_is_sort_over.length m_is_sort_over

/-! ### is_world_over (level 4) -/
abbrev s_is_world_over : Stmt := top 43
abbrev N_is_world_over : List Str := ["kinds", "value", "known", "kind", "at", "sort"]
abbrev P_is_world_over : List Str := ["kinds", "value"]
theorem sc_is_world_over : FnScope N_is_world_over P_is_world_over (defScope s_is_world_over) := ⟨rfl, rfl, rfl, by decide +kernel, rfl, by decide +kernel, by decide +kernel⟩
noncomputable def m_is_world_over : MS :=
  (sCons (sAsg (eDc (iSeq (eVar 0)) (gSlot 3) tYesM (eVar 3) (eC (.bl true)) [3]) (gSlot 2))
  (sCons (sIf (tOrM (tNotM (mB (eFn f_is_tuple_of [] (aCons (eVar 1) (aCons (eC (.int 1)) (aCons (eC K_MOST_SORTS) aNil)))))) (tNotM (mB (eCall gAll (aCons (eLc (iSeq (eVar 1)) (gSlot 5) tYesM (eFn f_is_sort_over [] (aCons (eVar 2) (aCons (eVar 5) aNil))) [5]) aNil))))) (sCons (sRet (eC (.bl false)))
  sNil) sNil)
  (sCons (sRet (eCall gAll (aCons (eLc (iRange1 (eOp dSub (eCall gLen (aCons (eVar 1) aNil)) (eC (.int 1)))) (gSlot 4) tYesM (eOp dLt (eOp dIx (eOp dIx (eVar 1) (eVar 4)) (eC (.int 0))) (eOp dIx (eOp dIx (eVar 1) (eOp dPlus (eVar 4) (eC (.int 1)))) (eC (.int 0)))) [4]) aNil)))
  sNil)))
noncomputable def f_is_world_over : List Q.D → AH → Res Q.D := fnR true P_is_world_over.length N_is_world_over.length m_is_world_over

/-! ### check_world (level 5) -/
abbrev s_check_world : Stmt := top 44
abbrev N_check_world : List Str := ["kinds", "world", "name"]
abbrev P_check_world : List Str := ["kinds", "world", "name"]
theorem sc_check_world : FnScope N_check_world P_check_world (defScope s_check_world) := ⟨rfl, rfl, rfl, by decide +kernel, rfl, by decide +kernel, by decide +kernel⟩
noncomputable def m_check_world : MS :=
  (sCons (sIf (tNotM (mB (eFn f_is_world_over [] (aCons (eVar 0) (aCons (eVar 1) aNil))))) (sCons (sRaise "BadValue" ["name"] (aCons (eVar 2) aNil))
  sNil) sNil)
  sNil)
noncomputable def f_check_world : List Q.D → AH → Res Q.D := fnR true P_check_world.length N_check_world.length m_check_world

/-! ### Measure.meets (level 1) -/
abbrev s_Measure__meets : Stmt := mth 45 2
abbrev N_Measure__meets : List Str := ["self", "term", "other"]
abbrev P_Measure__meets : List Str := ["self", "term", "other"]
theorem sc_Measure__meets : FnScope N_Measure__meets P_Measure__meets (defScope s_Measure__meets) := ⟨rfl, rfl, rfl, by decide +kernel, rfl, by decide +kernel, by decide +kernel⟩
noncomputable def m_Measure__meets : MS :=
  (sCons (sRet (eOp dNe (eOp dBand (eOp dIx (eAt AT "masks" (eVar 0)) (eVar 1)) (eOp dIx (eAt AT "masks" (eVar 0)) (eVar 2))) (eC (.int 0))))
  sNil)
noncomputable def f_Measure__meets : List Q.D → AH → Res Q.D := fnR true P_Measure__meets.length N_Measure__meets.length m_Measure__meets

/-! ### Measure.keeps (level 2) -/
abbrev s_Measure__keeps : Stmt := mth 45 4
abbrev N_Measure__keeps : List Str := ["self", "sentence", "word", "a", "b"]
abbrev P_Measure__keeps : List Str := ["self", "sentence"]
theorem sc_Measure__keeps : FnScope N_Measure__keeps P_Measure__keeps (defScope s_Measure__keeps) := ⟨rfl, rfl, rfl, by decide +kernel, rfl, by decide +kernel, by decide +kernel⟩
noncomputable def m_Measure__keeps : MS :=
  (sCons (sAsg (eVar 1) (gTupD 3 (gsCons (gSlot 2) (gsCons (gSlot 3) (gsCons (gSlot 4) gsNil)))))
  (sCons (sIf (mB (eOp dEq (eVar 2) (eC (.str "all")))) (sCons (sRet (eNot (eMe "Measure" "meets" f_Measure__meets [] (eVar 0) (aCons (eVar 3) (aCons (eFn f_flip [] (aCons (eVar 4) aNil)) aNil)))))
  sNil) sNil)
  (sCons (sIf (mB (eOp dEq (eVar 2) (eC (.str "some")))) (sCons (sRet (eMe "Measure" "meets" f_Measure__meets [] (eVar 0) (aCons (eVar 3) (aCons (eVar 4) aNil))))
  sNil) sNil)
  (sCons (sIf (mB (eOp dEq (eVar 2) (eC (.str "more")))) (sCons (sRet (eOp dGt (eOp dIx (eAt AT "sizes" (eVar 0)) (eVar 3)) (eOp dIx (eAt AT "sizes" (eVar 0)) (eVar 4))))
  sNil) sNil)
  (sCons (sRet (eOp dGe (eOp dIx (eAt AT "sizes" (eVar 0)) (eVar 3)) (eOp dIx (eAt AT "sizes" (eVar 0)) (eVar 4))))
  sNil)))))
noncomputable def f_Measure__keeps : List Q.D → AH → Res Q.D := fnR true P_Measure__keeps.length N_Measure__keeps.length m_Measure__keeps

/-! ### Measure.keeps_all (level 3) -/
abbrev s_Measure__keeps_all : Stmt := mth 45 5
abbrev N_Measure__keeps_all : List Str := ["self", "sentences", "sentence"]
abbrev P_Measure__keeps_all : List Str := ["self", "sentences"]
theorem sc_Measure__keeps_all : FnScope N_Measure__keeps_all P_Measure__keeps_all (defScope s_Measure__keeps_all) := ⟨rfl, rfl, rfl, by decide +kernel, rfl, by decide +kernel, by decide +kernel⟩
noncomputable def m_Measure__keeps_all : MS :=
  (sCons (sRet (eCall gAll (aCons (eLc (iSeq (eVar 1)) (gSlot 2) tYesM (eMe "Measure" "keeps" f_Measure__keeps [] (eVar 0) (aCons (eVar 2) aNil)) [2]) aNil)))
  sNil)
noncomputable def f_Measure__keeps_all : List Q.D → AH → Res Q.D := fnR true P_Measure__keeps_all.length N_Measure__keeps_all.length m_Measure__keeps_all

/-! ### Measure.__init__ (level 1) -/
abbrev s_Measure____init__ : Stmt := mth 45 0
abbrev N_Measure____init__ : List Str := ["self", "kinds", "world", "whole", "masks", "sizes", "kind", "at", "sort", "some", "number"]
abbrev P_Measure____init__ : List Str := ["self", "kinds", "world"]
theorem sc_Measure____init__ : FnScope N_Measure____init__ P_Measure____init__ (defScope s_Measure____init__) := ⟨rfl, rfl, rfl, by decide +kernel, rfl, by decide +kernel, by decide +kernel⟩
noncomputable def b_Measure____init___1 : MS :=
  (sCons (sAsg (eOp dBor (eOp dIx (eVar 4) (eVar 6)) (eOp dShl (eC (.int 1)) (eVar 7))) (gSubD dSet (eVar 4) (eVar 6)))
  (sCons (sAugS (· + ·) (eVar 5) (eVar 6) (eOp dIx (eVar 8) (eC (.int 1))))
  sNil))
noncomputable def b_Measure____init___2 : MS :=
  (sCons (sFor (iSeq (eOp dIx (eVar 8) (eC (.int 0)))) (gSlot 6) b_Measure____init___1)
  sNil)
noncomputable def b_Measure____init___3 : MS :=
  (sCons (sAsg (eOp dIx (eVar 4) (eVar 6)) (gSubD dSet (eAt AT "masks" (eVar 0)) (eTup (aCons (eVar 6) (aCons (eC (.bl true)) aNil)))))
  (sCons (sAsg (eOp dBxor (eVar 3) (eOp dIx (eVar 4) (eVar 6))) (gSubD dSet (eAt AT "masks" (eVar 0)) (eTup (aCons (eVar 6) (aCons (eC (.bl false)) aNil)))))
  (sCons (sAsg (eOp dIx (eVar 5) (eVar 6)) (gSubD dSet (eAt AT "sizes" (eVar 0)) (eTup (aCons (eVar 6) (aCons (eC (.bl true)) aNil)))))
  (sCons (sAsg (eOp dSub (eAt AT "many" (eVar 0)) (eOp dIx (eVar 5) (eVar 6))) (gSubD dSet (eAt AT "sizes" (eVar 0)) (eTup (aCons (eVar 6) (aCons (eC (.bl false)) aNil)))))
  sNil))))
noncomputable def m_Measure____init__ : MS :=
  (sCons (sAtt AT "numbers" (eVar 0) (eLc (iSeq (eVar 2)) (gTupD 2 (gsCons (gSlot 9) (gsCons (gSlot 10) gsNil))) tYesM (eVar 10) [9, 10]))
  (sCons (sAtt AT "many" (eVar 0) (eCall gSum (aCons (eAt AT "numbers" (eVar 0)) aNil)))
  (sCons (sAsg (eOp dSub (eOp dShl (eC (.int 1)) (eCall gLen (aCons (eVar 2) aNil))) (eC (.int 1))) (gSlot 3))
  (sCons (sAsg (eDc (iSeq (eVar 1)) (gSlot 6) tYesM (eVar 6) (eC (.int 0)) [6]) (gSlot 4))
  (sCons (sAsg (eDc (iSeq (eVar 1)) (gSlot 6) tYesM (eVar 6) (eC (.int 0)) [6]) (gSlot 5))
  (sCons (sFor (iEn (eVar 2)) (gTupD 2 (gsCons (gSlot 7) (gsCons (gSlot 8) gsNil))) b_Measure____init___2)
  (sCons (sAtt AT "masks" (eVar 0) eNewT)
  (sCons (sAtt AT "sizes" (eVar 0) eNewT)
  (sCons (sFor (iSeq (eVar 1)) (gSlot 6) b_Measure____init___3)
  sNil)))))))))
noncomputable def f_Measure____init__ : List Q.D → AH → Res Q.D := fnR true P_Measure____init__.length N_Measure____init__.length m_Measure____init__

/-! ### keeps_all (level 4) -/
abbrev s_keeps_all : Stmt := top 46
abbrev N_keeps_all : List Str := ["kinds", "world", "sentences"]
abbrev P_keeps_all : List Str := ["kinds", "world", "sentences"]
theorem sc_keeps_all : FnScope N_keeps_all P_keeps_all (defScope s_keeps_all) := ⟨rfl, rfl, rfl, by decide +kernel, rfl, by decide +kernel, by decide +kernel⟩
noncomputable def m_keeps_all : MS :=
  (sCons (sRet (eMe "Measure" "keeps_all" f_Measure__keeps_all [] (eMk "Measure" f_Measure____init__ [] (aCons (eVar 0) (aCons (eVar 1) aNil))) (aCons (eVar 2) aNil)))
  sNil)
noncomputable def f_keeps_all : List Q.D → AH → Res Q.D := fnR true P_keeps_all.length N_keeps_all.length m_keeps_all

/-! ### holds (level 6) -/
abbrev s_holds : Stmt := top 47
abbrev N_holds : List Str := ["kinds", "world", "question"]
abbrev P_holds : List Str := ["kinds", "world", "question"]
theorem sc_holds : FnScope N_holds P_holds (defScope s_holds) := ⟨rfl, rfl, rfl, by decide +kernel, rfl, by decide +kernel, by decide +kernel⟩
noncomputable def m_holds : MS :=
  (sCons (sExpr (eFn f_check_kinds [.str "kinds"] (aCons (eVar 0) aNil)))
  (sCons (sExpr (eFn f_check_world [.str "world"] (aCons (eVar 0) (aCons (eVar 1) aNil))))
  (sCons (sExpr (eFn f_check_question [.str "question"] (aCons (eVar 0) (aCons (eVar 2) aNil))))
  (sCons (sRet (eFn f_keeps_all [] (aCons (eVar 0) (aCons (eVar 1) (aCons (eFn f_parts_of [] (aCons (eVar 2) aNil)) aNil)))))
  sNil))))
noncomputable def f_holds : List Q.D → AH → Res Q.D := fnR true P_holds.length N_holds.length m_holds

/-! ### _law_stream (level 1) -/
abbrev s_n__law_stream : Stmt := top 49
abbrev N_n__law_stream : List Str := ["script"]
abbrev P_n__law_stream : List Str := ["script"]
theorem sc_n__law_stream : FnScope N_n__law_stream P_n__law_stream (defScope s_n__law_stream) := ⟨rfl, rfl, rfl, by decide +kernel, rfl, by decide +kernel, by decide +kernel⟩
noncomputable def m_n__law_stream : MS :=
  (sCons (sRet (eNewL (aCons (eCall gListF (aCons (eVar 0) aNil)) (aCons (eC (.int 0)) (aCons (eC (.int 0)) aNil)))))
  sNil)
noncomputable def f_n__law_stream : List Q.D → AH → Res Q.D := fnR false P_n__law_stream.length N_n__law_stream.length m_n__law_stream

/-! ### _law_next (level 1) -/
abbrev s_n__law_next : Stmt := top 50
abbrev N_n__law_next : List Str := ["stream", "many", "digit", "k", "cell"]
abbrev P_n__law_next : List Str := ["stream", "many"]
theorem sc_n__law_next : FnScope N_n__law_next P_n__law_next (defScope s_n__law_next) := ⟨rfl, rfl, rfl, by decide +kernel, rfl, by decide +kernel, by decide +kernel⟩
noncomputable def m_n__law_next : MS :=
  (sCons (sIf (mB (eOp dEq (eOp dIx (eVar 0) (eC (.int 1))) (eC (.int 0)))) (sCons (sAsg (eOp dIx (eVar 0) (eC (.int 2))) (gSlot 3))
  (sCons (sAsg (eOp dPlus (eC (.int 7)) (eVar 3)) (gSlot 4))
  (sCons (sIf (mB (eOp dLt (eVar 3) (eCall gLen (aCons (eOp dIx (eVar 0) (eC (.int 0))) aNil)))) (sCons (sAsg (eOp dMod (eCall gInt (aCons (eCall gAbs (aCons (eOp dIx (eOp dIx (eVar 0) (eC (.int 0))) (eVar 3)) aNil)) aNil)) (eOp dPow (eC (.int 10)) (eC (.int 60)))) (gSlot 4))
  sNil) sNil)
  (sCons (sIf (mB (eOp dLt (eVar 4) (eOp dPow (eC (.int 10)) (eC (.int 18))))) (sCons (sAsg (eOp dMod (eCall gInt (aCons (eOp dPlus (eOp dPlus (eOp dMul (eVar 4) (eC (.int 48271))) (eOp dMul (eVar 3) (eC (.int 69621)))) (eC (.int 11))) aNil)) (eC (.int 2147483647))) (gSlot 4))
  (sCons (sAsg (eOp dPlus (eOp dMul (eOp dMod (eCall gInt (aCons (eOp dPlus (eOp dMul (eVar 4) (eC (.int 16807))) (eC (.int 13))) aNil)) (eC (.int 2147483647))) (eC (.int 65537))) (eVar 4)) (gSlot 4))
  sNil)) sNil)
  (sCons (sAsg (eVar 4) (gSubD dSet (eVar 0) (eC (.int 1))))
  (sCons (sAsg (eOp dPlus (eVar 3) (eC (.int 1))) (gSubD dSet (eVar 0) (eC (.int 2))))
  sNil)))))) sNil)
  (sCons (sAsg (eOp dMod (eCall gInt (aCons (eOp dIx (eVar 0) (eC (.int 1))) aNil)) (eVar 1)) (gSlot 2))
  (sCons (sAsg (eOp dDiv (eOp dIx (eVar 0) (eC (.int 1))) (eVar 1)) (gSubD dSet (eVar 0) (eC (.int 1))))
  (sCons (sRet (eVar 2))
  sNil))))
noncomputable def f_n__law_next : List Q.D → AH → Res Q.D := fnR true P_n__law_next.length N_n__law_next.length m_n__law_next

/-! ### _law_pick (level 2) -/
abbrev s_n__law_pick : Stmt := top 51
abbrev N_n__law_pick : List Str := ["stream", "rows"]
abbrev P_n__law_pick : List Str := ["stream", "rows"]
theorem sc_n__law_pick : FnScope N_n__law_pick P_n__law_pick (defScope s_n__law_pick) := ⟨rfl, rfl, rfl, by decide +kernel, rfl, by decide +kernel, by decide +kernel⟩
noncomputable def m_n__law_pick : MS :=
  (sCons (sRet (eOp dIx (eVar 1) (eFn f_n__law_next [] (aCons (eVar 0) (aCons (eCall gLen (aCons (eVar 1) aNil)) aNil)))))
  sNil)
noncomputable def f_n__law_pick : List Q.D → AH → Res Q.D := fnR true P_n__law_pick.length N_n__law_pick.length m_n__law_pick

/-! ### _law_says (level 1) -/
abbrev s_n__law_says : Stmt := top 52
abbrev N_n__law_says : List Str := ["actual", "due"]
abbrev P_n__law_says : List Str := ["actual", "due"]
theorem sc_n__law_says : FnScope N_n__law_says P_n__law_says (defScope s_n__law_says) := ⟨rfl, rfl, rfl, by decide +kernel, rfl, by decide +kernel, by decide +kernel⟩
noncomputable def m_n__law_says : MS :=
  (sCons (sRet (eIf (mB (eVar 1)) (eOp dIs (eVar 0) (eC (.bl true))) (eOp dIs (eVar 0) (eC (.bl false)))))
  sNil)
noncomputable def f_n__law_says : List Q.D → AH → Res Q.D := fnR true P_n__law_says.length N_n__law_says.length m_n__law_says

/-! ### _law_same (level 1) -/
abbrev s_n__law_same : Stmt := top 53
abbrev N_n__law_same : List Str := ["actual", "due", "left", "turn", "one", "other", "at"]
abbrev P_n__law_same : List Str := ["actual", "due"]
theorem sc_n__law_same : FnScope N_n__law_same P_n__law_same (defScope s_n__law_same) := ⟨rfl, rfl, rfl, by decide +kernel, rfl, by decide +kernel, by decide +kernel⟩
noncomputable def b_n__law_same_1 : MS :=
  (sCons (sIf (mB (eOp dEq (eCall gLen (aCons (eVar 2) aNil)) (eC (.int 0)))) (sCons (sRet (eC (.bl true)))
  sNil) sNil)
  (sCons (sAsg (eMeth "list" mPop (eVar 2) aNil) (gTupD 2 (gsCons (gSlot 4) (gsCons (gSlot 5) gsNil))))
  (sCons (sIf (tOrM (mB (eIsi "tuple" (eVar 5))) (mB (eIsi "list" (eVar 5)))) (sCons (sIf (tOrM (mB (eOp dNe (eIsi "tuple" (eVar 5)) (eIsi "tuple" (eVar 4)))) (mB (eOp dNe (eIsi "list" (eVar 5)) (eIsi "list" (eVar 4))))) (sCons (sRet (eC (.bl false)))
  sNil) sNil)
  (sCons (sIf (mB (eOp dNe (eCall gLen (aCons (eVar 4) aNil)) (eCall gLen (aCons (eVar 5) aNil)))) (sCons (sRet (eC (.bl false)))
  sNil) sNil)
  (sCons (sExpr (eMeth "list" mExtend (eVar 2) (aCons (eLc (iRange1 (eCall gLen (aCons (eVar 5) aNil))) (gSlot 6) tYesM (eTup (aCons (eOp dIx (eVar 4) (eVar 6)) (aCons (eOp dIx (eVar 5) (eVar 6)) aNil))) [6]) aNil)))
  sNil))) (sCons (sIf (mB (eIsi "bool" (eVar 5))) (sCons (sIf (tOrM (tNotM (mB (eIsi "bool" (eVar 4)))) (mB (eOp dNe (eVar 4) (eVar 5)))) (sCons (sRet (eC (.bl false)))
  sNil) sNil)
  sNil) (sCons (sIf (mB (eIsi "int" (eVar 5))) (sCons (sIf (tOrM (tNotM (mB (eIsi "int" (eVar 4)))) (tOrM (mB (eIsi "bool" (eVar 4))) (mB (eOp dNe (eVar 4) (eVar 5))))) (sCons (sRet (eC (.bl false)))
  sNil) sNil)
  sNil) (sCons (sIf (mB (eIsi "str" (eVar 5))) (sCons (sIf (tOrM (tNotM (mB (eIsi "str" (eVar 4)))) (mB (eOp dNe (eVar 4) (eVar 5)))) (sCons (sRet (eC (.bl false)))
  sNil) sNil)
  sNil) (sCons (sIf (mB (eOp dNotN (eVar 4) (eC .non))) (sCons (sRet (eC (.bl false)))
  sNil) sNil)
  sNil))
  sNil))
  sNil))
  sNil))
  sNil)))
noncomputable def m_n__law_same : MS :=
  (sCons (sAsg (eNewL (aCons (eTup (aCons (eVar 0) (aCons (eVar 1) aNil))) aNil)) (gSlot 2))
  (sCons (sFor (iRange1 (eC (.int 2000000))) (gSlot 3) b_n__law_same_1)
  (sCons (sRet (eC (.bl false)))
  sNil)))
noncomputable def f_n__law_same : List Q.D → AH → Res Q.D := fnR true P_n__law_same.length N_n__law_same.length m_n__law_same

/-! ### _law_kind (level 3) -/
abbrev s_n__law_kind : Stmt := top 54
abbrev N_n__law_kind : List Str := ["stream", "name", "turn", "texts"]
abbrev P_n__law_kind : List Str := ["stream"]
theorem sc_n__law_kind : FnScope N_n__law_kind P_n__law_kind (defScope s_n__law_kind) := ⟨rfl, rfl, rfl, by decide +kernel, rfl, by decide +kernel, by decide +kernel⟩
noncomputable def b_n__law_kind_1 : MS :=
  (sCons (sAsg (eOp dPlus (eVar 1) (eOp dIx (eC (.str "abcdefghijklmnopqrstuvwxyz0123456789")) (eFn f_n__law_next [] (aCons (eVar 0) (aCons (eC (.int 36)) aNil))))) (gSlot 1))
  sNil)
noncomputable def m_n__law_kind : MS :=
  (sCons (sIf (mB (eOp dEq (eFn f_n__law_next [] (aCons (eVar 0) (aCons (eC (.int 5)) aNil))) (eC (.int 0)))) (sCons (sAsg (eC (.str "all some more many none half only not than equal world sort kinds plain a b z a0 az")) (gSlot 3))
  (sCons (sRet (eFn f_n__law_pick [] (aCons (eVar 0) (aCons (eMeth "str" mSplit (eVar 3) (aCons (eC (.str " ")) aNil)) aNil))))
  sNil)) sNil)
  (sCons (sAsg (eOp dIx (eC (.str "abcdefghijklmnopqrstuvwxyz")) (eFn f_n__law_next [] (aCons (eVar 0) (aCons (eC (.int 26)) aNil)))) (gSlot 1))
  (sCons (sFor (iRange1 (eFn f_n__law_pick [] (aCons (eVar 0) (aCons (eLst (aCons (eC (.int 0)) (aCons (eC (.int 1)) (aCons (eC (.int 2)) (aCons (eC (.int 5)) (aCons (eC (.int 11)) aNil)))))) aNil)))) (gSlot 2) b_n__law_kind_1)
  (sCons (sRet (eVar 1))
  sNil))))
noncomputable def f_n__law_kind : List Q.D → AH → Res Q.D := fnR true P_n__law_kind.length N_n__law_kind.length m_n__law_kind

/-! ### _law_kinds (level 4) -/
abbrev s_n__law_kinds : Stmt := top 55
abbrev N_n__law_kinds : List Str := ["stream", "many", "found", "stem", "at", "first", "close", "k", "name", "number"]
abbrev P_n__law_kinds : List Str := ["stream", "many"]
theorem sc_n__law_kinds : FnScope N_n__law_kinds P_n__law_kinds (defScope s_n__law_kinds) := ⟨rfl, rfl, rfl, by decide +kernel, rfl, by decide +kernel, by decide +kernel⟩
noncomputable def b_n__law_kinds_1 : MS :=
  (sCons (sIf (mB (eOp dEq (eCall gLen (aCons (eVar 2) aNil)) (eVar 1))) (sCons sBreak
  sNil) sNil)
  (sCons (sAsg (eIf (tAndM (mB (eOp dEq (eVar 6) (eC (.int 0)))) (mB (eOp dLt (eVar 7) (eOp dMul (eC (.int 3)) (eVar 1))))) (eFn f_n__law_kind [] (aCons (eVar 0) aNil)) (eC (.str "a"))) (gSlot 8))
  (sCons (sIf (tOrM (mB (eOp dEq (eVar 6) (eC (.int 1)))) (mB (eOp dGe (eVar 7) (eOp dMul (eC (.int 3)) (eVar 1))))) (sCons (sAsg (eOp dMod (eCall gInt (aCons (eOp dPlus (eVar 5) (eOp dMul (eVar 7) (eC (.int 7)))) aNil)) (eC (.int 936))) (gSlot 9))
  (sCons (sAsg (eOp dPlus (eOp dPlus (eOp dPlus (eSl dSl (eVar 3) oNil (oSome (eVar 4))) (eOp dIx (eC (.str "abcdefghijklmnopqrstuvwxyz")) (eOp dDiv (eVar 9) (eC (.int 36))))) (eOp dIx (eC (.str "abcdefghijklmnopqrstuvwxyz0123456789")) (eOp dMod (eCall gInt (aCons (eVar 9) aNil)) (eC (.int 36))))) (eSl dSl (eVar 3) (oSome (eVar 4)) oNil)) (gSlot 8))
  sNil)) sNil)
  (sCons (sIf (mB (eOp (dIn true) (eVar 8) (eVar 2))) (sCons (sExpr (eMeth "list" mAppend (eVar 2) (aCons (eVar 8) aNil)))
  sNil) sNil)
  sNil))))
noncomputable def m_n__law_kinds : MS :=
  (sCons (sAsg (eNewL aNil) (gSlot 2))
  (sCons (sAsg (eSl dSl (eFn f_n__law_kind [] (aCons (eVar 0) aNil)) oNil (oSome (eC (.int 10)))) (gSlot 3))
  (sCons (sAsg (eFn f_n__law_next [] (aCons (eVar 0) (aCons (eOp dPlus (eCall gLen (aCons (eVar 3) aNil)) (eC (.int 1))) aNil))) (gSlot 4))
  (sCons (sAsg (eFn f_n__law_next [] (aCons (eVar 0) (aCons (eC (.int 936)) aNil))) (gSlot 5))
  (sCons (sAsg (eFn f_n__law_next [] (aCons (eVar 0) (aCons (eC (.int 2)) aNil))) (gSlot 6))
  (sCons (sFor (iRange1 (eC (.int 2000))) (gSlot 7) b_n__law_kinds_1)
  (sCons (sRet (eCall gTuple (aCons (eCall gSortF (aCons (eVar 2) aNil)) aNil)))
  sNil)))))))
noncomputable def f_n__law_kinds : List Q.D → AH → Res Q.D := fnR true P_n__law_kinds.length N_n__law_kinds.length m_n__law_kinds

/-! ### _law_bit (level 2) -/
abbrev s_n__law_bit : Stmt := top 56
abbrev N_n__law_bit : List Str := ["stream"]
abbrev P_n__law_bit : List Str := ["stream"]
theorem sc_n__law_bit : FnScope N_n__law_bit P_n__law_bit (defScope s_n__law_bit) := ⟨rfl, rfl, rfl, by decide +kernel, rfl, by decide +kernel, by decide +kernel⟩
noncomputable def m_n__law_bit : MS :=
  (sCons (sRet (eOp dEq (eFn f_n__law_next [] (aCons (eVar 0) (aCons (eC (.int 2)) aNil))) (eC (.int 1))))
  sNil)
noncomputable def f_n__law_bit : List Q.D → AH → Res Q.D := fnR true P_n__law_bit.length N_n__law_bit.length m_n__law_bit

/-! ### _law_flip (level 1) -/
abbrev s_n__law_flip : Stmt := top 57
abbrev N_n__law_flip : List Str := ["term"]
abbrev P_n__law_flip : List Str := ["term"]
theorem sc_n__law_flip : FnScope N_n__law_flip P_n__law_flip (defScope s_n__law_flip) := ⟨rfl, rfl, rfl, by decide +kernel, rfl, by decide +kernel, by decide +kernel⟩
noncomputable def m_n__law_flip : MS :=
  (sCons (sRet (eTup (aCons (eOp dIx (eVar 0) (eC (.int 0))) (aCons (eNot (eOp dIx (eVar 0) (eC (.int 1)))) aNil))))
  sNil)
noncomputable def f_n__law_flip : List Q.D → AH → Res Q.D := fnR true P_n__law_flip.length N_n__law_flip.length m_n__law_flip

/-! ### _law_sentence (level 3) -/
abbrev s_n__law_sentence : Stmt := top 58
abbrev N_n__law_sentence : List Str := ["stream", "kinds", "word", "a", "b"]
abbrev P_n__law_sentence : List Str := ["stream", "kinds"]
theorem sc_n__law_sentence : FnScope N_n__law_sentence P_n__law_sentence (defScope s_n__law_sentence) := ⟨rfl, rfl, rfl, by decide +kernel, rfl, by decide +kernel, by decide +kernel⟩
noncomputable def m_n__law_sentence : MS :=
  (sCons (sAsg (eFn f_n__law_pick [] (aCons (eVar 0) (aCons (eLst (aCons (eC (.str "all")) (aCons (eC (.str "some")) (aCons (eC (.str "more")) (aCons (eC (.str "many")) aNil))))) aNil))) (gSlot 2))
  (sCons (sAsg (eTup (aCons (eFn f_n__law_pick [] (aCons (eVar 0) (aCons (eVar 1) aNil))) (aCons (eFn f_n__law_bit [] (aCons (eVar 0) aNil)) aNil))) (gSlot 3))
  (sCons (sAsg (eTup (aCons (eFn f_n__law_pick [] (aCons (eVar 0) (aCons (eVar 1) aNil))) (aCons (eFn f_n__law_bit [] (aCons (eVar 0) aNil)) aNil))) (gSlot 4))
  (sCons (sIf (mB (eOp dEq (eFn f_n__law_next [] (aCons (eVar 0) (aCons (eC (.int 5)) aNil))) (eC (.int 0)))) (sCons (sAsg (eTup (aCons (eOp dIx (eVar 3) (eC (.int 0))) (aCons (eFn f_n__law_bit [] (aCons (eVar 0) aNil)) aNil))) (gSlot 4))
  sNil) sNil)
  (sCons (sRet (eTup (aCons (eVar 2) (aCons (eVar 3) (aCons (eVar 4) aNil)))))
  sNil)))))
noncomputable def f_n__law_sentence : List Q.D → AH → Res Q.D := fnR true P_n__law_sentence.length N_n__law_sentence.length m_n__law_sentence

/-! ### _law_mirror (level 2) -/
abbrev s_n__law_mirror : Stmt := top 59
abbrev N_n__law_mirror : List Str := ["sentence"]
abbrev P_n__law_mirror : List Str := ["sentence"]
theorem sc_n__law_mirror : FnScope N_n__law_mirror P_n__law_mirror (defScope s_n__law_mirror) := ⟨rfl, rfl, rfl, by decide +kernel, rfl, by decide +kernel, by decide +kernel⟩
noncomputable def m_n__law_mirror : MS :=
  (sCons (sIf (mB (eOp dEq (eOp dIx (eVar 0) (eC (.int 0))) (eC (.str "some")))) (sCons (sRet (eTup (aCons (eC (.str "some")) (aCons (eOp dIx (eVar 0) (eC (.int 2))) (aCons (eOp dIx (eVar 0) (eC (.int 1))) aNil)))))
  sNil) sNil)
  (sCons (sRet (eTup (aCons (eOp dIx (eVar 0) (eC (.int 0))) (aCons (eFn f_n__law_flip [] (aCons (eOp dIx (eVar 0) (eC (.int 2))) aNil)) (aCons (eFn f_n__law_flip [] (aCons (eOp dIx (eVar 0) (eC (.int 1))) aNil)) aNil)))))
  sNil))
noncomputable def f_n__law_mirror : List Q.D → AH → Res Q.D := fnR true P_n__law_mirror.length N_n__law_mirror.length m_n__law_mirror

/-! ### _law_contrary (level 2) -/
abbrev s_n__law_contrary : Stmt := top 60
abbrev N_n__law_contrary : List Str := ["sentence"]
abbrev P_n__law_contrary : List Str := ["sentence"]
theorem sc_n__law_contrary : FnScope N_n__law_contrary P_n__law_contrary (defScope s_n__law_contrary) := ⟨rfl, rfl, rfl, by decide +kernel, rfl, by decide +kernel, by decide +kernel⟩
noncomputable def m_n__law_contrary : MS :=
  (sCons (sIf (mB (eOp dEq (eOp dIx (eVar 0) (eC (.int 0))) (eC (.str "all")))) (sCons (sRet (eTup (aCons (eC (.str "some")) (aCons (eOp dIx (eVar 0) (eC (.int 1))) (aCons (eFn f_n__law_flip [] (aCons (eOp dIx (eVar 0) (eC (.int 2))) aNil)) aNil)))))
  sNil) sNil)
  (sCons (sIf (mB (eOp dEq (eOp dIx (eVar 0) (eC (.int 0))) (eC (.str "some")))) (sCons (sRet (eTup (aCons (eC (.str "all")) (aCons (eOp dIx (eVar 0) (eC (.int 1))) (aCons (eFn f_n__law_flip [] (aCons (eOp dIx (eVar 0) (eC (.int 2))) aNil)) aNil)))))
  sNil) sNil)
  (sCons (sRet (eTup (aCons (eIf (mB (eOp dEq (eOp dIx (eVar 0) (eC (.int 0))) (eC (.str "more")))) (eC (.str "many")) (eC (.str "more"))) (aCons (eOp dIx (eVar 0) (eC (.int 2))) (aCons (eOp dIx (eVar 0) (eC (.int 1))) aNil)))))
  sNil)))
noncomputable def f_n__law_contrary : List Q.D → AH → Res Q.D := fnR true P_n__law_contrary.length N_n__law_contrary.length m_n__law_contrary

/-! ### _law_terms (level 1) -/
abbrev s_n__law_terms : Stmt := top 61
abbrev N_n__law_terms : List Str := ["kinds", "at"]
abbrev P_n__law_terms : List Str := ["kinds"]
theorem sc_n__law_terms : FnScope N_n__law_terms P_n__law_terms (defScope s_n__law_terms) := ⟨rfl, rfl, rfl, by decide +kernel, rfl, by decide +kernel, by decide +kernel⟩
noncomputable def m_n__law_terms : MS :=
  (sCons (sRet (eLc (iRange1 (eOp dMul (eC (.int 2)) (eCall gLen (aCons (eVar 0) aNil)))) (gSlot 1) tYesM (eTup (aCons (eOp dIx (eVar 0) (eOp dDiv (eVar 1) (eC (.int 2)))) (aCons (eOp dEq (eOp dMod (eCall gInt (aCons (eVar 1) aNil)) (eC (.int 2))) (eC (.int 1))) aNil))) [1]))
  sNil)
noncomputable def f_n__law_terms : List Q.D → AH → Res Q.D := fnR true P_n__law_terms.length N_n__law_terms.length m_n__law_terms

/-! ### _law_plain_all (level 3) -/
abbrev s_n__law_plain_all : Stmt := top 62
abbrev N_n__law_plain_all : List Str := ["kinds", "terms", "found", "word", "a", "b", "sentence"]
abbrev P_n__law_plain_all : List Str := ["kinds"]
theorem sc_n__law_plain_all : FnScope N_n__law_plain_all P_n__law_plain_all (defScope s_n__law_plain_all) := ⟨rfl, rfl, rfl, by decide +kernel, rfl, by decide +kernel, by decide +kernel⟩
noncomputable def b_n__law_plain_all_1 : MS :=
  (sCons (sAsg (eTup (aCons (eVar 3) (aCons (eVar 4) (aCons (eVar 5) aNil)))) (gSlot 6))
  (sCons (sIf (mB (eOp dLe (eVar 6) (eFn f_n__law_mirror [] (aCons (eVar 6) aNil)))) (sCons (sExpr (eMeth "list" mAppend (eVar 2) (aCons (eVar 6) aNil)))
  sNil) sNil)
  sNil))
noncomputable def b_n__law_plain_all_2 : MS :=
  (sCons (sFor (iSeq (eVar 1)) (gSlot 5) b_n__law_plain_all_1)
  sNil)
noncomputable def b_n__law_plain_all_3 : MS :=
  (sCons (sFor (iSeq (eVar 1)) (gSlot 4) b_n__law_plain_all_2)
  sNil)
noncomputable def m_n__law_plain_all : MS :=
  (sCons (sAsg (eFn f_n__law_terms [] (aCons (eVar 0) aNil)) (gSlot 1))
  (sCons (sAsg (eNewL aNil) (gSlot 2))
  (sCons (sFor (iSeq (eLst (aCons (eC (.str "all")) (aCons (eC (.str "many")) (aCons (eC (.str "more")) (aCons (eC (.str "some")) aNil)))))) (gSlot 3) b_n__law_plain_all_3)
  (sCons (sRet (eVar 2))
  sNil))))
noncomputable def f_n__law_plain_all : List Q.D → AH → Res Q.D := fnR true P_n__law_plain_all.length N_n__law_plain_all.length m_n__law_plain_all

/-! ### _law_world (level 3) -/
abbrev s_n__law_world : Stmt := top 63
abbrev N_n__law_world : List Str := ["stream", "kinds", "most", "share", "turn", "top", "table", "k", "some", "kind"]
abbrev P_n__law_world : List Str := ["stream", "kinds", "most"]
theorem sc_n__law_world : FnScope N_n__law_world P_n__law_world (defScope s_n__law_world) := ⟨rfl, rfl, rfl, by decide +kernel, rfl, by decide +kernel, by decide +kernel⟩
noncomputable def b_n__law_world_1 : MS :=
  (sCons (sAsg (eCall gTuple (aCons (eLc (iSeq (eVar 1)) (gSlot 9) (mB (eOp dNe (eOp dEq (eFn f_n__law_next [] (aCons (eVar 0) (aCons (eVar 3) aNil))) (eC (.int 0))) (eVar 4))) (eVar 9) [9]) aNil)) (gSlot 8))
  (sCons (sAsg (eOp dPlus (eC (.int 1)) (eFn f_n__law_next [] (aCons (eVar 0) (aCons (eVar 5) aNil)))) (gSubD dSet (eVar 6) (eVar 8)))
  sNil))
noncomputable def m_n__law_world : MS :=
  (sCons (sAsg (eFn f_n__law_pick [] (aCons (eVar 0) (aCons (eLst (aCons (eC (.int 2)) (aCons (eC (.int 2)) (aCons (eC (.int 5)) aNil)))) aNil))) (gSlot 3))
  (sCons (sAsg (eFn f_n__law_bit [] (aCons (eVar 0) aNil)) (gSlot 4))
  (sCons (sAsg (eFn f_n__law_pick [] (aCons (eVar 0) (aCons (eLst (aCons (eC (.int 1)) (aCons (eC (.int 2)) (aCons (eC (.int 2)) (aCons (eC (.int 3)) (aCons (eC (.int 9)) aNil)))))) aNil))) (gSlot 5))
  (sCons (sAsg eNewT (gSlot 6))
  (sCons (sFor (iRange1 (eOp dPlus (eC (.int 1)) (eFn f_n__law_next [] (aCons (eVar 0) (aCons (eVar 2) aNil))))) (gSlot 7) b_n__law_world_1)
  (sCons (sRet (eCall gTuple (aCons (eCall gSortF (aCons (eDItems 6 8) aNil)) aNil)))
  sNil))))))
noncomputable def f_n__law_world : List Q.D → AH → Res Q.D := fnR true P_n__law_world.length N_n__law_world.length m_n__law_world

/-! ### _law_alone (level 2) -/
abbrev s_n__law_alone : Stmt := top 64
abbrev N_n__law_alone : List Str := ["sentence"]
abbrev P_n__law_alone : List Str := ["sentence"]
theorem sc_n__law_alone : FnScope N_n__law_alone P_n__law_alone (defScope s_n__law_alone) := ⟨rfl, rfl, rfl, by decide +kernel, rfl, by decide +kernel, by decide +kernel⟩
noncomputable def m_n__law_alone : MS :=
  (sCons (sIf (tAndM (mB (eOp dEq (eOp dIx (eVar 0) (eC (.int 1))) (eOp dIx (eVar 0) (eC (.int 2))))) (mB (eOp (dIn false) (eOp dIx (eVar 0) (eC (.int 0))) (eLst (aCons (eC (.str "all")) (aCons (eC (.str "many")) aNil)))))) (sCons (sRet (eC (.str "always")))
  sNil) sNil)
  (sCons (sIf (tAndM (mB (eOp dEq (eOp dIx (eVar 0) (eC (.int 1))) (eOp dIx (eVar 0) (eC (.int 2))))) (mB (eOp dEq (eOp dIx (eVar 0) (eC (.int 0))) (eC (.str "more"))))) (sCons (sRet (eC (.str "never")))
  sNil) sNil)
  (sCons (sRet (eIf (tAndM (mB (eOp dEq (eOp dIx (eVar 0) (eC (.int 0))) (eC (.str "some")))) (mB (eOp dEq (eOp dIx (eVar 0) (eC (.int 1))) (eFn f_n__law_flip [] (aCons (eOp dIx (eVar 0) (eC (.int 2))) aNil))))) (eC (.str "never")) (eC (.str "open"))))
  sNil)))
noncomputable def f_n__law_alone : List Q.D → AH → Res Q.D := fnR true P_n__law_alone.length N_n__law_alone.length m_n__law_alone

/-! ### _law_ones (level 1) -/
abbrev s_n__law_ones : Stmt := top 65
abbrev N_n__law_ones : List Str := ["kinds", "found"]
abbrev P_n__law_ones : List Str := ["kinds"]
theorem sc_n__law_ones : FnScope N_n__law_ones P_n__law_ones (defScope s_n__law_ones) := ⟨rfl, rfl, rfl, by decide +kernel, rfl, by decide +kernel, by decide +kernel⟩
noncomputable def m_n__law_ones : MS :=
  (sCons (sAsg (eLst (aCons (eTup (aCons (eTup (aCons (eTup aNil) (aCons (eC (.int 1)) aNil))) aNil)) (aCons (eTup (aCons (eTup (aCons (eSl dSl (eVar 0) oNil (oSome (eC (.int 1)))) (aCons (eC (.int 1)) aNil))) aNil)) aNil))) (gSlot 1))
  (sCons (sRet (eIf (mB (eOp dEq (eCall gLen (aCons (eVar 0) aNil)) (eC (.int 2)))) (eOp dPlus (eVar 1) (eLst (aCons (eTup (aCons (eTup (aCons (eSl dSl (eVar 0) (oSome (eC (.int 1))) oNil) (aCons (eC (.int 1)) aNil))) aNil)) (aCons (eTup (aCons (eTup (aCons (eVar 0) (aCons (eC (.int 1)) aNil))) aNil)) aNil)))) (eVar 1)))
  sNil))
noncomputable def f_n__law_ones : List Q.D → AH → Res Q.D := fnR true P_n__law_ones.length N_n__law_ones.length m_n__law_ones

/-! ### _law_forms (level 6) -/
abbrev s_n__law_forms : Stmt := top 66
abbrev N_n__law_forms : List Str := ["sentence", "other", "least"]
abbrev P_n__law_forms : List Str := ["sentence"]
theorem sc_n__law_forms : FnScope N_n__law_forms P_n__law_forms (defScope s_n__law_forms) := ⟨rfl, rfl, rfl, by decide +kernel, rfl, by decide +kernel, by decide +kernel⟩
noncomputable def m_n__law_forms : MS :=
  (sCons (sAsg (eFn f_n__law_mirror [] (aCons (eVar 0) aNil)) (gSlot 1))
  (sCons (sAsg (eIf (mB (eOp dLe (eVar 0) (eVar 1))) (eVar 0) (eVar 1)) (gSlot 2))
  (sCons (sIf (tNotM (mB (eFn f_n__law_same [] (aCons (eTup (aCons (eFn f_contrary [] (aCons (eVar 0) aNil)) (aCons (eFn f_mirror [] (aCons (eVar 0) aNil)) (aCons (eFn f_plain [] (aCons (eVar 0) aNil)) aNil)))) (aCons (eTup (aCons (eFn f_n__law_contrary [] (aCons (eVar 0) aNil)) (aCons (eVar 1) (aCons (eVar 2) aNil)))) aNil))))) (sCons (sRet (eC (.bl false)))
  sNil) sNil)
  (sCons (sIf (tNotM (mB (eFn f_n__law_same [] (aCons (eTup (aCons (eFn f_contrary [] (aCons (eFn f_contrary [] (aCons (eVar 0) aNil)) aNil)) (aCons (eFn f_mirror [] (aCons (eFn f_mirror [] (aCons (eVar 0) aNil)) aNil)) (aCons (eFn f_plain [] (aCons (eVar 1) aNil)) aNil)))) (aCons (eTup (aCons (eVar 0) (aCons (eVar 0) (aCons (eVar 2) aNil)))) aNil))))) (sCons (sRet (eC (.bl false)))
  sNil) sNil)
  (sCons (sIf (tOrM (tNotM (mB (eFn f_n__law_same [] (aCons (eFn f_by_itself [] (aCons (eVar 0) aNil)) (aCons (eFn f_n__law_alone [] (aCons (eVar 0) aNil)) aNil))))) (mB (eOp dNe (eFn f_by_itself [] (aCons (eVar 1) aNil)) (eFn f_by_itself [] (aCons (eVar 0) aNil))))) (sCons (sRet (eC (.bl false)))
  sNil) sNil)
  (sCons (sRet (eFn f_n__law_same [] (aCons (eFn f_by_itself [] (aCons (eFn f_contrary [] (aCons (eVar 0) aNil)) aNil)) (aCons (eFn f_n__law_alone [] (aCons (eFn f_n__law_contrary [] (aCons (eVar 0) aNil)) aNil)) aNil))))
  sNil))))))
noncomputable def f_n__law_forms : List Q.D → AH → Res Q.D := fnR true P_n__law_forms.length N_n__law_forms.length m_n__law_forms

/-! ### _law_by_one (level 7) -/
abbrev s_n__law_by_one : Stmt := top 67
abbrev N_n__law_by_one : List Str := ["sentence", "named", "kinds", "found", "told", "world", "one"]
abbrev P_n__law_by_one : List Str := ["sentence"]
theorem sc_n__law_by_one : FnScope N_n__law_by_one P_n__law_by_one (defScope s_n__law_by_one) := ⟨rfl, rfl, rfl, by decide +kernel, rfl, by decide +kernel, by decide +kernel⟩
noncomputable def m_n__law_by_one : MS :=
  (sCons (sAsg (eCall gSortF (aCons (eLst (aCons (eOp dIx (eOp dIx (eVar 0) (eC (.int 1))) (eC (.int 0))) (aCons (eOp dIx (eOp dIx (eVar 0) (eC (.int 2))) (eC (.int 0))) aNil))) aNil)) (gSlot 1))
  (sCons (sAsg (eCall gTuple (aCons (eIf (mB (eOp dEq (eOp dIx (eVar 1) (eC (.int 0))) (eOp dIx (eVar 1) (eC (.int 1))))) (eSl dSl (eVar 1) oNil (oSome (eC (.int 1)))) (eVar 1)) aNil)) (gSlot 2))
  (sCons (sAsg (eLc (iSeq (eFn f_n__law_ones [] (aCons (eVar 2) aNil))) (gSlot 5) tYesM (eFn f_holds [] (aCons (eVar 2) (aCons (eVar 5) (aCons (eVar 0) aNil)))) [5]) (gSlot 3))
  (sCons (sIf (tNotM (mB (eCall gAll (aCons (eLc (iSeq (eVar 3)) (gSlot 6) tYesM (eOr (eOp dIs (eVar 6) (eC (.bl true))) (eOp dIs (eVar 6) (eC (.bl false)))) [6]) aNil)))) (sCons (sRet (eC (.bl false)))
  sNil) sNil)
  (sCons (sAsg (eFn f_by_itself [] (aCons (eVar 0) aNil)) (gSlot 4))
  (sCons (sIf (mB (eOp dEq (eVar 4) (eC (.str "open")))) (sCons (sRet (eAnd (eOp (dIn false) (eC (.bl true)) (eVar 3)) (eOp (dIn false) (eC (.bl false)) (eVar 3))))
  sNil) sNil)
  (sCons (sRet (eCall gAll (aCons (eLc (iSeq (eVar 3)) (gSlot 6) tYesM (eOp dEq (eVar 6) (eOp dEq (eVar 4) (eC (.str "always")))) [6]) aNil)))
  sNil)))))))
noncomputable def f_n__law_by_one : List Q.D → AH → Res Q.D := fnR true P_n__law_by_one.length N_n__law_by_one.length m_n__law_by_one

/-! ### _law_held (level 7) -/
abbrev s_n__law_held : Stmt := top 68
abbrev N_n__law_held : List Str := ["kinds", "world", "sentence", "good"]
abbrev P_n__law_held : List Str := ["kinds", "world", "sentence"]
theorem sc_n__law_held : FnScope N_n__law_held P_n__law_held (defScope s_n__law_held) := ⟨rfl, rfl, rfl, by decide +kernel, rfl, by decide +kernel, by decide +kernel⟩
noncomputable def m_n__law_held : MS :=
  (sCons (sAsg (eFn f_n__law_says [] (aCons (eFn f_holds [] (aCons (eVar 0) (aCons (eVar 1) (aCons (eVar 2) aNil)))) (aCons (eC (.bl true)) aNil))) (gSlot 3))
  (sCons (sIf (tOrM (tNotM (mB (eFn f_n__law_says [] (aCons (eFn f_holds [] (aCons (eVar 0) (aCons (eVar 1) (aCons (eVar 2) aNil)))) (aCons (eVar 3) aNil))))) (tNotM (mB (eFn f_n__law_says [] (aCons (eFn f_holds [] (aCons (eVar 0) (aCons (eVar 1) (aCons (eFn f_contrary [] (aCons (eVar 2) aNil)) aNil)))) (aCons (eNot (eVar 3)) aNil)))))) (sCons (sRet (eC (.bl false)))
  sNil) sNil)
  (sCons (sRet (eAnd (eFn f_n__law_says [] (aCons (eFn f_holds [] (aCons (eVar 0) (aCons (eVar 1) (aCons (eFn f_mirror [] (aCons (eVar 2) aNil)) aNil)))) (aCons (eVar 3) aNil))) (eFn f_n__law_says [] (aCons (eFn f_holds [] (aCons (eVar 0) (aCons (eVar 1) (aCons (eFn f_plain [] (aCons (eVar 2) aNil)) aNil)))) (aCons (eVar 3) aNil)))))
  sNil)))
noncomputable def f_n__law_held : List Q.D → AH → Res Q.D := fnR true P_n__law_held.length N_n__law_held.length m_n__law_held

/-! ### law (level 8) -/
abbrev s_law : Stmt := top 69
abbrev N_law : List Str := ["script", "stream", "kinds", "turn", "kind", "word", "few", "due", "many", "sentence", "k"]
abbrev P_law : List Str := ["script"]
theorem sc_law : FnScope N_law P_law (defScope s_law) := ⟨rfl, rfl, rfl, by decide +kernel, rfl, by decide +kernel, by decide +kernel⟩
noncomputable def b_law_1 : MS :=
  (sCons (sAsg (eFn f_n__law_sentence [] (aCons (eVar 1) (aCons (eVar 2) aNil))) (gSlot 9))
  (sCons (sIf (tOrM (tNotM (mB (eFn f_n__law_forms [] (aCons (eVar 9) aNil)))) (tNotM (mB (eFn f_n__law_by_one [] (aCons (eVar 9) aNil))))) (sCons (sRet (eC (.bl false)))
  sNil) sNil)
  (sCons (sIf (tNotM (mB (eFn f_n__law_held [] (aCons (eVar 2) (aCons (eFn f_n__law_world [] (aCons (eVar 1) (aCons (eVar 2) (aCons (eC (.int 5)) aNil)))) (aCons (eVar 9) aNil)))))) (sCons (sRet (eC (.bl false)))
  sNil) sNil)
  sNil)))
noncomputable def b_law_2 : MS :=
  (sCons (sAsg (eTup (aCons (eVar 5) (aCons (eTup (aCons (eVar 4) (aCons (eOp dLt (eVar 10) (eC (.int 2))) aNil))) (aCons (eTup (aCons (eVar 4) (aCons (eOp dEq (eOp dMod (eCall gInt (aCons (eVar 10) aNil)) (eC (.int 2))) (eC (.int 0))) aNil))) aNil)))) (gSlot 9))
  (sCons (sIf (tOrM (tNotM (mB (eFn f_n__law_forms [] (aCons (eVar 9) aNil)))) (tNotM (mB (eFn f_n__law_by_one [] (aCons (eVar 9) aNil))))) (sCons (sRet (eC (.bl false)))
  sNil) sNil)
  sNil))
noncomputable def b_law_3 : MS :=
  (sCons (sFor (iRange1 (eC (.int 4))) (gSlot 10) b_law_2)
  sNil)
noncomputable def m_law : MS :=
  (sCons (sAsg (eFn f_n__law_stream [] (aCons (eVar 0) aNil)) (gSlot 1))
  (sCons (sAsg (eFn f_n__law_kinds [] (aCons (eVar 1) (aCons (eFn f_n__law_pick [] (aCons (eVar 1) (aCons (eLst (aCons (eC (.int 1)) (aCons (eC (.int 2)) (aCons (eC (.int 3)) (aCons (eC (.int 5)) (aCons (eC (.int 30)) (aCons (eOp dPlus (eC (.int 1)) (eFn f_n__law_next [] (aCons (eVar 1) (aCons (eC (.int 30)) aNil)))) aNil))))))) aNil))) aNil))) (gSlot 2))
  (sCons (sFor (iRange1 (eC (.int 12))) (gSlot 3) b_law_1)
  (sCons (sAsg (eFn f_n__law_pick [] (aCons (eVar 1) (aCons (eVar 2) aNil))) (gSlot 4))
  (sCons (sFor (iSeq (eLst (aCons (eC (.str "all")) (aCons (eC (.str "some")) (aCons (eC (.str "more")) (aCons (eC (.str "many")) aNil)))))) (gSlot 5) b_law_3)
  (sCons (sAsg (eSl dSl (eVar 2) oNil (oSome (eFn f_n__law_pick [] (aCons (eVar 1) (aCons (eLst (aCons (eC (.int 1)) (aCons (eC (.int 2)) (aCons (eC (.int 3)) (aCons (eC (.int 6)) (aCons (eC (.int 12)) (aCons (eC (.int 30)) aNil))))))) aNil))))) (gSlot 6))
  (sCons (sAsg (eFn f_n__law_plain_all [] (aCons (eVar 6) aNil)) (gSlot 7))
  (sCons (sAsg (eCall gLen (aCons (eVar 6) aNil)) (gSlot 8))
  (sCons (sRet (eAnd (eOp dEq (eCall gLen (aCons (eVar 7) aNil)) (eOp dMul (eOp dMul (eC (.int 4)) (eVar 8)) (eOp dPlus (eOp dMul (eC (.int 2)) (eVar 8)) (eC (.int 1))))) (eFn f_n__law_same [] (aCons (eFn f_plain_sentences [] (aCons (eVar 6) aNil)) (aCons (eCall gTuple (aCons (eVar 7) aNil)) aNil)))))
  sNil)))))))))
noncomputable def f_law : List Q.D → AH → Res Q.D := fnR true P_law.length N_law.length m_law
theorem e_is_integer (a0 : Q.D) (h : AH) : f_is_integer [a0] h = trimR h true (retOf (m_is_integer [some a0] h)) := fnR_pos (b := true) (n := P_is_integer.length) (N := N_is_integer.length) (body := m_is_integer) (σ := [some a0]) rfl rfl
theorem e_is_bit (a0 : Q.D) (h : AH) : f_is_bit [a0] h = trimR h true (retOf (m_is_bit [some a0] h)) := fnR_pos (b := true) (n := P_is_bit.length) (N := N_is_bit.length) (body := m_is_bit) (σ := [some a0]) rfl rfl
theorem e_is_from_to (a0 a1 a2 : Q.D) (h : AH) : f_is_from_to [a0, a1, a2] h = trimR h true (retOf (m_is_from_to [some a0, some a1, some a2] h)) := fnR_pos (b := true) (n := P_is_from_to.length) (N := N_is_from_to.length) (body := m_is_from_to) (σ := [some a0, some a1, some a2]) rfl rfl
theorem e_is_tuple_of (a0 a1 a2 : Q.D) (h : AH) : f_is_tuple_of [a0, a1, a2] h = trimR h true (retOf (m_is_tuple_of [some a0, some a1, some a2] h)) := fnR_pos (b := true) (n := P_is_tuple_of.length) (N := N_is_tuple_of.length) (body := m_is_tuple_of) (σ := [some a0, some a1, some a2]) rfl rfl
theorem e_is_ascending (a0 : Q.D) (h : AH) : f_is_ascending [a0] h = trimR h true (retOf (m_is_ascending [some a0, none] h)) := fnR_pos (b := true) (n := P_is_ascending.length) (N := N_is_ascending.length) (body := m_is_ascending) (σ := [some a0, none]) rfl rfl
theorem e_is_kind (a0 : Q.D) (h : AH) : f_is_kind [a0] h = trimR h true (retOf (m_is_kind [some a0, none] h)) := fnR_pos (b := true) (n := P_is_kind.length) (N := N_is_kind.length) (body := m_is_kind) (σ := [some a0, none]) rfl rfl
theorem e_is_kind_row (a0 a1 : Q.D) (h : AH) : f_is_kind_row [a0, a1] h = trimR h true (retOf (m_is_kind_row [some a0, some a1, none] h)) := fnR_pos (b := true) (n := P_is_kind_row.length) (N := N_is_kind_row.length) (body := m_is_kind_row) (σ := [some a0, some a1, none]) rfl rfl
theorem e_is_kinds (a0 : Q.D) (h : AH) : f_is_kinds [a0] h = trimR h true (retOf (m_is_kinds [some a0] h)) := fnR_pos (b := true) (n := P_is_kinds.length) (N := N_is_kinds.length) (body := m_is_kinds) (σ := [some a0]) rfl rfl
theorem e_is_free_term (a0 : Q.D) (h : AH) : f_is_free_term [a0] h = trimR h true (retOf (m_is_free_term [some a0] h)) := fnR_pos (b := true) (n := P_is_free_term.length) (N := N_is_free_term.length) (body := m_is_free_term) (σ := [some a0]) rfl rfl
theorem e_is_term_over (a0 a1 : Q.D) (h : AH) : f_is_term_over [a0, a1] h = trimR h true (retOf (m_is_term_over [some a0, some a1] h)) := fnR_pos (b := true) (n := P_is_term_over.length) (N := N_is_term_over.length) (body := m_is_term_over) (σ := [some a0, some a1]) rfl rfl
theorem e_check_kinds (a0 a1 : Q.D) (h : AH) : f_check_kinds [a0, a1] h = trimR h true (retOf (m_check_kinds [some a0, some a1] h)) := fnR_pos (b := true) (n := P_check_kinds.length) (N := N_check_kinds.length) (body := m_check_kinds) (σ := [some a0, some a1]) rfl rfl
theorem e_flip (a0 : Q.D) (h : AH) : f_flip [a0] h = trimR h true (retOf (m_flip [some a0] h)) := fnR_pos (b := true) (n := P_flip.length) (N := N_flip.length) (body := m_flip) (σ := [some a0]) rfl rfl
theorem e_terms_among (a0 : Q.D) (h : AH) : f_terms_among [a0] h = trimR h true (retOf (m_terms_among [some a0, none, none] h)) := fnR_pos (b := true) (n := P_terms_among.length) (N := N_terms_among.length) (body := m_terms_among) (σ := [some a0, none, none]) rfl rfl
theorem e_is_word_and (a0 a1 : Q.D) (h : AH) : f_is_word_and [a0, a1] h = trimR h true (retOf (m_is_word_and [some a0, some a1] h)) := fnR_pos (b := true) (n := P_is_word_and.length) (N := N_is_word_and.length) (body := m_is_word_and) (σ := [some a0, some a1]) rfl rfl
theorem e_is_free_sentence (a0 : Q.D) (h : AH) : f_is_free_sentence [a0] h = trimR h true (retOf (m_is_free_sentence [some a0] h)) := fnR_pos (b := true) (n := P_is_free_sentence.length) (N := N_is_free_sentence.length) (body := m_is_free_sentence) (σ := [some a0]) rfl rfl
theorem e_is_sentence_over (a0 a1 : Q.D) (h : AH) : f_is_sentence_over [a0, a1] h = trimR h true (retOf (m_is_sentence_over [some a0, some a1] h)) := fnR_pos (b := true) (n := P_is_sentence_over.length) (N := N_is_sentence_over.length) (body := m_is_sentence_over) (σ := [some a0, some a1]) rfl rfl
theorem e_is_question_over (a0 a1 : Q.D) (h : AH) : f_is_question_over [a0, a1] h = trimR h true (retOf (m_is_question_over [some a0, some a1, none] h)) := fnR_pos (b := true) (n := P_is_question_over.length) (N := N_is_question_over.length) (body := m_is_question_over) (σ := [some a0, some a1, none]) rfl rfl
theorem e_check_question (a0 a1 a2 : Q.D) (h : AH) : f_check_question [a0, a1, a2] h = trimR h true (retOf (m_check_question [some a0, some a1, some a2] h)) := fnR_pos (b := true) (n := P_check_question.length) (N := N_check_question.length) (body := m_check_question) (σ := [some a0, some a1, some a2]) rfl rfl
theorem e_contrary_of (a0 : Q.D) (h : AH) : f_contrary_of [a0] h = trimR h true (retOf (m_contrary_of [some a0, none, none, none] h)) := fnR_pos (b := true) (n := P_contrary_of.length) (N := N_contrary_of.length) (body := m_contrary_of) (σ := [some a0, none, none, none]) rfl rfl
theorem e_mirror_of (a0 : Q.D) (h : AH) : f_mirror_of [a0] h = trimR h true (retOf (m_mirror_of [some a0, none, none, none] h)) := fnR_pos (b := true) (n := P_mirror_of.length) (N := N_mirror_of.length) (body := m_mirror_of) (σ := [some a0, none, none, none]) rfl rfl
theorem e_plain_of (a0 : Q.D) (h : AH) : f_plain_of [a0] h = trimR h true (retOf (m_plain_of [some a0] h)) := fnR_pos (b := true) (n := P_plain_of.length) (N := N_plain_of.length) (body := m_plain_of) (σ := [some a0]) rfl rfl
theorem e_check_free (a0 : Q.D) (h : AH) : f_check_free [a0] h = trimR h true (retOf (m_check_free [some a0] h)) := fnR_pos (b := true) (n := P_check_free.length) (N := N_check_free.length) (body := m_check_free) (σ := [some a0]) rfl rfl
theorem e_contrary (a0 : Q.D) (h : AH) : f_contrary [a0] h = trimR h true (retOf (m_contrary [some a0] h)) := fnR_pos (b := true) (n := P_contrary.length) (N := N_contrary.length) (body := m_contrary) (σ := [some a0]) rfl rfl
theorem e_mirror (a0 : Q.D) (h : AH) : f_mirror [a0] h = trimR h true (retOf (m_mirror [some a0] h)) := fnR_pos (b := true) (n := P_mirror.length) (N := N_mirror.length) (body := m_mirror) (σ := [some a0]) rfl rfl
theorem e_plain (a0 : Q.D) (h : AH) : f_plain [a0] h = trimR h true (retOf (m_plain [some a0] h)) := fnR_pos (b := true) (n := P_plain.length) (N := N_plain.length) (body := m_plain) (σ := [some a0]) rfl rfl
theorem e_always_holds (a0 : Q.D) (h : AH) : f_always_holds [a0] h = trimR h true (retOf (m_always_holds [some a0] h)) := fnR_pos (b := true) (n := P_always_holds.length) (N := N_always_holds.length) (body := m_always_holds) (σ := [some a0]) rfl rfl
theorem e_by_itself (a0 : Q.D) (h : AH) : f_by_itself [a0] h = trimR h true (retOf (m_by_itself [some a0] h)) := fnR_pos (b := true) (n := P_by_itself.length) (N := N_by_itself.length) (body := m_by_itself) (σ := [some a0]) rfl rfl
theorem e_plain_sentences_over (a0 : Q.D) (h : AH) : f_plain_sentences_over [a0] h = trimR h true (retOf (m_plain_sentences_over [some a0, none, none, none, none, none, none] h)) := fnR_pos (b := true) (n := P_plain_sentences_over.length) (N := N_plain_sentences_over.length) (body := m_plain_sentences_over) (σ := [some a0, none, none, none, none, none, none]) rfl rfl
theorem e_plain_sentences (a0 : Q.D) (h : AH) : f_plain_sentences [a0] h = trimR h true (retOf (m_plain_sentences [some a0] h)) := fnR_pos (b := true) (n := P_plain_sentences.length) (N := N_plain_sentences.length) (body := m_plain_sentences) (σ := [some a0]) rfl rfl
theorem e_parts_of (a0 : Q.D) (h : AH) : f_parts_of [a0] h = trimR h true (retOf (m_parts_of [some a0] h)) := fnR_pos (b := true) (n := P_parts_of.length) (N := N_parts_of.length) (body := m_parts_of) (σ := [some a0]) rfl rfl
theorem e_is_sort_over (a0 a1 : Q.D) (h : AH) : f_is_sort_over [a0, a1] h = trimR h true (retOf (m_is_sort_over [some a0, some a1, none, none, none] h)) := fnR_pos (b := true) (n := P_is_sort_over.length) (N := N_is_sort_over.length) (body := m_is_sort_over) (σ := [some a0, some a1, none, none, none]) rfl rfl
theorem e_is_world_over (a0 a1 : Q.D) (h : AH) : f_is_world_over [a0, a1] h = trimR h true (retOf (m_is_world_over [some a0, some a1, none, none, none, none] h)) := fnR_pos (b := true) (n := P_is_world_over.length) (N := N_is_world_over.length) (body := m_is_world_over) (σ := [some a0, some a1, none, none, none, none]) rfl rfl
theorem e_check_world (a0 a1 a2 : Q.D) (h : AH) : f_check_world [a0, a1, a2] h = trimR h true (retOf (m_check_world [some a0, some a1, some a2] h)) := fnR_pos (b := true) (n := P_check_world.length) (N := N_check_world.length) (body := m_check_world) (σ := [some a0, some a1, some a2]) rfl rfl
theorem e_Measure__meets (a0 a1 a2 : Q.D) (h : AH) : f_Measure__meets [a0, a1, a2] h = trimR h true (retOf (m_Measure__meets [some a0, some a1, some a2] h)) := fnR_pos (b := true) (n := P_Measure__meets.length) (N := N_Measure__meets.length) (body := m_Measure__meets) (σ := [some a0, some a1, some a2]) rfl rfl
theorem e_Measure__keeps (a0 a1 : Q.D) (h : AH) : f_Measure__keeps [a0, a1] h = trimR h true (retOf (m_Measure__keeps [some a0, some a1, none, none, none] h)) := fnR_pos (b := true) (n := P_Measure__keeps.length) (N := N_Measure__keeps.length) (body := m_Measure__keeps) (σ := [some a0, some a1, none, none, none]) rfl rfl
theorem e_Measure__keeps_all (a0 a1 : Q.D) (h : AH) : f_Measure__keeps_all [a0, a1] h = trimR h true (retOf (m_Measure__keeps_all [some a0, some a1, none] h)) := fnR_pos (b := true) (n := P_Measure__keeps_all.length) (N := N_Measure__keeps_all.length) (body := m_Measure__keeps_all) (σ := [some a0, some a1, none]) rfl rfl
theorem e_Measure____init__ (a0 a1 a2 : Q.D) (h : AH) : f_Measure____init__ [a0, a1, a2] h = trimR h true (retOf (m_Measure____init__ [some a0, some a1, some a2, none, none, none, none, none, none, none, none] h)) := fnR_pos (b := true) (n := P_Measure____init__.length) (N := N_Measure____init__.length) (body := m_Measure____init__) (σ := [some a0, some a1, some a2, none, none, none, none, none, none, none, none]) rfl rfl
theorem e_keeps_all (a0 a1 a2 : Q.D) (h : AH) : f_keeps_all [a0, a1, a2] h = trimR h true (retOf (m_keeps_all [some a0, some a1, some a2] h)) := fnR_pos (b := true) (n := P_keeps_all.length) (N := N_keeps_all.length) (body := m_keeps_all) (σ := [some a0, some a1, some a2]) rfl rfl
theorem e_holds (a0 a1 a2 : Q.D) (h : AH) : f_holds [a0, a1, a2] h = trimR h true (retOf (m_holds [some a0, some a1, some a2] h)) := fnR_pos (b := true) (n := P_holds.length) (N := N_holds.length) (body := m_holds) (σ := [some a0, some a1, some a2]) rfl rfl
theorem e_n__law_stream (a0 : Q.D) (h : AH) : f_n__law_stream [a0] h = trimR h false (retOf (m_n__law_stream [some a0] h)) := fnR_pos (b := false) (n := P_n__law_stream.length) (N := N_n__law_stream.length) (body := m_n__law_stream) (σ := [some a0]) rfl rfl
theorem e_n__law_next (a0 a1 : Q.D) (h : AH) : f_n__law_next [a0, a1] h = trimR h true (retOf (m_n__law_next [some a0, some a1, none, none, none] h)) := fnR_pos (b := true) (n := P_n__law_next.length) (N := N_n__law_next.length) (body := m_n__law_next) (σ := [some a0, some a1, none, none, none]) rfl rfl
theorem e_n__law_pick (a0 a1 : Q.D) (h : AH) : f_n__law_pick [a0, a1] h = trimR h true (retOf (m_n__law_pick [some a0, some a1] h)) := fnR_pos (b := true) (n := P_n__law_pick.length) (N := N_n__law_pick.length) (body := m_n__law_pick) (σ := [some a0, some a1]) rfl rfl
theorem e_n__law_says (a0 a1 : Q.D) (h : AH) : f_n__law_says [a0, a1] h = trimR h true (retOf (m_n__law_says [some a0, some a1] h)) := fnR_pos (b := true) (n := P_n__law_says.length) (N := N_n__law_says.length) (body := m_n__law_says) (σ := [some a0, some a1]) rfl rfl
theorem e_n__law_same (a0 a1 : Q.D) (h : AH) : f_n__law_same [a0, a1] h = trimR h true (retOf (m_n__law_same [some a0, some a1, none, none, none, none, none] h)) := fnR_pos (b := true) (n := P_n__law_same.length) (N := N_n__law_same.length) (body := m_n__law_same) (σ := [some a0, some a1, none, none, none, none, none]) rfl rfl
theorem e_n__law_kind (a0 : Q.D) (h : AH) : f_n__law_kind [a0] h = trimR h true (retOf (m_n__law_kind [some a0, none, none, none] h)) := fnR_pos (b := true) (n := P_n__law_kind.length) (N := N_n__law_kind.length) (body := m_n__law_kind) (σ := [some a0, none, none, none]) rfl rfl
theorem e_n__law_kinds (a0 a1 : Q.D) (h : AH) : f_n__law_kinds [a0, a1] h = trimR h true (retOf (m_n__law_kinds [some a0, some a1, none, none, none, none, none, none, none, none] h)) := fnR_pos (b := true) (n := P_n__law_kinds.length) (N := N_n__law_kinds.length) (body := m_n__law_kinds) (σ := [some a0, some a1, none, none, none, none, none, none, none, none]) rfl rfl
theorem e_n__law_bit (a0 : Q.D) (h : AH) : f_n__law_bit [a0] h = trimR h true (retOf (m_n__law_bit [some a0] h)) := fnR_pos (b := true) (n := P_n__law_bit.length) (N := N_n__law_bit.length) (body := m_n__law_bit) (σ := [some a0]) rfl rfl
theorem e_n__law_flip (a0 : Q.D) (h : AH) : f_n__law_flip [a0] h = trimR h true (retOf (m_n__law_flip [some a0] h)) := fnR_pos (b := true) (n := P_n__law_flip.length) (N := N_n__law_flip.length) (body := m_n__law_flip) (σ := [some a0]) rfl rfl
theorem e_n__law_sentence (a0 a1 : Q.D) (h : AH) : f_n__law_sentence [a0, a1] h = trimR h true (retOf (m_n__law_sentence [some a0, some a1, none, none, none] h)) := fnR_pos (b := true) (n := P_n__law_sentence.length) (N := N_n__law_sentence.length) (body := m_n__law_sentence) (σ := [some a0, some a1, none, none, none]) rfl rfl
theorem e_n__law_mirror (a0 : Q.D) (h : AH) : f_n__law_mirror [a0] h = trimR h true (retOf (m_n__law_mirror [some a0] h)) := fnR_pos (b := true) (n := P_n__law_mirror.length) (N := N_n__law_mirror.length) (body := m_n__law_mirror) (σ := [some a0]) rfl rfl
theorem e_n__law_contrary (a0 : Q.D) (h : AH) : f_n__law_contrary [a0] h = trimR h true (retOf (m_n__law_contrary [some a0] h)) := fnR_pos (b := true) (n := P_n__law_contrary.length) (N := N_n__law_contrary.length) (body := m_n__law_contrary) (σ := [some a0]) rfl rfl
theorem e_n__law_terms (a0 : Q.D) (h : AH) : f_n__law_terms [a0] h = trimR h true (retOf (m_n__law_terms [some a0, none] h)) := fnR_pos (b := true) (n := P_n__law_terms.length) (N := N_n__law_terms.length) (body := m_n__law_terms) (σ := [some a0, none]) rfl rfl
theorem e_n__law_plain_all (a0 : Q.D) (h : AH) : f_n__law_plain_all [a0] h = trimR h true (retOf (m_n__law_plain_all [some a0, none, none, none, none, none, none] h)) := fnR_pos (b := true) (n := P_n__law_plain_all.length) (N := N_n__law_plain_all.length) (body := m_n__law_plain_all) (σ := [some a0, none, none, none, none, none, none]) rfl rfl
theorem e_n__law_world (a0 a1 a2 : Q.D) (h : AH) : f_n__law_world [a0, a1, a2] h = trimR h true (retOf (m_n__law_world [some a0, some a1, some a2, none, none, none, none, none, none, none] h)) := fnR_pos (b := true) (n := P_n__law_world.length) (N := N_n__law_world.length) (body := m_n__law_world) (σ := [some a0, some a1, some a2, none, none, none, none, none, none, none]) rfl rfl
theorem e_n__law_alone (a0 : Q.D) (h : AH) : f_n__law_alone [a0] h = trimR h true (retOf (m_n__law_alone [some a0] h)) := fnR_pos (b := true) (n := P_n__law_alone.length) (N := N_n__law_alone.length) (body := m_n__law_alone) (σ := [some a0]) rfl rfl
theorem e_n__law_ones (a0 : Q.D) (h : AH) : f_n__law_ones [a0] h = trimR h true (retOf (m_n__law_ones [some a0, none] h)) := fnR_pos (b := true) (n := P_n__law_ones.length) (N := N_n__law_ones.length) (body := m_n__law_ones) (σ := [some a0, none]) rfl rfl
theorem e_n__law_forms (a0 : Q.D) (h : AH) : f_n__law_forms [a0] h = trimR h true (retOf (m_n__law_forms [some a0, none, none] h)) := fnR_pos (b := true) (n := P_n__law_forms.length) (N := N_n__law_forms.length) (body := m_n__law_forms) (σ := [some a0, none, none]) rfl rfl
theorem e_n__law_by_one (a0 : Q.D) (h : AH) : f_n__law_by_one [a0] h = trimR h true (retOf (m_n__law_by_one [some a0, none, none, none, none, none, none] h)) := fnR_pos (b := true) (n := P_n__law_by_one.length) (N := N_n__law_by_one.length) (body := m_n__law_by_one) (σ := [some a0, none, none, none, none, none, none]) rfl rfl
theorem e_n__law_held (a0 a1 a2 : Q.D) (h : AH) : f_n__law_held [a0, a1, a2] h = trimR h true (retOf (m_n__law_held [some a0, some a1, some a2, none] h)) := fnR_pos (b := true) (n := P_n__law_held.length) (N := N_n__law_held.length) (body := m_n__law_held) (σ := [some a0, some a1, some a2, none]) rfl rfl
theorem e_law (a0 : Q.D) (h : AH) : f_law [a0] h = trimR h true (retOf (m_law [some a0, none, none, none, none, none, none, none, none, none, none] h)) := fnR_pos (b := true) (n := P_law.length) (N := N_law.length) (body := m_law) (σ := [some a0, none, none, none, none, none, none, none, none, none, none]) rfl rfl

section
variable {P : Program} {w : World} {K : PySem.W.Frag} {mg : Str → Option Value} {base : Heap} {fa : Addr} {fd : FuncData}
abbrev si_BadValue : Stmt := mth 2 0
theorem sci_BadValue : FnScope ["self", "name"] ["self", "name"] (defScope si_BadValue) := ⟨rfl, rfl, rfl, by decide +kernel, rfl, by decide +kernel, by decide +kernel⟩
theorem ok_ini_BadValue (F : FunD K "__init__" "BadValue.__init__" (defArgs si_BadValue) (defBody si_BadValue) (defScope si_BadValue) [] [] fa fd) : FnOk P w K mg base CX0 1 fa fd ["self", "name"] (spIni K ["name"]) :=
  ini_one F sci_BadValue fun cdv A outer s H E => pss_one (ps_ost (pv 0) (pv 1))
theorem ok_is_integer (fr : Fr mg K) (xs : Xs P w K mg base)     (F : FunD K "is_integer" "is_integer" (defArgs s_is_integer) (defBody s_is_integer) (defScope s_is_integer) [] [] fa fd) :
    FnOk P w K mg base (L2N.CX P w) 1 fa fd P_is_integer (spOf P w K mg f_is_integer) :=
  fn_ok (k := 0) (body := m_is_integer) F sc_is_integer fun cdv A outer s H E hr => by
    have hu := hu64 hr
    exact (qss_cons (qs_ret (q_and (q_isi (T := "int") rfl fr.isinstance (qv 0) rfl fr.int (by decide +kernel)) (q_one (q_not (q_isi (T := "bool") rfl fr.isinstance (qv 0) rfl fr.bool (by decide +kernel))))))
  qss_nil)
theorem ok_is_bit (fr : Fr mg K) (xs : Xs P w K mg base)     (F : FunD K "is_bit" "is_bit" (defArgs s_is_bit) (defBody s_is_bit) (defScope s_is_bit) [] [] fa fd) :
    FnOk P w K mg base (L2N.CX P w) 1 fa fd P_is_bit (spOf P w K mg f_is_bit) :=
  fn_ok (k := 0) (body := m_is_bit) F sc_is_bit fun cdv A outer s H E hr => by
    have hu := hu64 hr
    exact (qss_cons (qs_ret (q_isi (T := "bool") rfl fr.isinstance (qv 0) rfl fr.bool (by decide +kernel)))
  qss_nil)
theorem ok_is_from_to (fr : Fr mg K) (xs : Xs P w K mg base) (d_is_integer_1 : Def P w K mg base (L2N.CX P w) 1 "is_integer" [] f_is_integer)    (F : FunD K "is_from_to" "is_from_to" (defArgs s_is_from_to) (defBody s_is_from_to) (defScope s_is_from_to) [] [] fa fd) :
    FnOk P w K mg base (L2N.CX P w) 2 fa fd P_is_from_to (spOf P w K mg f_is_from_to) :=
  fn_ok (k := 1) (body := m_is_from_to) F sc_is_from_to fun cdv A outer s H E hr => by
    have hu := hu64 hr
    have c_is_integer_1 : ∀ {X : Cx} {W : WX}, X.prog = P → X.w = w → X.K = K → X.mg = mg → X.base = base → X.A = _ → L2N.Takes X W → Cal X W "is_integer" [] f_is_integer := fun e1 e2 e3 e4 e5 e6 tk => Def.calX d_is_integer_1 (hr.mono (by decide)) tk e1 e2 e3 e4 e5 e6
    exact (qss_cons (qs_ret (q_and (q_fn (c_is_integer_1 rfl rfl rfl rfl rfl rfl takesM) rfl (qa_cons (qv 0) qa_nil)) (q_one (q_chain (opd_le hu) (opd_le hu) (qv 1) (qv 0) (qv 2)))))
  qss_nil)
theorem ok_is_tuple_of (fr : Fr mg K) (xs : Xs P w K mg base)     (F : FunD K "is_tuple_of" "is_tuple_of" (defArgs s_is_tuple_of) (defBody s_is_tuple_of) (defScope s_is_tuple_of) [] [] fa fd) :
    FnOk P w K mg base (L2N.CX P w) 1 fa fd P_is_tuple_of (spOf P w K mg f_is_tuple_of) :=
  fn_ok (k := 0) (body := m_is_tuple_of) F sc_is_tuple_of fun cdv A outer s H E hr => by
    have hu := hu64 hr
    exact (qss_cons (qs_ret (q_and (q_isi (T := "tuple") rfl fr.isinstance (qv 0) rfl fr.tuple (by decide +kernel)) (q_one (q_chain (opd_le hu) (opd_le hu) (qv 1) (q_bltn cd_len rfl fr.len (by decide +kernel) (qa_cons (qv 0) qa_nil)) (qv 2)))))
  qss_nil)
theorem ok_is_ascending (fr : Fr mg K) (xs : Xs P w K mg base)     (F : FunD K "is_ascending" "is_ascending" (defArgs s_is_ascending) (defBody s_is_ascending) (defScope s_is_ascending) [] [] fa fd) :
    FnOk P w K mg base (L2N.CX P w) 1 fa fd P_is_ascending (spOf P w K mg f_is_ascending) :=
  fn_ok (k := 0) (body := m_is_ascending) F sc_is_ascending fun cdv A outer s H E hr => by
    have hu := hu64 hr
    exact (qss_cons (qs_ret (q_bltn (cd_all rfl) rfl fr.all (by decide +kernel) (qa_cons (q_lc (own := [("at", 1)]) rfl sc_is_ascending.nd (qi_range1 rfl fr.range (q_op opd_sub (q_bltn cd_len rfl fr.len (by decide +kernel) (qa_cons (qv 0) qa_nil)) q_int)) (blkOk_by (own := [("at", 1)]) (N := N_is_ascending) (sc := defScope s_is_ascending) (by decide +kernel)) (fun _ _ _ _ _ => (qgn (i := 1) sc_is_ascending.nd)) (fun _ _ _ _ _ => qts_nil) (fun _ _ _ _ _ => (q_cmp (opd_lt hu) (q_ix (ixd hu) (qv 0) (qv 1)) (q_ix (ixd hu) (qv 0) (q_op opd_plus (qv 1) q_int)) (by rfl)))) qa_nil)))
  qss_nil)
theorem ok_is_kind (fr : Fr mg K) (xs : Xs P w K mg base)     (F : FunD K "is_kind" "is_kind" (defArgs s_is_kind) (defBody s_is_kind) (defScope s_is_kind) [] [] fa fd) :
    FnOk P w K mg base (L2N.CX P w) 1 fa fd P_is_kind (spOf P w K mg f_is_kind) :=
  fn_ok (k := 0) (body := m_is_kind) F sc_is_kind fun cdv A outer s H E hr => by
    have hu := hu64 hr
    exact (qss_cons (qs_if (QW.qt (qw_or (qt_not (qt_val (q_isi (T := "str") rfl fr.isinstance (qv 0) rfl fr.str (by decide +kernel)))) (qw_or1 (qt_not (qt_chain (opd_le hu) (opd_le hu) q_int (q_bltn cd_len rfl fr.len (by decide +kernel) (qa_cons (qv 0) qa_nil)) (q_glob fr.MOST_SIGNS rfl)))))) (qss_cons (qs_ret q_bl)
  qss_nil) qss_nil)
  (qss_cons (qs_ret (q_and (q_chain (opd_le hu) (opd_le hu) q_str (q_ix (ixd hu) (qv 0) q_int) q_str) (q_one (q_bltn (cd_all rfl) rfl fr.all (by decide +kernel) (qa_cons (q_lc (own := [("sign", 1)]) rfl sc_is_kind.nd (qi_seq (qv 0)) (blkOk_by (own := [("sign", 1)]) (N := N_is_kind) (sc := defScope s_is_kind) (by decide +kernel)) (fun _ _ _ _ _ => (qgn (i := 1) sc_is_kind.nd)) (fun _ _ _ _ _ => qts_nil) (fun _ _ _ _ _ => (q_or (q_chain (opd_le hu) (opd_le hu) q_str (qv 1) q_str) (q_one (q_chain (opd_le hu) (opd_le hu) q_str (qv 1) q_str))))) qa_nil)))))
  qss_nil))
theorem ok_is_kind_row (fr : Fr mg K) (xs : Xs P w K mg base) (d_is_ascending_1 : Def P w K mg base (L2N.CX P w) 1 "is_ascending" [] f_is_ascending) (d_is_kind_1 : Def P w K mg base (L2N.CX P w) 1 "is_kind" [] f_is_kind) (d_is_tuple_of_3 : Def P w K mg base (L2N.CX P w) 1 "is_tuple_of" [] f_is_tuple_of)    (F : FunD K "is_kind_row" "is_kind_row" (defArgs s_is_kind_row) (defBody s_is_kind_row) (defScope s_is_kind_row) [] [] fa fd) :
    FnOk P w K mg base (L2N.CX P w) 2 fa fd P_is_kind_row (spOf P w K mg f_is_kind_row) :=
  fn_ok (k := 1) (body := m_is_kind_row) F sc_is_kind_row fun cdv A outer s H E hr => by
    have hu := hu64 hr
    have c_is_ascending_1 : ∀ {X : Cx} {W : WX}, X.prog = P → X.w = w → X.K = K → X.mg = mg → X.base = base → X.A = _ → L2N.Takes X W → Cal X W "is_ascending" [] f_is_ascending := fun e1 e2 e3 e4 e5 e6 tk => Def.calX d_is_ascending_1 (hr.mono (by decide)) tk e1 e2 e3 e4 e5 e6
    have c_is_kind_1 : ∀ {X : Cx} {W : WX}, X.prog = P → X.w = w → X.K = K → X.mg = mg → X.base = base → X.A = _ → L2N.Takes X W → Cal X W "is_kind" [] f_is_kind := fun e1 e2 e3 e4 e5 e6 tk => Def.calX d_is_kind_1 (hr.mono (by decide)) tk e1 e2 e3 e4 e5 e6
    have c_is_tuple_of_3 : ∀ {X : Cx} {W : WX}, X.prog = P → X.w = w → X.K = K → X.mg = mg → X.base = base → X.A = _ → L2N.Takes X W → Cal X W "is_tuple_of" [] f_is_tuple_of := fun e1 e2 e3 e4 e5 e6 tk => Def.calX d_is_tuple_of_3 (hr.mono (by decide)) tk e1 e2 e3 e4 e5 e6
    exact (qss_cons (qs_ret (q_and (q_fn (c_is_tuple_of_3 rfl rfl rfl rfl rfl rfl takesM) rfl (qa_cons (qv 0) (qa_cons (qv 1) (qa_cons (q_glob fr.MOST_KINDS rfl) qa_nil)))) (q_and (q_bltn (cd_all rfl) rfl fr.all (by decide +kernel) (qa_cons (q_lc (own := [("one", 2)]) rfl sc_is_kind_row.nd (qi_seq (qv 0)) (blkOk_by (own := [("one", 2)]) (N := N_is_kind_row) (sc := defScope s_is_kind_row) (by decide +kernel)) (fun _ _ _ _ _ => (qgn (i := 2) sc_is_kind_row.nd)) (fun _ _ _ _ _ => qts_nil) (fun _ _ _ _ _ => (q_fn (c_is_kind_1 rfl rfl rfl rfl rfl rfl takesN) rfl (qa_cons (qv 2) qa_nil)))) qa_nil)) (q_one (q_fn (c_is_ascending_1 rfl rfl rfl rfl rfl rfl takesM) rfl (qa_cons (qv 0) qa_nil))))))
  qss_nil)
theorem ok_is_kinds (fr : Fr mg K) (xs : Xs P w K mg base) (d_is_kind_row_2 : Def P w K mg base (L2N.CX P w) 2 "is_kind_row" [] f_is_kind_row)    (F : FunD K "is_kinds" "is_kinds" (defArgs s_is_kinds) (defBody s_is_kinds) (defScope s_is_kinds) [] [] fa fd) :
    FnOk P w K mg base (L2N.CX P w) 3 fa fd P_is_kinds (spOf P w K mg f_is_kinds) :=
  fn_ok (k := 2) (body := m_is_kinds) F sc_is_kinds fun cdv A outer s H E hr => by
    have hu := hu64 hr
    have c_is_kind_row_2 : ∀ {X : Cx} {W : WX}, X.prog = P → X.w = w → X.K = K → X.mg = mg → X.base = base → X.A = _ → L2N.Takes X W → Cal X W "is_kind_row" [] f_is_kind_row := fun e1 e2 e3 e4 e5 e6 tk => Def.calX d_is_kind_row_2 (hr.mono (by decide)) tk e1 e2 e3 e4 e5 e6
    exact (qss_cons (qs_ret (q_fn (c_is_kind_row_2 rfl rfl rfl rfl rfl rfl takesM) rfl (qa_cons (qv 0) (qa_cons q_int qa_nil))))
  qss_nil)
theorem ok_is_free_term (fr : Fr mg K) (xs : Xs P w K mg base) (d_is_bit_1 : Def P w K mg base (L2N.CX P w) 1 "is_bit" [] f_is_bit) (d_is_kind_1 : Def P w K mg base (L2N.CX P w) 1 "is_kind" [] f_is_kind) (d_is_tuple_of_3 : Def P w K mg base (L2N.CX P w) 1 "is_tuple_of" [] f_is_tuple_of)    (F : FunD K "is_free_term" "is_free_term" (defArgs s_is_free_term) (defBody s_is_free_term) (defScope s_is_free_term) [] [] fa fd) :
    FnOk P w K mg base (L2N.CX P w) 2 fa fd P_is_free_term (spOf P w K mg f_is_free_term) :=
  fn_ok (k := 1) (body := m_is_free_term) F sc_is_free_term fun cdv A outer s H E hr => by
    have hu := hu64 hr
    have c_is_bit_1 : ∀ {X : Cx} {W : WX}, X.prog = P → X.w = w → X.K = K → X.mg = mg → X.base = base → X.A = _ → L2N.Takes X W → Cal X W "is_bit" [] f_is_bit := fun e1 e2 e3 e4 e5 e6 tk => Def.calX d_is_bit_1 (hr.mono (by decide)) tk e1 e2 e3 e4 e5 e6
    have c_is_kind_1 : ∀ {X : Cx} {W : WX}, X.prog = P → X.w = w → X.K = K → X.mg = mg → X.base = base → X.A = _ → L2N.Takes X W → Cal X W "is_kind" [] f_is_kind := fun e1 e2 e3 e4 e5 e6 tk => Def.calX d_is_kind_1 (hr.mono (by decide)) tk e1 e2 e3 e4 e5 e6
    have c_is_tuple_of_3 : ∀ {X : Cx} {W : WX}, X.prog = P → X.w = w → X.K = K → X.mg = mg → X.base = base → X.A = _ → L2N.Takes X W → Cal X W "is_tuple_of" [] f_is_tuple_of := fun e1 e2 e3 e4 e5 e6 tk => Def.calX d_is_tuple_of_3 (hr.mono (by decide)) tk e1 e2 e3 e4 e5 e6
    exact (qss_cons (qs_ret (q_and (q_fn (c_is_tuple_of_3 rfl rfl rfl rfl rfl rfl takesM) rfl (qa_cons (qv 0) (qa_cons q_int (qa_cons q_int qa_nil)))) (q_and (q_fn (c_is_kind_1 rfl rfl rfl rfl rfl rfl takesM) rfl (qa_cons (q_ix (ixd hu) (qv 0) q_int) qa_nil)) (q_one (q_fn (c_is_bit_1 rfl rfl rfl rfl rfl rfl takesM) rfl (qa_cons (q_ix (ixd hu) (qv 0) q_int) qa_nil))))))
  qss_nil)
theorem ok_is_term_over (fr : Fr mg K) (xs : Xs P w K mg base) (d_is_bit_1 : Def P w K mg base (L2N.CX P w) 1 "is_bit" [] f_is_bit) (d_is_tuple_of_3 : Def P w K mg base (L2N.CX P w) 1 "is_tuple_of" [] f_is_tuple_of)    (F : FunD K "is_term_over" "is_term_over" (defArgs s_is_term_over) (defBody s_is_term_over) (defScope s_is_term_over) [] [] fa fd) :
    FnOk P w K mg base (L2N.CX P w) 2 fa fd P_is_term_over (spOf P w K mg f_is_term_over) :=
  fn_ok (k := 1) (body := m_is_term_over) F sc_is_term_over fun cdv A outer s H E hr => by
    have hu := hu64 hr
    have c_is_bit_1 : ∀ {X : Cx} {W : WX}, X.prog = P → X.w = w → X.K = K → X.mg = mg → X.base = base → X.A = _ → L2N.Takes X W → Cal X W "is_bit" [] f_is_bit := fun e1 e2 e3 e4 e5 e6 tk => Def.calX d_is_bit_1 (hr.mono (by decide)) tk e1 e2 e3 e4 e5 e6
    have c_is_tuple_of_3 : ∀ {X : Cx} {W : WX}, X.prog = P → X.w = w → X.K = K → X.mg = mg → X.base = base → X.A = _ → L2N.Takes X W → Cal X W "is_tuple_of" [] f_is_tuple_of := fun e1 e2 e3 e4 e5 e6 tk => Def.calX d_is_tuple_of_3 (hr.mono (by decide)) tk e1 e2 e3 e4 e5 e6
    exact (qss_cons (qs_ret (q_and (q_fn (c_is_tuple_of_3 rfl rfl rfl rfl rfl rfl takesM) rfl (qa_cons (qv 1) (qa_cons q_int (qa_cons q_int qa_nil)))) (q_and (q_isi (T := "str") rfl fr.isinstance (q_ix (ixd hu) (qv 1) q_int) rfl fr.str (by decide +kernel)) (q_and (q_cmp (opd_in hu) (q_ix (ixd hu) (qv 1) q_int) (qv 0) (by rfl)) (q_one (q_fn (c_is_bit_1 rfl rfl rfl rfl rfl rfl takesM) rfl (qa_cons (q_ix (ixd hu) (qv 1) q_int) qa_nil)))))))
  qss_nil)
theorem ok_check_kinds (fr : Fr mg K) (xs : Xs P w K mg base) (d_is_kinds_1 : Def P w K mg base (L2N.CX P w) 3 "is_kinds" [] f_is_kinds)    (F : FunD K "check_kinds" "check_kinds" (defArgs s_check_kinds) (defBody s_check_kinds) (defScope s_check_kinds) [.str "kinds"] [] fa fd) :
    FnOk P w K mg base (L2N.CX P w) 4 fa fd P_check_kinds (spOf P w K mg f_check_kinds) :=
  fn_ok (k := 3) (body := m_check_kinds) F sc_check_kinds fun cdv A outer s H E hr => by
    have hu := hu64 hr
    have c_is_kinds_1 : ∀ {X : Cx} {W : WX}, X.prog = P → X.w = w → X.K = K → X.mg = mg → X.base = base → X.A = _ → L2N.Takes X W → Cal X W "is_kinds" [] f_is_kinds := fun e1 e2 e3 e4 e5 e6 tk => Def.calX d_is_kinds_1 (hr.mono (by decide)) tk e1 e2 e3 e4 e5 e6
    exact (qss_cons (qs_if (qt_not (qt_val (q_fn (c_is_kinds_1 rfl rfl rfl rfl rfl rfl takesM) rfl (qa_cons (qv 0) qa_nil)))) (qss_cons (qs_raise rfl takesM xs.c_BadValue (hr.mono (by decide)) (qa_cons (qv 1) qa_nil))
  qss_nil) qss_nil)
  qss_nil)
theorem ok_flip (fr : Fr mg K) (xs : Xs P w K mg base)     (F : FunD K "flip" "flip" (defArgs s_flip) (defBody s_flip) (defScope s_flip) [] [] fa fd) :
    FnOk P w K mg base (L2N.CX P w) 1 fa fd P_flip (spOf P w K mg f_flip) :=
  fn_ok (k := 0) (body := m_flip) F sc_flip fun cdv A outer s H E hr => by
    have hu := hu64 hr
    exact (qss_cons (qs_ret (q_tup (qa_cons (q_ix (ixd hu) (qv 0) q_int) (qa_cons (q_not (q_ix (ixd hu) (qv 0) q_int)) qa_nil))))
  qss_nil)
theorem ok_terms_among (fr : Fr mg K) (xs : Xs P w K mg base)     (F : FunD K "terms_among" "terms_among" (defArgs s_terms_among) (defBody s_terms_among) (defScope s_terms_among) [] [] fa fd) :
    FnOk P w K mg base (L2N.CX P w) 1 fa fd P_terms_among (spOf P w K mg f_terms_among) :=
  fn_ok (k := 0) (body := m_terms_among) F sc_terms_among fun cdv A outer s H E hr => by
    have hu := hu64 hr
    exact (qss_cons (qs_ret (q_btyp cd_tuple rfl fr.tuple (by decide +kernel) (qa_cons (q_lcN (own := [("kind", 1), ("bit", 2)]) (is := [1]) rfl sc_terms_among.nd (qi_seq (qv 0)) (blkOk_by (own := [("kind", 1), ("bit", 2)]) (N := N_terms_among) (sc := defScope s_terms_among) (by decide +kernel)) rfl (by decide) (MCs.cons (is := [2]) (by decide) MCs.nil) (fun _ _ _ _ _ => (QCls.more (qgn (i := 1) sc_terms_among.nd) (qts_nil (W := WNever)) (QI.k (W := WNever) (qi_seq (q_tup (qa_cons q_bl (qa_cons q_bl qa_nil))))) (fun _ => rfl) (show ∀ i ∈ ([2] : List Nat), i ∈ ([1, 2] : List Nat) from by decide) (QCls.one (qgn (i := 2) sc_terms_among.nd) (qts_nil (W := WNever))))) (fun _ _ _ _ _ => (q_tup (qa_cons (qv 1) (qa_cons (qv 2) qa_nil))))) qa_nil)))
  qss_nil)
theorem ok_is_word_and (fr : Fr mg K) (xs : Xs P w K mg base) (d_is_tuple_of_3 : Def P w K mg base (L2N.CX P w) 1 "is_tuple_of" [] f_is_tuple_of)    (F : FunD K "is_word_and" "is_word_and" (defArgs s_is_word_and) (defBody s_is_word_and) (defScope s_is_word_and) [] [] fa fd) :
    FnOk P w K mg base (L2N.CX P w) 2 fa fd P_is_word_and (spOf P w K mg f_is_word_and) :=
  fn_ok (k := 1) (body := m_is_word_and) F sc_is_word_and fun cdv A outer s H E hr => by
    have hu := hu64 hr
    have c_is_tuple_of_3 : ∀ {X : Cx} {W : WX}, X.prog = P → X.w = w → X.K = K → X.mg = mg → X.base = base → X.A = _ → L2N.Takes X W → Cal X W "is_tuple_of" [] f_is_tuple_of := fun e1 e2 e3 e4 e5 e6 tk => Def.calX d_is_tuple_of_3 (hr.mono (by decide)) tk e1 e2 e3 e4 e5 e6
    exact (qss_cons (qs_ret (q_and (q_fn (c_is_tuple_of_3 rfl rfl rfl rfl rfl rfl takesM) rfl (qa_cons (qv 0) (qa_cons (qv 1) (qa_cons (qv 1) qa_nil)))) (q_and (q_isi (T := "str") rfl fr.isinstance (q_ix (ixd hu) (qv 0) q_int) rfl fr.str (by decide +kernel)) (q_one (q_cmp (opd_in hu) (q_ix (ixd hu) (qv 0) q_int) (q_glob fr.WORDS rfl) (by rfl))))))
  qss_nil)
theorem ok_is_free_sentence (fr : Fr mg K) (xs : Xs P w K mg base) (d_is_free_term_1 : Def P w K mg base (L2N.CX P w) 2 "is_free_term" [] f_is_free_term) (d_is_word_and_2 : Def P w K mg base (L2N.CX P w) 2 "is_word_and" [] f_is_word_and)    (F : FunD K "is_free_sentence" "is_free_sentence" (defArgs s_is_free_sentence) (defBody s_is_free_sentence) (defScope s_is_free_sentence) [] [] fa fd) :
    FnOk P w K mg base (L2N.CX P w) 3 fa fd P_is_free_sentence (spOf P w K mg f_is_free_sentence) :=
  fn_ok (k := 2) (body := m_is_free_sentence) F sc_is_free_sentence fun cdv A outer s H E hr => by
    have hu := hu64 hr
    have c_is_free_term_1 : ∀ {X : Cx} {W : WX}, X.prog = P → X.w = w → X.K = K → X.mg = mg → X.base = base → X.A = _ → L2N.Takes X W → Cal X W "is_free_term" [] f_is_free_term := fun e1 e2 e3 e4 e5 e6 tk => Def.calX d_is_free_term_1 (hr.mono (by decide)) tk e1 e2 e3 e4 e5 e6
    have c_is_word_and_2 : ∀ {X : Cx} {W : WX}, X.prog = P → X.w = w → X.K = K → X.mg = mg → X.base = base → X.A = _ → L2N.Takes X W → Cal X W "is_word_and" [] f_is_word_and := fun e1 e2 e3 e4 e5 e6 tk => Def.calX d_is_word_and_2 (hr.mono (by decide)) tk e1 e2 e3 e4 e5 e6
    exact (qss_cons (qs_ret (q_and (q_fn (c_is_word_and_2 rfl rfl rfl rfl rfl rfl takesM) rfl (qa_cons (qv 0) (qa_cons q_int qa_nil))) (q_and (q_fn (c_is_free_term_1 rfl rfl rfl rfl rfl rfl takesM) rfl (qa_cons (q_ix (ixd hu) (qv 0) q_int) qa_nil)) (q_one (q_fn (c_is_free_term_1 rfl rfl rfl rfl rfl rfl takesM) rfl (qa_cons (q_ix (ixd hu) (qv 0) q_int) qa_nil))))))
  qss_nil)
theorem ok_is_sentence_over (fr : Fr mg K) (xs : Xs P w K mg base) (d_is_term_over_2 : Def P w K mg base (L2N.CX P w) 2 "is_term_over" [] f_is_term_over) (d_is_word_and_2 : Def P w K mg base (L2N.CX P w) 2 "is_word_and" [] f_is_word_and)    (F : FunD K "is_sentence_over" "is_sentence_over" (defArgs s_is_sentence_over) (defBody s_is_sentence_over) (defScope s_is_sentence_over) [] [] fa fd) :
    FnOk P w K mg base (L2N.CX P w) 3 fa fd P_is_sentence_over (spOf P w K mg f_is_sentence_over) :=
  fn_ok (k := 2) (body := m_is_sentence_over) F sc_is_sentence_over fun cdv A outer s H E hr => by
    have hu := hu64 hr
    have c_is_term_over_2 : ∀ {X : Cx} {W : WX}, X.prog = P → X.w = w → X.K = K → X.mg = mg → X.base = base → X.A = _ → L2N.Takes X W → Cal X W "is_term_over" [] f_is_term_over := fun e1 e2 e3 e4 e5 e6 tk => Def.calX d_is_term_over_2 (hr.mono (by decide)) tk e1 e2 e3 e4 e5 e6
    have c_is_word_and_2 : ∀ {X : Cx} {W : WX}, X.prog = P → X.w = w → X.K = K → X.mg = mg → X.base = base → X.A = _ → L2N.Takes X W → Cal X W "is_word_and" [] f_is_word_and := fun e1 e2 e3 e4 e5 e6 tk => Def.calX d_is_word_and_2 (hr.mono (by decide)) tk e1 e2 e3 e4 e5 e6
    exact (qss_cons (qs_ret (q_and (q_fn (c_is_word_and_2 rfl rfl rfl rfl rfl rfl takesM) rfl (qa_cons (qv 1) (qa_cons q_int qa_nil))) (q_and (q_fn (c_is_term_over_2 rfl rfl rfl rfl rfl rfl takesM) rfl (qa_cons (qv 0) (qa_cons (q_ix (ixd hu) (qv 1) q_int) qa_nil))) (q_one (q_fn (c_is_term_over_2 rfl rfl rfl rfl rfl rfl takesM) rfl (qa_cons (qv 0) (qa_cons (q_ix (ixd hu) (qv 1) q_int) qa_nil)))))))
  qss_nil)
theorem ok_is_question_over (fr : Fr mg K) (xs : Xs P w K mg base) (d_is_sentence_over_2 : Def P w K mg base (L2N.CX P w) 3 "is_sentence_over" [] f_is_sentence_over) (d_is_tuple_of_3 : Def P w K mg base (L2N.CX P w) 1 "is_tuple_of" [] f_is_tuple_of)    (F : FunD K "is_question_over" "is_question_over" (defArgs s_is_question_over) (defBody s_is_question_over) (defScope s_is_question_over) [] [] fa fd) :
    FnOk P w K mg base (L2N.CX P w) 4 fa fd P_is_question_over (spOf P w K mg f_is_question_over) :=
  fn_ok (k := 3) (body := m_is_question_over) F sc_is_question_over fun cdv A outer s H E hr => by
    have hu := hu64 hr
    have c_is_sentence_over_2 : ∀ {X : Cx} {W : WX}, X.prog = P → X.w = w → X.K = K → X.mg = mg → X.base = base → X.A = _ → L2N.Takes X W → Cal X W "is_sentence_over" [] f_is_sentence_over := fun e1 e2 e3 e4 e5 e6 tk => Def.calX d_is_sentence_over_2 (hr.mono (by decide)) tk e1 e2 e3 e4 e5 e6
    have c_is_tuple_of_3 : ∀ {X : Cx} {W : WX}, X.prog = P → X.w = w → X.K = K → X.mg = mg → X.base = base → X.A = _ → L2N.Takes X W → Cal X W "is_tuple_of" [] f_is_tuple_of := fun e1 e2 e3 e4 e5 e6 tk => Def.calX d_is_tuple_of_3 (hr.mono (by decide)) tk e1 e2 e3 e4 e5 e6
    exact (qss_cons (qs_if (qt_val (q_fn (c_is_sentence_over_2 rfl rfl rfl rfl rfl rfl takesM) rfl (qa_cons (qv 0) (qa_cons (qv 1) qa_nil)))) (qss_cons (qs_ret q_bl)
  qss_nil) qss_nil)
  (qss_cons (qs_ret (q_and (q_fn (c_is_tuple_of_3 rfl rfl rfl rfl rfl rfl takesM) rfl (qa_cons (qv 1) (qa_cons q_int (qa_cons (q_glob fr.MOST_PARTS rfl) qa_nil)))) (q_one (q_bltn (cd_all rfl) rfl fr.all (by decide +kernel) (qa_cons (q_lc (own := [("one", 2)]) rfl sc_is_question_over.nd (qi_seq (qv 1)) (blkOk_by (own := [("one", 2)]) (N := N_is_question_over) (sc := defScope s_is_question_over) (by decide +kernel)) (fun _ _ _ _ _ => (qgn (i := 2) sc_is_question_over.nd)) (fun _ _ _ _ _ => qts_nil) (fun _ _ _ _ _ => (q_fn (c_is_sentence_over_2 rfl rfl rfl rfl rfl rfl takesN) rfl (qa_cons (qv 0) (qa_cons (qv 2) qa_nil))))) qa_nil)))))
  qss_nil))
theorem ok_check_question (fr : Fr mg K) (xs : Xs P w K mg base) (d_is_question_over_2 : Def P w K mg base (L2N.CX P w) 4 "is_question_over" [] f_is_question_over)    (F : FunD K "check_question" "check_question" (defArgs s_check_question) (defBody s_check_question) (defScope s_check_question) [.str "question"] [] fa fd) :
    FnOk P w K mg base (L2N.CX P w) 5 fa fd P_check_question (spOf P w K mg f_check_question) :=
  fn_ok (k := 4) (body := m_check_question) F sc_check_question fun cdv A outer s H E hr => by
    have hu := hu64 hr
    have c_is_question_over_2 : ∀ {X : Cx} {W : WX}, X.prog = P → X.w = w → X.K = K → X.mg = mg → X.base = base → X.A = _ → L2N.Takes X W → Cal X W "is_question_over" [] f_is_question_over := fun e1 e2 e3 e4 e5 e6 tk => Def.calX d_is_question_over_2 (hr.mono (by decide)) tk e1 e2 e3 e4 e5 e6
    exact (qss_cons (qs_if (qt_not (qt_val (q_fn (c_is_question_over_2 rfl rfl rfl rfl rfl rfl takesM) rfl (qa_cons (qv 0) (qa_cons (qv 1) qa_nil))))) (qss_cons (qs_raise rfl takesM xs.c_BadValue (hr.mono (by decide)) (qa_cons (qv 2) qa_nil))
  qss_nil) qss_nil)
  qss_nil)
theorem ok_contrary_of (fr : Fr mg K) (xs : Xs P w K mg base) (d_flip_1 : Def P w K mg base (L2N.CX P w) 1 "flip" [] f_flip)    (F : FunD K "contrary_of" "contrary_of" (defArgs s_contrary_of) (defBody s_contrary_of) (defScope s_contrary_of) [] [] fa fd) :
    FnOk P w K mg base (L2N.CX P w) 2 fa fd P_contrary_of (spOf P w K mg f_contrary_of) :=
  fn_ok (k := 1) (body := m_contrary_of) F sc_contrary_of fun cdv A outer s H E hr => by
    have hu := hu64 hr
    have c_flip_1 : ∀ {X : Cx} {W : WX}, X.prog = P → X.w = w → X.K = K → X.mg = mg → X.base = base → X.A = _ → L2N.Takes X W → Cal X W "flip" [] f_flip := fun e1 e2 e3 e4 e5 e6 tk => Def.calX d_flip_1 (hr.mono (by decide)) tk e1 e2 e3 e4 e5 e6
    exact (qss_cons (qs_asg (qv 0) (qg_tup rfl (qgs_cons (qgn (i := 1) sc_contrary_of.nd) (qgs_cons (qgn (i := 2) sc_contrary_of.nd) (qgs_cons (qgn (i := 3) sc_contrary_of.nd) qgs_nil)))))
  (qss_cons (qs_if (qt_cmp (opd_eq hu) (qv 1) q_str (by rfl)) (qss_cons (qs_ret (q_tup (qa_cons q_str (qa_cons (qv 2) (qa_cons (q_fn (c_flip_1 rfl rfl rfl rfl rfl rfl takesM) rfl (qa_cons (qv 3) qa_nil)) qa_nil)))))
  qss_nil) qss_nil)
  (qss_cons (qs_if (qt_cmp (opd_eq hu) (qv 1) q_str (by rfl)) (qss_cons (qs_ret (q_tup (qa_cons q_str (qa_cons (qv 2) (qa_cons (q_fn (c_flip_1 rfl rfl rfl rfl rfl rfl takesM) rfl (qa_cons (qv 3) qa_nil)) qa_nil)))))
  qss_nil) qss_nil)
  (qss_cons (qs_ret (q_tup (qa_cons (q_if (qt_cmp (opd_eq hu) (qv 1) q_str (by rfl)) q_str q_str) (qa_cons (qv 3) (qa_cons (qv 2) qa_nil)))))
  qss_nil))))
theorem ok_mirror_of (fr : Fr mg K) (xs : Xs P w K mg base) (d_flip_1 : Def P w K mg base (L2N.CX P w) 1 "flip" [] f_flip)    (F : FunD K "mirror_of" "mirror_of" (defArgs s_mirror_of) (defBody s_mirror_of) (defScope s_mirror_of) [] [] fa fd) :
    FnOk P w K mg base (L2N.CX P w) 2 fa fd P_mirror_of (spOf P w K mg f_mirror_of) :=
  fn_ok (k := 1) (body := m_mirror_of) F sc_mirror_of fun cdv A outer s H E hr => by
    have hu := hu64 hr
    have c_flip_1 : ∀ {X : Cx} {W : WX}, X.prog = P → X.w = w → X.K = K → X.mg = mg → X.base = base → X.A = _ → L2N.Takes X W → Cal X W "flip" [] f_flip := fun e1 e2 e3 e4 e5 e6 tk => Def.calX d_flip_1 (hr.mono (by decide)) tk e1 e2 e3 e4 e5 e6
    exact (qss_cons (qs_asg (qv 0) (qg_tup rfl (qgs_cons (qgn (i := 1) sc_mirror_of.nd) (qgs_cons (qgn (i := 2) sc_mirror_of.nd) (qgs_cons (qgn (i := 3) sc_mirror_of.nd) qgs_nil)))))
  (qss_cons (qs_ret (q_if (qt_cmp (opd_eq hu) (qv 1) q_str (by rfl)) (q_tup (qa_cons (qv 1) (qa_cons (qv 3) (qa_cons (qv 2) qa_nil)))) (q_tup (qa_cons (qv 1) (qa_cons (q_fn (c_flip_1 rfl rfl rfl rfl rfl rfl takesM) rfl (qa_cons (qv 3) qa_nil)) (qa_cons (q_fn (c_flip_1 rfl rfl rfl rfl rfl rfl takesM) rfl (qa_cons (qv 2) qa_nil)) qa_nil))))))
  qss_nil))
theorem ok_plain_of (fr : Fr mg K) (xs : Xs P w K mg base) (d_mirror_of_1 : Def P w K mg base (L2N.CX P w) 2 "mirror_of" [] f_mirror_of)    (F : FunD K "plain_of" "plain_of" (defArgs s_plain_of) (defBody s_plain_of) (defScope s_plain_of) [] [] fa fd) :
    FnOk P w K mg base (L2N.CX P w) 3 fa fd P_plain_of (spOf P w K mg f_plain_of) :=
  fn_ok (k := 2) (body := m_plain_of) F sc_plain_of fun cdv A outer s H E hr => by
    have hu := hu64 hr
    have c_mirror_of_1 : ∀ {X : Cx} {W : WX}, X.prog = P → X.w = w → X.K = K → X.mg = mg → X.base = base → X.A = _ → L2N.Takes X W → Cal X W "mirror_of" [] f_mirror_of := fun e1 e2 e3 e4 e5 e6 tk => Def.calX d_mirror_of_1 (hr.mono (by decide)) tk e1 e2 e3 e4 e5 e6
    exact (qss_cons (qs_ret (q_bltn (cd_min2 rfl hu) rfl fr.min (by decide +kernel) (qa_cons (qv 0) (qa_cons (q_fn (c_mirror_of_1 rfl rfl rfl rfl rfl rfl takesM) rfl (qa_cons (qv 0) qa_nil)) qa_nil))))
  qss_nil)
theorem ok_check_free (fr : Fr mg K) (xs : Xs P w K mg base) (d_is_free_sentence_1 : Def P w K mg base (L2N.CX P w) 3 "is_free_sentence" [] f_is_free_sentence)    (F : FunD K "check_free" "check_free" (defArgs s_check_free) (defBody s_check_free) (defScope s_check_free) [] [] fa fd) :
    FnOk P w K mg base (L2N.CX P w) 4 fa fd P_check_free (spOf P w K mg f_check_free) :=
  fn_ok (k := 3) (body := m_check_free) F sc_check_free fun cdv A outer s H E hr => by
    have hu := hu64 hr
    have c_is_free_sentence_1 : ∀ {X : Cx} {W : WX}, X.prog = P → X.w = w → X.K = K → X.mg = mg → X.base = base → X.A = _ → L2N.Takes X W → Cal X W "is_free_sentence" [] f_is_free_sentence := fun e1 e2 e3 e4 e5 e6 tk => Def.calX d_is_free_sentence_1 (hr.mono (by decide)) tk e1 e2 e3 e4 e5 e6
    exact (qss_cons (qs_if (qt_not (qt_val (q_fn (c_is_free_sentence_1 rfl rfl rfl rfl rfl rfl takesM) rfl (qa_cons (qv 0) qa_nil)))) (qss_cons (qs_raise rfl takesM xs.c_BadValue (hr.mono (by decide)) (qa_cons q_str qa_nil))
  qss_nil) qss_nil)
  qss_nil)
theorem ok_contrary (fr : Fr mg K) (xs : Xs P w K mg base) (d_check_free_1 : Def P w K mg base (L2N.CX P w) 4 "check_free" [] f_check_free) (d_contrary_of_1 : Def P w K mg base (L2N.CX P w) 2 "contrary_of" [] f_contrary_of)    (F : FunD K "contrary" "contrary" (defArgs s_contrary) (defBody s_contrary) (defScope s_contrary) [] [] fa fd) :
    FnOk P w K mg base (L2N.CX P w) 5 fa fd P_contrary (spOf P w K mg f_contrary) :=
  fn_ok (k := 4) (body := m_contrary) F sc_contrary fun cdv A outer s H E hr => by
    have hu := hu64 hr
    have c_check_free_1 : ∀ {X : Cx} {W : WX}, X.prog = P → X.w = w → X.K = K → X.mg = mg → X.base = base → X.A = _ → L2N.Takes X W → Cal X W "check_free" [] f_check_free := fun e1 e2 e3 e4 e5 e6 tk => Def.calX d_check_free_1 (hr.mono (by decide)) tk e1 e2 e3 e4 e5 e6
    have c_contrary_of_1 : ∀ {X : Cx} {W : WX}, X.prog = P → X.w = w → X.K = K → X.mg = mg → X.base = base → X.A = _ → L2N.Takes X W → Cal X W "contrary_of" [] f_contrary_of := fun e1 e2 e3 e4 e5 e6 tk => Def.calX d_contrary_of_1 (hr.mono (by decide)) tk e1 e2 e3 e4 e5 e6
    exact (qss_cons (qs_expr (q_fn (c_check_free_1 rfl rfl rfl rfl rfl rfl takesM) rfl (qa_cons (qv 0) qa_nil)))
  (qss_cons (qs_ret (q_fn (c_contrary_of_1 rfl rfl rfl rfl rfl rfl takesM) rfl (qa_cons (qv 0) qa_nil)))
  qss_nil))
theorem ok_mirror (fr : Fr mg K) (xs : Xs P w K mg base) (d_check_free_1 : Def P w K mg base (L2N.CX P w) 4 "check_free" [] f_check_free) (d_mirror_of_1 : Def P w K mg base (L2N.CX P w) 2 "mirror_of" [] f_mirror_of)    (F : FunD K "mirror" "mirror" (defArgs s_mirror) (defBody s_mirror) (defScope s_mirror) [] [] fa fd) :
    FnOk P w K mg base (L2N.CX P w) 5 fa fd P_mirror (spOf P w K mg f_mirror) :=
  fn_ok (k := 4) (body := m_mirror) F sc_mirror fun cdv A outer s H E hr => by
    have hu := hu64 hr
    have c_check_free_1 : ∀ {X : Cx} {W : WX}, X.prog = P → X.w = w → X.K = K → X.mg = mg → X.base = base → X.A = _ → L2N.Takes X W → Cal X W "check_free" [] f_check_free := fun e1 e2 e3 e4 e5 e6 tk => Def.calX d_check_free_1 (hr.mono (by decide)) tk e1 e2 e3 e4 e5 e6
    have c_mirror_of_1 : ∀ {X : Cx} {W : WX}, X.prog = P → X.w = w → X.K = K → X.mg = mg → X.base = base → X.A = _ → L2N.Takes X W → Cal X W "mirror_of" [] f_mirror_of := fun e1 e2 e3 e4 e5 e6 tk => Def.calX d_mirror_of_1 (hr.mono (by decide)) tk e1 e2 e3 e4 e5 e6
    exact (qss_cons (qs_expr (q_fn (c_check_free_1 rfl rfl rfl rfl rfl rfl takesM) rfl (qa_cons (qv 0) qa_nil)))
  (qss_cons (qs_ret (q_fn (c_mirror_of_1 rfl rfl rfl rfl rfl rfl takesM) rfl (qa_cons (qv 0) qa_nil)))
  qss_nil))
theorem ok_plain (fr : Fr mg K) (xs : Xs P w K mg base) (d_check_free_1 : Def P w K mg base (L2N.CX P w) 4 "check_free" [] f_check_free) (d_plain_of_1 : Def P w K mg base (L2N.CX P w) 3 "plain_of" [] f_plain_of)    (F : FunD K "plain" "plain" (defArgs s_plain) (defBody s_plain) (defScope s_plain) [] [] fa fd) :
    FnOk P w K mg base (L2N.CX P w) 5 fa fd P_plain (spOf P w K mg f_plain) :=
  fn_ok (k := 4) (body := m_plain) F sc_plain fun cdv A outer s H E hr => by
    have hu := hu64 hr
    have c_check_free_1 : ∀ {X : Cx} {W : WX}, X.prog = P → X.w = w → X.K = K → X.mg = mg → X.base = base → X.A = _ → L2N.Takes X W → Cal X W "check_free" [] f_check_free := fun e1 e2 e3 e4 e5 e6 tk => Def.calX d_check_free_1 (hr.mono (by decide)) tk e1 e2 e3 e4 e5 e6
    have c_plain_of_1 : ∀ {X : Cx} {W : WX}, X.prog = P → X.w = w → X.K = K → X.mg = mg → X.base = base → X.A = _ → L2N.Takes X W → Cal X W "plain_of" [] f_plain_of := fun e1 e2 e3 e4 e5 e6 tk => Def.calX d_plain_of_1 (hr.mono (by decide)) tk e1 e2 e3 e4 e5 e6
    exact (qss_cons (qs_expr (q_fn (c_check_free_1 rfl rfl rfl rfl rfl rfl takesM) rfl (qa_cons (qv 0) qa_nil)))
  (qss_cons (qs_ret (q_fn (c_plain_of_1 rfl rfl rfl rfl rfl rfl takesM) rfl (qa_cons (qv 0) qa_nil)))
  qss_nil))
theorem ok_always_holds (fr : Fr mg K) (xs : Xs P w K mg base)     (F : FunD K "always_holds" "always_holds" (defArgs s_always_holds) (defBody s_always_holds) (defScope s_always_holds) [] [] fa fd) :
    FnOk P w K mg base (L2N.CX P w) 1 fa fd P_always_holds (spOf P w K mg f_always_holds) :=
  fn_ok (k := 0) (body := m_always_holds) F sc_always_holds fun cdv A outer s H E hr => by
    have hu := hu64 hr
    exact (qss_cons (qs_ret (q_and (q_cmp (opd_eq hu) (q_ix (ixd hu) (qv 0) q_int) (q_ix (ixd hu) (qv 0) q_int) (by rfl)) (q_one (q_or (q_cmp (opd_eq hu) (q_ix (ixd hu) (qv 0) q_int) q_str (by rfl)) (q_one (q_cmp (opd_eq hu) (q_ix (ixd hu) (qv 0) q_int) q_str (by rfl)))))))
  qss_nil)
theorem ok_by_itself (fr : Fr mg K) (xs : Xs P w K mg base) (d_always_holds_1 : Def P w K mg base (L2N.CX P w) 1 "always_holds" [] f_always_holds) (d_check_free_1 : Def P w K mg base (L2N.CX P w) 4 "check_free" [] f_check_free) (d_contrary_of_1 : Def P w K mg base (L2N.CX P w) 2 "contrary_of" [] f_contrary_of)    (F : FunD K "by_itself" "by_itself" (defArgs s_by_itself) (defBody s_by_itself) (defScope s_by_itself) [] [] fa fd) :
    FnOk P w K mg base (L2N.CX P w) 5 fa fd P_by_itself (spOf P w K mg f_by_itself) :=
  fn_ok (k := 4) (body := m_by_itself) F sc_by_itself fun cdv A outer s H E hr => by
    have hu := hu64 hr
    have c_always_holds_1 : ∀ {X : Cx} {W : WX}, X.prog = P → X.w = w → X.K = K → X.mg = mg → X.base = base → X.A = _ → L2N.Takes X W → Cal X W "always_holds" [] f_always_holds := fun e1 e2 e3 e4 e5 e6 tk => Def.calX d_always_holds_1 (hr.mono (by decide)) tk e1 e2 e3 e4 e5 e6
    have c_check_free_1 : ∀ {X : Cx} {W : WX}, X.prog = P → X.w = w → X.K = K → X.mg = mg → X.base = base → X.A = _ → L2N.Takes X W → Cal X W "check_free" [] f_check_free := fun e1 e2 e3 e4 e5 e6 tk => Def.calX d_check_free_1 (hr.mono (by decide)) tk e1 e2 e3 e4 e5 e6
    have c_contrary_of_1 : ∀ {X : Cx} {W : WX}, X.prog = P → X.w = w → X.K = K → X.mg = mg → X.base = base → X.A = _ → L2N.Takes X W → Cal X W "contrary_of" [] f_contrary_of := fun e1 e2 e3 e4 e5 e6 tk => Def.calX d_contrary_of_1 (hr.mono (by decide)) tk e1 e2 e3 e4 e5 e6
    exact (qss_cons (qs_expr (q_fn (c_check_free_1 rfl rfl rfl rfl rfl rfl takesM) rfl (qa_cons (qv 0) qa_nil)))
  (qss_cons (qs_if (qt_val (q_fn (c_always_holds_1 rfl rfl rfl rfl rfl rfl takesM) rfl (qa_cons (qv 0) qa_nil))) (qss_cons (qs_ret q_str)
  qss_nil) qss_nil)
  (qss_cons (qs_ret (q_if (qt_val (q_fn (c_always_holds_1 rfl rfl rfl rfl rfl rfl takesM) rfl (qa_cons (q_fn (c_contrary_of_1 rfl rfl rfl rfl rfl rfl takesM) rfl (qa_cons (qv 0) qa_nil)) qa_nil))) q_str q_str))
  qss_nil)))
theorem ok_plain_sentences_over (fr : Fr mg K) (xs : Xs P w K mg base) (d_mirror_of_1 : Def P w K mg base (L2N.CX P w) 2 "mirror_of" [] f_mirror_of) (d_terms_among_1 : Def P w K mg base (L2N.CX P w) 1 "terms_among" [] f_terms_among)    (F : FunD K "plain_sentences_over" "plain_sentences_over" (defArgs s_plain_sentences_over) (defBody s_plain_sentences_over) (defScope s_plain_sentences_over) [] [] fa fd) :
    FnOk P w K mg base (L2N.CX P w) 3 fa fd P_plain_sentences_over (spOf P w K mg f_plain_sentences_over) :=
  fn_ok (k := 2) (body := m_plain_sentences_over) F sc_plain_sentences_over fun cdv A outer s H E hr => by
    have hu := hu64 hr
    have c_mirror_of_1 : ∀ {X : Cx} {W : WX}, X.prog = P → X.w = w → X.K = K → X.mg = mg → X.base = base → X.A = _ → L2N.Takes X W → Cal X W "mirror_of" [] f_mirror_of := fun e1 e2 e3 e4 e5 e6 tk => Def.calX d_mirror_of_1 (hr.mono (by decide)) tk e1 e2 e3 e4 e5 e6
    have c_terms_among_1 : ∀ {X : Cx} {W : WX}, X.prog = P → X.w = w → X.K = K → X.mg = mg → X.base = base → X.A = _ → L2N.Takes X W → Cal X W "terms_among" [] f_terms_among := fun e1 e2 e3 e4 e5 e6 tk => Def.calX d_terms_among_1 (hr.mono (by decide)) tk e1 e2 e3 e4 e5 e6
    exact (qss_cons (qsn (i := 1) sc_plain_sentences_over.nd (q_fn (c_terms_among_1 rfl rfl rfl rfl rfl rfl takesM) rfl (qa_cons (qv 0) qa_nil)))
  (qss_cons (qs_setLcN (own := [("word", 3), ("a", 4), ("b", 5)]) (is := [3]) (i := 2) rfl sc_plain_sentences_over.nd rfl rfl (sw_true rfl rfl rfl (by decide +kernel)) (qi_seq (q_glob fr.WORDS rfl)) (blkOk_by (own := [("word", 3), ("a", 4), ("b", 5)]) (N := N_plain_sentences_over) (sc := defScope s_plain_sentences_over) (by decide +kernel)) rfl (by decide) (MCs.cons (is := [4]) (by decide) (MCs.cons (is := [5]) (by decide) MCs.nil)) (fun _ _ _ _ _ => (QCls.more (qgn (i := 3) sc_plain_sentences_over.nd) (qts_nil (W := WNever)) (QI.k (W := WNever) (qi_seq (qv 1))) (fun _ => rfl) (show ∀ i ∈ ([4, 5] : List Nat), i ∈ ([3, 4, 5] : List Nat) from by decide) (QCls.more (qgn (i := 4) sc_plain_sentences_over.nd) (qts_nil (W := WNever)) (QI.k (W := WNever) (qi_seq (qv 1))) (fun _ => rfl) (show ∀ i ∈ ([5] : List Nat), i ∈ ([4, 5] : List Nat) from by decide) (QCls.one (qgn (i := 5) sc_plain_sentences_over.nd) (qts_nil (W := WNever)))))) (fun _ _ _ _ _ => (q_tup (qa_cons (qv 3) (qa_cons (qv 4) (qa_cons (qv 5) qa_nil))))))
  (qss_cons (qs_ret (q_lc (own := [("sentence", 6)]) rfl sc_plain_sentences_over.nd (qi_seq (qv 2)) (blkOk_by (own := [("sentence", 6)]) (N := N_plain_sentences_over) (sc := defScope s_plain_sentences_over) (by decide +kernel)) (fun _ _ _ _ _ => (qgn (i := 6) sc_plain_sentences_over.nd)) (fun _ _ _ _ _ => (qts_one (qt_cmp (opd_le hu) (qv 6) (q_fn (c_mirror_of_1 rfl rfl rfl rfl rfl rfl takesN) rfl (qa_cons (qv 6) qa_nil)) (by rfl)))) (fun _ _ _ _ _ => (qv 6))))
  qss_nil)))
theorem ok_plain_sentences (fr : Fr mg K) (xs : Xs P w K mg base) (d_check_kinds_1 : Def P w K mg base (L2N.CX P w) 4 "check_kinds" [.str "kinds"] f_check_kinds) (d_plain_sentences_over_1 : Def P w K mg base (L2N.CX P w) 3 "plain_sentences_over" [] f_plain_sentences_over)    (F : FunD K "plain_sentences" "plain_sentences" (defArgs s_plain_sentences) (defBody s_plain_sentences) (defScope s_plain_sentences) [] [] fa fd) :
    FnOk P w K mg base (L2N.CX P w) 5 fa fd P_plain_sentences (spOf P w K mg f_plain_sentences) :=
  fn_ok (k := 4) (body := m_plain_sentences) F sc_plain_sentences fun cdv A outer s H E hr => by
    have hu := hu64 hr
    have c_check_kinds_1 : ∀ {X : Cx} {W : WX}, X.prog = P → X.w = w → X.K = K → X.mg = mg → X.base = base → X.A = _ → L2N.Takes X W → Cal X W "check_kinds" [.str "kinds"] f_check_kinds := fun e1 e2 e3 e4 e5 e6 tk => Def.calX d_check_kinds_1 (hr.mono (by decide)) tk e1 e2 e3 e4 e5 e6
    have c_plain_sentences_over_1 : ∀ {X : Cx} {W : WX}, X.prog = P → X.w = w → X.K = K → X.mg = mg → X.base = base → X.A = _ → L2N.Takes X W → Cal X W "plain_sentences_over" [] f_plain_sentences_over := fun e1 e2 e3 e4 e5 e6 tk => Def.calX d_plain_sentences_over_1 (hr.mono (by decide)) tk e1 e2 e3 e4 e5 e6
    exact (qss_cons (qs_expr (q_fn (c_check_kinds_1 rfl rfl rfl rfl rfl rfl takesM) rfl (qa_cons (qv 0) qa_nil)))
  (qss_cons (qs_ret (q_btyp cd_tuple rfl fr.tuple (by decide +kernel) (qa_cons (q_fn (c_plain_sentences_over_1 rfl rfl rfl rfl rfl rfl takesM) rfl (qa_cons (qv 0) qa_nil)) qa_nil)))
  qss_nil))
theorem ok_parts_of (fr : Fr mg K) (xs : Xs P w K mg base)     (F : FunD K "parts_of" "parts_of" (defArgs s_parts_of) (defBody s_parts_of) (defScope s_parts_of) [] [] fa fd) :
    FnOk P w K mg base (L2N.CX P w) 1 fa fd P_parts_of (spOf P w K mg f_parts_of) :=
  fn_ok (k := 0) (body := m_parts_of) F sc_parts_of fun cdv A outer s H E hr => by
    have hu := hu64 hr
    exact (qss_cons (qs_ret (q_if (qt_val (q_isi (T := "str") rfl fr.isinstance (q_ix (ixd hu) (qv 0) q_int) rfl fr.str (by decide +kernel))) (q_tup (qa_cons (qv 0) qa_nil)) (qv 0)))
  qss_nil)
theorem ok_is_sort_over (fr : Fr mg K) (xs : Xs P w K mg base) (d_is_from_to_3 : Def P w K mg base (L2N.CX P w) 2 "is_from_to" [] f_is_from_to) (d_is_tuple_of_3 : Def P w K mg base (L2N.CX P w) 1 "is_tuple_of" [] f_is_tuple_of)    (F : FunD K "is_sort_over" "is_sort_over" (defArgs s_is_sort_over) (defBody s_is_sort_over) (defScope s_is_sort_over) [] [] fa fd) :
    FnOk P w K mg base (L2N.CX P w) 3 fa fd P_is_sort_over (spOf P w K mg f_is_sort_over) :=
  fn_ok (k := 2) (body := m_is_sort_over) F sc_is_sort_over fun cdv A outer s H E hr => by
    have hu := hu64 hr
    have c_is_from_to_3 : ∀ {X : Cx} {W : WX}, X.prog = P → X.w = w → X.K = K → X.mg = mg → X.base = base → X.A = _ → L2N.Takes X W → Cal X W "is_from_to" [] f_is_from_to := fun e1 e2 e3 e4 e5 e6 tk => Def.calX d_is_from_to_3 (hr.mono (by decide)) tk e1 e2 e3 e4 e5 e6
    have c_is_tuple_of_3 : ∀ {X : Cx} {W : WX}, X.prog = P → X.w = w → X.K = K → X.mg = mg → X.base = base → X.A = _ → L2N.Takes X W → Cal X W "is_tuple_of" [] f_is_tuple_of := fun e1 e2 e3 e4 e5 e6 tk => Def.calX d_is_tuple_of_3 (hr.mono (by decide)) tk e1 e2 e3 e4 e5 e6
    exact (qss_cons (qs_if (QW.qt (qw_or (qt_not (qt_val (q_fn (c_is_tuple_of_3 rfl rfl rfl rfl rfl rfl takesM) rfl (qa_cons (qv 1) (qa_cons q_int (qa_cons q_int qa_nil)))))) (qw_or1 (qt_not (qt_val (q_fn (c_is_tuple_of_3 rfl rfl rfl rfl rfl rfl takesM) rfl (qa_cons (q_ix (ixd hu) (qv 1) q_int) (qa_cons q_int (qa_cons (q_bltn cd_len rfl fr.len (by decide +kernel) (qa_cons (qv 0) qa_nil)) qa_nil))))))))) (qss_cons (qs_ret q_bl)
  qss_nil) qss_nil)
  (qss_cons (qs_if (qt_not (qt_val (q_fn (c_is_from_to_3 rfl rfl rfl rfl rfl rfl takesM) rfl (qa_cons (q_ix (ixd hu) (qv 1) q_int) (qa_cons q_int (qa_cons (q_glob fr.MOST_NUMBER rfl) qa_nil)))))) (qss_cons (qs_ret q_bl)
  qss_nil) qss_nil)
  (qss_cons (qsn (i := 2) sc_is_sort_over.nd (q_ix (ixd hu) (qv 1) q_int))
  (qss_cons (qs_if (qt_not (qt_val (q_bltn (cd_all rfl) rfl fr.all (by decide +kernel) (qa_cons (q_lc (own := [("one", 4)]) rfl sc_is_sort_over.nd (qi_seq (qv 2)) (blkOk_by (own := [("one", 4)]) (N := N_is_sort_over) (sc := defScope s_is_sort_over) (by decide +kernel)) (fun _ _ _ _ _ => (qgn (i := 4) sc_is_sort_over.nd)) (fun _ _ _ _ _ => qts_nil) (fun _ _ _ _ _ => (q_and (q_isi (T := "str") rfl fr.isinstance (qv 4) rfl fr.str (by decide +kernel)) (q_one (q_cmp (opd_in hu) (qv 4) (qv 0) (by rfl)))))) qa_nil)))) (qss_cons (qs_ret q_bl)
  qss_nil) qss_nil)
  (qss_cons (qs_ret (q_bltn (cd_all rfl) rfl fr.all (by decide +kernel) (qa_cons (q_lc (own := [("at", 3)]) rfl sc_is_sort_over.nd (qi_range1 rfl fr.range (q_op opd_sub (q_bltn cd_len rfl fr.len (by decide +kernel) (qa_cons (qv 2) qa_nil)) q_int)) (blkOk_by (own := [("at", 3)]) (N := N_is_sort_over) (sc := defScope s_is_sort_over) (by decide +kernel)) (fun _ _ _ _ _ => (qgn (i := 3) sc_is_sort_over.nd)) (fun _ _ _ _ _ => qts_nil) (fun _ _ _ _ _ => (q_cmp (opd_lt hu) (q_ix (ixd hu) (qv 2) (qv 3)) (q_ix (ixd hu) (qv 2) (q_op opd_plus (qv 3) q_int)) (by rfl)))) qa_nil)))
  qss_nil)))))
theorem ok_is_world_over (fr : Fr mg K) (xs : Xs P w K mg base) (d_is_sort_over_2 : Def P w K mg base (L2N.CX P w) 3 "is_sort_over" [] f_is_sort_over) (d_is_tuple_of_3 : Def P w K mg base (L2N.CX P w) 1 "is_tuple_of" [] f_is_tuple_of)    (F : FunD K "is_world_over" "is_world_over" (defArgs s_is_world_over) (defBody s_is_world_over) (defScope s_is_world_over) [] [] fa fd) :
    FnOk P w K mg base (L2N.CX P w) 4 fa fd P_is_world_over (spOf P w K mg f_is_world_over) :=
  fn_ok (k := 3) (body := m_is_world_over) F sc_is_world_over fun cdv A outer s H E hr => by
    have hu := hu64 hr
    have c_is_sort_over_2 : ∀ {X : Cx} {W : WX}, X.prog = P → X.w = w → X.K = K → X.mg = mg → X.base = base → X.A = _ → L2N.Takes X W → Cal X W "is_sort_over" [] f_is_sort_over := fun e1 e2 e3 e4 e5 e6 tk => Def.calX d_is_sort_over_2 (hr.mono (by decide)) tk e1 e2 e3 e4 e5 e6
    have c_is_tuple_of_3 : ∀ {X : Cx} {W : WX}, X.prog = P → X.w = w → X.K = K → X.mg = mg → X.base = base → X.A = _ → L2N.Takes X W → Cal X W "is_tuple_of" [] f_is_tuple_of := fun e1 e2 e3 e4 e5 e6 tk => Def.calX d_is_tuple_of_3 (hr.mono (by decide)) tk e1 e2 e3 e4 e5 e6
    exact (qss_cons (qsn (i := 2) sc_is_world_over.nd (q_dc (own := [("kind", 3)]) rfl sc_is_world_over.nd (qi_seq (qv 0)) (blkOk_by (own := [("kind", 3)]) (N := N_is_world_over) (sc := defScope s_is_world_over) (by decide +kernel)) (fun _ _ _ _ _ => (qgn (i := 3) sc_is_world_over.nd)) (fun _ _ _ _ _ => qts_nil) (fun _ _ _ _ _ => (qv 3)) (fun _ _ _ _ _ => q_bl)))
  (qss_cons (qs_if (QW.qt (qw_or (qt_not (qt_val (q_fn (c_is_tuple_of_3 rfl rfl rfl rfl rfl rfl takesM) rfl (qa_cons (qv 1) (qa_cons q_int (qa_cons (q_glob fr.MOST_SORTS rfl) qa_nil)))))) (qw_or1 (qt_not (qt_val (q_bltn (cd_all rfl) rfl fr.all (by decide +kernel) (qa_cons (q_lc (own := [("sort", 5)]) rfl sc_is_world_over.nd (qi_seq (qv 1)) (blkOk_by (own := [("sort", 5)]) (N := N_is_world_over) (sc := defScope s_is_world_over) (by decide +kernel)) (fun _ _ _ _ _ => (qgn (i := 5) sc_is_world_over.nd)) (fun _ _ _ _ _ => qts_nil) (fun _ _ _ _ _ => (q_fn (c_is_sort_over_2 rfl rfl rfl rfl rfl rfl takesN) rfl (qa_cons (qv 2) (qa_cons (qv 5) qa_nil))))) qa_nil))))))) (qss_cons (qs_ret q_bl)
  qss_nil) qss_nil)
  (qss_cons (qs_ret (q_bltn (cd_all rfl) rfl fr.all (by decide +kernel) (qa_cons (q_lc (own := [("at", 4)]) rfl sc_is_world_over.nd (qi_range1 rfl fr.range (q_op opd_sub (q_bltn cd_len rfl fr.len (by decide +kernel) (qa_cons (qv 1) qa_nil)) q_int)) (blkOk_by (own := [("at", 4)]) (N := N_is_world_over) (sc := defScope s_is_world_over) (by decide +kernel)) (fun _ _ _ _ _ => (qgn (i := 4) sc_is_world_over.nd)) (fun _ _ _ _ _ => qts_nil) (fun _ _ _ _ _ => (q_cmp (opd_lt hu) (q_ix (ixd hu) (q_ix (ixd hu) (qv 1) (qv 4)) q_int) (q_ix (ixd hu) (q_ix (ixd hu) (qv 1) (q_op opd_plus (qv 4) q_int)) q_int) (by rfl)))) qa_nil)))
  qss_nil)))
theorem ok_check_world (fr : Fr mg K) (xs : Xs P w K mg base) (d_is_world_over_2 : Def P w K mg base (L2N.CX P w) 4 "is_world_over" [] f_is_world_over)    (F : FunD K "check_world" "check_world" (defArgs s_check_world) (defBody s_check_world) (defScope s_check_world) [.str "world"] [] fa fd) :
    FnOk P w K mg base (L2N.CX P w) 5 fa fd P_check_world (spOf P w K mg f_check_world) :=
  fn_ok (k := 4) (body := m_check_world) F sc_check_world fun cdv A outer s H E hr => by
    have hu := hu64 hr
    have c_is_world_over_2 : ∀ {X : Cx} {W : WX}, X.prog = P → X.w = w → X.K = K → X.mg = mg → X.base = base → X.A = _ → L2N.Takes X W → Cal X W "is_world_over" [] f_is_world_over := fun e1 e2 e3 e4 e5 e6 tk => Def.calX d_is_world_over_2 (hr.mono (by decide)) tk e1 e2 e3 e4 e5 e6
    exact (qss_cons (qs_if (qt_not (qt_val (q_fn (c_is_world_over_2 rfl rfl rfl rfl rfl rfl takesM) rfl (qa_cons (qv 0) (qa_cons (qv 1) qa_nil))))) (qss_cons (qs_raise rfl takesM xs.c_BadValue (hr.mono (by decide)) (qa_cons (qv 2) qa_nil))
  qss_nil) qss_nil)
  qss_nil)
theorem ok_Measure__meets (fr : Fr mg K) (xs : Xs P w K mg base)     (F : FunD K "meets" "Measure.meets" (defArgs s_Measure__meets) (defBody s_Measure__meets) (defScope s_Measure__meets) [] [] fa fd) :
    FnOk P w K mg base (L2N.CX P w) 1 fa fd P_Measure__meets (spOf P w K mg f_Measure__meets) :=
  fn_ok (k := 0) (body := m_Measure__meets) F sc_Measure__meets fun cdv A outer s H E hr => by
    have hu := hu64 hr
    exact (qss_cons (qs_ret (q_cmp (opd_ne hu) (q_op opd_band (q_ix (ixd hu) (q_at xs.at_ (qv 0)) (qv 1)) (q_ix (ixd hu) (q_at xs.at_ (qv 0)) (qv 2))) q_int (by rfl)))
  qss_nil)
theorem ok_Measure__keeps (fr : Fr mg K) (xs : Xs P w K mg base) (d_flip_1 : Def P w K mg base (L2N.CX P w) 1 "flip" [] f_flip) (dm_Measure__meets : DefMe P w K mg base (L2N.CX P w) 1 "Measure" "meets" f_Measure__meets)   (F : FunD K "keeps" "Measure.keeps" (defArgs s_Measure__keeps) (defBody s_Measure__keeps) (defScope s_Measure__keeps) [] [] fa fd) :
    FnOk P w K mg base (L2N.CX P w) 2 fa fd P_Measure__keeps (spOf P w K mg f_Measure__keeps) :=
  fn_ok (k := 1) (body := m_Measure__keeps) F sc_Measure__keeps fun cdv A outer s H E hr => by
    have hu := hu64 hr
    have c_flip_1 : ∀ {X : Cx} {W : WX}, X.prog = P → X.w = w → X.K = K → X.mg = mg → X.base = base → X.A = _ → L2N.Takes X W → Cal X W "flip" [] f_flip := fun e1 e2 e3 e4 e5 e6 tk => Def.calX d_flip_1 (hr.mono (by decide)) tk e1 e2 e3 e4 e5 e6
    have cm_Measure__meets : ∀ {X : Cx} {W : WX}, X.prog = P → X.w = w → X.K = K → X.mg = mg → X.base = base → X.A = _ → L2N.Takes X W → CalM X W "Measure" "meets" [] f_Measure__meets := fun e1 e2 e3 e4 e5 e6 tk => DefMe.calX dm_Measure__meets (hr.mono (by decide)) tk e1 e2 e3 e4 e5 e6
    exact (qss_cons (qs_asg (qv 1) (qg_tup rfl (qgs_cons (qgn (i := 2) sc_Measure__keeps.nd) (qgs_cons (qgn (i := 3) sc_Measure__keeps.nd) (qgs_cons (qgn (i := 4) sc_Measure__keeps.nd) qgs_nil)))))
  (qss_cons (qs_if (qt_cmp (opd_eq hu) (qv 2) q_str (by rfl)) (qss_cons (qs_ret (q_not (q_me (cm_Measure__meets rfl rfl rfl rfl rfl rfl takesM) (qv 0) (qa_cons (qv 3) (qa_cons (q_fn (c_flip_1 rfl rfl rfl rfl rfl rfl takesM) rfl (qa_cons (qv 4) qa_nil)) qa_nil)))))
  qss_nil) qss_nil)
  (qss_cons (qs_if (qt_cmp (opd_eq hu) (qv 2) q_str (by rfl)) (qss_cons (qs_ret (q_me (cm_Measure__meets rfl rfl rfl rfl rfl rfl takesM) (qv 0) (qa_cons (qv 3) (qa_cons (qv 4) qa_nil))))
  qss_nil) qss_nil)
  (qss_cons (qs_if (qt_cmp (opd_eq hu) (qv 2) q_str (by rfl)) (qss_cons (qs_ret (q_cmp (opd_gt hu) (q_ix (ixd hu) (q_at xs.at_ (qv 0)) (qv 3)) (q_ix (ixd hu) (q_at xs.at_ (qv 0)) (qv 4)) (by rfl)))
  qss_nil) qss_nil)
  (qss_cons (qs_ret (q_cmp (opd_ge hu) (q_ix (ixd hu) (q_at xs.at_ (qv 0)) (qv 3)) (q_ix (ixd hu) (q_at xs.at_ (qv 0)) (qv 4)) (by rfl)))
  qss_nil)))))
theorem ok_Measure__keeps_all (fr : Fr mg K) (xs : Xs P w K mg base)  (dm_Measure__keeps : DefMe P w K mg base (L2N.CX P w) 2 "Measure" "keeps" f_Measure__keeps)   (F : FunD K "keeps_all" "Measure.keeps_all" (defArgs s_Measure__keeps_all) (defBody s_Measure__keeps_all) (defScope s_Measure__keeps_all) [] [] fa fd) :
    FnOk P w K mg base (L2N.CX P w) 3 fa fd P_Measure__keeps_all (spOf P w K mg f_Measure__keeps_all) :=
  fn_ok (k := 2) (body := m_Measure__keeps_all) F sc_Measure__keeps_all fun cdv A outer s H E hr => by
    have hu := hu64 hr
    have cm_Measure__keeps : ∀ {X : Cx} {W : WX}, X.prog = P → X.w = w → X.K = K → X.mg = mg → X.base = base → X.A = _ → L2N.Takes X W → CalM X W "Measure" "keeps" [] f_Measure__keeps := fun e1 e2 e3 e4 e5 e6 tk => DefMe.calX dm_Measure__keeps (hr.mono (by decide)) tk e1 e2 e3 e4 e5 e6
    exact (qss_cons (qs_ret (q_bltn (cd_all rfl) rfl fr.all (by decide +kernel) (qa_cons (q_lc (own := [("sentence", 2)]) rfl sc_Measure__keeps_all.nd (qi_seq (qv 1)) (blkOk_by (own := [("sentence", 2)]) (N := N_Measure__keeps_all) (sc := defScope s_Measure__keeps_all) (by decide +kernel)) (fun _ _ _ _ _ => (qgn (i := 2) sc_Measure__keeps_all.nd)) (fun _ _ _ _ _ => qts_nil) (fun _ _ _ _ _ => (q_me (cm_Measure__keeps rfl rfl rfl rfl rfl rfl takesN) (qv 0) (qa_cons (qv 2) qa_nil)))) qa_nil)))
  qss_nil)
theorem ok_Measure____init__ (fr : Fr mg K) (xs : Xs P w K mg base)     (F : FunD K "__init__" "Measure.__init__" (defArgs s_Measure____init__) (defBody s_Measure____init__) (defScope s_Measure____init__) [] [] fa fd) :
    FnOk P w K mg base (L2N.CX P w) 1 fa fd P_Measure____init__ (spOf P w K mg f_Measure____init__) :=
  fn_ok (k := 0) (body := m_Measure____init__) F sc_Measure____init__ fun cdv A outer s H E hr => by
    have hu := hu64 hr
    exact (qss_cons (qs_att xs.at_ (qv 0) (q_lc (own := [("some", 9), ("number", 10)]) rfl sc_Measure____init__.nd (qi_seq (qv 2)) (blkOk_by (own := [("some", 9), ("number", 10)]) (N := N_Measure____init__) (sc := defScope s_Measure____init__) (by decide +kernel)) (fun _ _ _ _ _ => (qg_tup rfl (qgs_cons (qgn (i := 9) sc_Measure____init__.nd) (qgs_cons (qgn (i := 10) sc_Measure____init__.nd) qgs_nil)))) (fun _ _ _ _ _ => qts_nil) (fun _ _ _ _ _ => (qv 10))))
  (qss_cons (qs_att xs.at_ (qv 0) (q_bltn (cd_sum rfl) rfl fr.sum (by decide +kernel) (qa_cons (q_at xs.at_ (qv 0)) qa_nil)))
  (qss_cons (qsn (i := 3) sc_Measure____init__.nd (q_op opd_sub (q_op opd_shl q_int (q_bltn cd_len rfl fr.len (by decide +kernel) (qa_cons (qv 2) qa_nil))) q_int))
  (qss_cons (qs_setDc (own := [("kind", 6)]) (i := 4) rfl sc_Measure____init__.nd rfl rfl (sw_trueD rfl rfl rfl (by decide +kernel)) (qi_seq (qv 1)) (blkOk_by (own := [("kind", 6)]) (N := N_Measure____init__) (sc := defScope s_Measure____init__) (by decide +kernel)) (fun _ _ _ _ _ => (qgn (i := 6) sc_Measure____init__.nd)) (fun _ _ _ _ _ => qts_nil) (fun _ _ _ _ _ => (qv 6)) (fun _ _ _ _ _ => q_int))
  (qss_cons (qs_setDc (own := [("kind", 6)]) (i := 5) rfl sc_Measure____init__.nd rfl rfl (sw_trueD rfl rfl rfl (by decide +kernel)) (qi_seq (qv 1)) (blkOk_by (own := [("kind", 6)]) (N := N_Measure____init__) (sc := defScope s_Measure____init__) (by decide +kernel)) (fun _ _ _ _ _ => (qgn (i := 6) sc_Measure____init__.nd)) (fun _ _ _ _ _ => qts_nil) (fun _ _ _ _ _ => (qv 6)) (fun _ _ _ _ _ => q_int))
  (qss_cons (qs_for (passes_of rfl) rfl (qi_enum rfl fr.enumerate (qv 2)) (qg_tup rfl (qgs_cons (qgn (i := 7) sc_Measure____init__.nd) (qgs_cons (qgn (i := 8) sc_Measure____init__.nd) qgs_nil))) (qss_cons (qs_for (passes_of rfl) rfl (qi_seq (q_ix (ixd hu) (qv 8) q_int)) (qgn (i := 6) sc_Measure____init__.nd) (qss_cons (qs_asg (q_op opd_bor (q_ix (ixd hu) (qv 4) (qv 6)) (q_op opd_shl q_int (qv 7))) (qg_sub (W := WNever) (setd hu) (qv 4) (qv 6)))
  (qss_cons (qs_augS hu (qv 5) (qv 6) (q_ix (ixd hu) (qv 8) q_int) ip_add)
  qss_nil)))
  qss_nil))
  (qss_cons (qs_att xs.at_ (qv 0) q_newT)
  (qss_cons (qs_att xs.at_ (qv 0) q_newT)
  (qss_cons (qs_for (passes_of rfl) rfl (qi_seq (qv 1)) (qgn (i := 6) sc_Measure____init__.nd) (qss_cons (qs_asg (q_ix (ixd hu) (qv 4) (qv 6)) (qg_sub (W := WNever) (setd hu) (q_at xs.at_ (qv 0)) (q_tup (qa_cons (qv 6) (qa_cons q_bl qa_nil)))))
  (qss_cons (qs_asg (q_op opd_bxor (qv 3) (q_ix (ixd hu) (qv 4) (qv 6))) (qg_sub (W := WNever) (setd hu) (q_at xs.at_ (qv 0)) (q_tup (qa_cons (qv 6) (qa_cons q_bl qa_nil)))))
  (qss_cons (qs_asg (q_ix (ixd hu) (qv 5) (qv 6)) (qg_sub (W := WNever) (setd hu) (q_at xs.at_ (qv 0)) (q_tup (qa_cons (qv 6) (qa_cons q_bl qa_nil)))))
  (qss_cons (qs_asg (q_op opd_sub (q_at xs.at_ (qv 0)) (q_ix (ixd hu) (qv 5) (qv 6))) (qg_sub (W := WNever) (setd hu) (q_at xs.at_ (qv 0)) (q_tup (qa_cons (qv 6) (qa_cons q_bl qa_nil)))))
  qss_nil)))))
  qss_nil)))))))))
theorem ok_keeps_all (fr : Fr mg K) (xs : Xs P w K mg base)  (dm_Measure__keeps_all : DefMe P w K mg base (L2N.CX P w) 3 "Measure" "keeps_all" f_Measure__keeps_all) (dc_Measure : DefC P w K mg base (L2N.CX P w) 1 "Measure" f_Measure____init__)  (F : FunD K "keeps_all" "keeps_all" (defArgs s_keeps_all) (defBody s_keeps_all) (defScope s_keeps_all) [] [] fa fd) :
    FnOk P w K mg base (L2N.CX P w) 4 fa fd P_keeps_all (spOf P w K mg f_keeps_all) :=
  fn_ok (k := 3) (body := m_keeps_all) F sc_keeps_all fun cdv A outer s H E hr => by
    have hu := hu64 hr
    have cm_Measure__keeps_all : ∀ {X : Cx} {W : WX}, X.prog = P → X.w = w → X.K = K → X.mg = mg → X.base = base → X.A = _ → L2N.Takes X W → CalM X W "Measure" "keeps_all" [] f_Measure__keeps_all := fun e1 e2 e3 e4 e5 e6 tk => DefMe.calX dm_Measure__keeps_all (hr.mono (by decide)) tk e1 e2 e3 e4 e5 e6
    have cc_Measure : ∀ {X : Cx} {W : WX}, X.prog = P → X.w = w → X.K = K → X.mg = mg → X.base = base → X.A = _ → L2N.Takes X W → CalC X W "Measure" [] f_Measure____init__ := fun e1 e2 e3 e4 e5 e6 tk => DefC.calX dc_Measure (hr.mono (by decide)) tk e1 e2 e3 e4 e5 e6
    exact (qss_cons (qs_ret (q_me (cm_Measure__keeps_all rfl rfl rfl rfl rfl rfl takesM) (q_mk (cc_Measure rfl rfl rfl rfl rfl rfl takesM) rfl (qa_cons (qv 0) (qa_cons (qv 1) qa_nil))) (qa_cons (qv 2) qa_nil)))
  qss_nil)
theorem ok_holds (fr : Fr mg K) (xs : Xs P w K mg base) (d_check_kinds_1 : Def P w K mg base (L2N.CX P w) 4 "check_kinds" [.str "kinds"] f_check_kinds) (d_check_question_2 : Def P w K mg base (L2N.CX P w) 5 "check_question" [.str "question"] f_check_question) (d_check_world_2 : Def P w K mg base (L2N.CX P w) 5 "check_world" [.str "world"] f_check_world) (d_keeps_all_3 : Def P w K mg base (L2N.CX P w) 4 "keeps_all" [] f_keeps_all) (d_parts_of_1 : Def P w K mg base (L2N.CX P w) 1 "parts_of" [] f_parts_of)    (F : FunD K "holds" "holds" (defArgs s_holds) (defBody s_holds) (defScope s_holds) [] [] fa fd) :
    FnOk P w K mg base (L2N.CX P w) 6 fa fd P_holds (spOf P w K mg f_holds) :=
  fn_ok (k := 5) (body := m_holds) F sc_holds fun cdv A outer s H E hr => by
    have hu := hu64 hr
    have c_check_kinds_1 : ∀ {X : Cx} {W : WX}, X.prog = P → X.w = w → X.K = K → X.mg = mg → X.base = base → X.A = _ → L2N.Takes X W → Cal X W "check_kinds" [.str "kinds"] f_check_kinds := fun e1 e2 e3 e4 e5 e6 tk => Def.calX d_check_kinds_1 (hr.mono (by decide)) tk e1 e2 e3 e4 e5 e6
    have c_check_question_2 : ∀ {X : Cx} {W : WX}, X.prog = P → X.w = w → X.K = K → X.mg = mg → X.base = base → X.A = _ → L2N.Takes X W → Cal X W "check_question" [.str "question"] f_check_question := fun e1 e2 e3 e4 e5 e6 tk => Def.calX d_check_question_2 (hr.mono (by decide)) tk e1 e2 e3 e4 e5 e6
    have c_check_world_2 : ∀ {X : Cx} {W : WX}, X.prog = P → X.w = w → X.K = K → X.mg = mg → X.base = base → X.A = _ → L2N.Takes X W → Cal X W "check_world" [.str "world"] f_check_world := fun e1 e2 e3 e4 e5 e6 tk => Def.calX d_check_world_2 (hr.mono (by decide)) tk e1 e2 e3 e4 e5 e6
    have c_keeps_all_3 : ∀ {X : Cx} {W : WX}, X.prog = P → X.w = w → X.K = K → X.mg = mg → X.base = base → X.A = _ → L2N.Takes X W → Cal X W "keeps_all" [] f_keeps_all := fun e1 e2 e3 e4 e5 e6 tk => Def.calX d_keeps_all_3 (hr.mono (by decide)) tk e1 e2 e3 e4 e5 e6
    have c_parts_of_1 : ∀ {X : Cx} {W : WX}, X.prog = P → X.w = w → X.K = K → X.mg = mg → X.base = base → X.A = _ → L2N.Takes X W → Cal X W "parts_of" [] f_parts_of := fun e1 e2 e3 e4 e5 e6 tk => Def.calX d_parts_of_1 (hr.mono (by decide)) tk e1 e2 e3 e4 e5 e6
    exact (qss_cons (qs_expr (q_fn (c_check_kinds_1 rfl rfl rfl rfl rfl rfl takesM) rfl (qa_cons (qv 0) qa_nil)))
  (qss_cons (qs_expr (q_fn (c_check_world_2 rfl rfl rfl rfl rfl rfl takesM) rfl (qa_cons (qv 0) (qa_cons (qv 1) qa_nil))))
  (qss_cons (qs_expr (q_fn (c_check_question_2 rfl rfl rfl rfl rfl rfl takesM) rfl (qa_cons (qv 0) (qa_cons (qv 2) qa_nil))))
  (qss_cons (qs_ret (q_fn (c_keeps_all_3 rfl rfl rfl rfl rfl rfl takesM) rfl (qa_cons (qv 0) (qa_cons (qv 1) (qa_cons (q_fn (c_parts_of_1 rfl rfl rfl rfl rfl rfl takesM) rfl (qa_cons (qv 2) qa_nil)) qa_nil)))))
  qss_nil))))
theorem ok_n__law_stream (fr : Fr mg K) (xs : Xs P w K mg base)     (F : FunD K "_law_stream" "_law_stream" (defArgs s_n__law_stream) (defBody s_n__law_stream) (defScope s_n__law_stream) [] [] fa fd) :
    FnOk P w K mg base (L2N.CX P w) 1 fa fd P_n__law_stream (spOf P w K mg f_n__law_stream) :=
  fn_ok (k := 0) (body := m_n__law_stream) F sc_n__law_stream fun cdv A outer s H E hr => by
    have hu := hu64 hr
    exact (qss_cons (qs_ret (q_newL (qa_cons (q_btyp (cd_listF rfl) rfl fr.list (by decide +kernel) (qa_cons (qv 0) qa_nil)) (qa_cons q_int (qa_cons q_int qa_nil)))))
  qss_nil)
theorem ok_n__law_next (fr : Fr mg K) (xs : Xs P w K mg base)     (F : FunD K "_law_next" "_law_next" (defArgs s_n__law_next) (defBody s_n__law_next) (defScope s_n__law_next) [] [] fa fd) :
    FnOk P w K mg base (L2N.CX P w) 1 fa fd P_n__law_next (spOf P w K mg f_n__law_next) :=
  fn_ok (k := 0) (body := m_n__law_next) F sc_n__law_next fun cdv A outer s H E hr => by
    have hu := hu64 hr
    exact (qss_cons (qs_if (qt_cmp (opd_eq hu) (q_ix (ixd hu) (qv 0) q_int) q_int (by rfl)) (qss_cons (qsn (i := 3) sc_n__law_next.nd (q_ix (ixd hu) (qv 0) q_int))
  (qss_cons (qsn (i := 4) sc_n__law_next.nd (q_op opd_plus q_int (qv 3)))
  (qss_cons (qs_if (qt_cmp (opd_lt hu) (qv 3) (q_bltn cd_len rfl fr.len (by decide +kernel) (qa_cons (q_ix (ixd hu) (qv 0) q_int) qa_nil)) (by rfl)) (qss_cons (qsn (i := 4) sc_n__law_next.nd (q_op opd_mod (q_btyp cd_int rfl fr.int (by decide +kernel) (qa_cons (q_bltn cd_abs rfl fr.abs (by decide +kernel) (qa_cons (q_ix (ixd hu) (q_ix (ixd hu) (qv 0) q_int) (qv 3)) qa_nil)) qa_nil)) (q_op opd_pow q_int q_int)))
  qss_nil) qss_nil)
  (qss_cons (qs_if (qt_cmp (opd_lt hu) (qv 4) (q_op opd_pow q_int q_int) (by rfl)) (qss_cons (qsn (i := 4) sc_n__law_next.nd (q_op opd_mod (q_btyp cd_int rfl fr.int (by decide +kernel) (qa_cons (q_op opd_plus (q_op opd_plus (q_op opd_mul (qv 4) q_int) (q_op opd_mul (qv 3) q_int)) q_int) qa_nil)) q_int))
  (qss_cons (qsn (i := 4) sc_n__law_next.nd (q_op opd_plus (q_op opd_mul (q_op opd_mod (q_btyp cd_int rfl fr.int (by decide +kernel) (qa_cons (q_op opd_plus (q_op opd_mul (qv 4) q_int) q_int) qa_nil)) q_int) q_int) (qv 4)))
  qss_nil)) qss_nil)
  (qss_cons (qs_asg (qv 4) (qg_sub (W := WNever) (setd hu) (qv 0) q_int))
  (qss_cons (qs_asg (q_op opd_plus (qv 3) q_int) (qg_sub (W := WNever) (setd hu) (qv 0) q_int))
  qss_nil)))))) qss_nil)
  (qss_cons (qsn (i := 2) sc_n__law_next.nd (q_op opd_mod (q_btyp cd_int rfl fr.int (by decide +kernel) (qa_cons (q_ix (ixd hu) (qv 0) q_int) qa_nil)) (qv 1)))
  (qss_cons (qs_asg (q_op opd_div (q_ix (ixd hu) (qv 0) q_int) (qv 1)) (qg_sub (W := WNever) (setd hu) (qv 0) q_int))
  (qss_cons (qs_ret (qv 2))
  qss_nil))))
theorem ok_n__law_pick (fr : Fr mg K) (xs : Xs P w K mg base) (d_n__law_next_2 : Def P w K mg base (L2N.CX P w) 1 "_law_next" [] f_n__law_next)    (F : FunD K "_law_pick" "_law_pick" (defArgs s_n__law_pick) (defBody s_n__law_pick) (defScope s_n__law_pick) [] [] fa fd) :
    FnOk P w K mg base (L2N.CX P w) 2 fa fd P_n__law_pick (spOf P w K mg f_n__law_pick) :=
  fn_ok (k := 1) (body := m_n__law_pick) F sc_n__law_pick fun cdv A outer s H E hr => by
    have hu := hu64 hr
    have c_n__law_next_2 : ∀ {X : Cx} {W : WX}, X.prog = P → X.w = w → X.K = K → X.mg = mg → X.base = base → X.A = _ → L2N.Takes X W → Cal X W "_law_next" [] f_n__law_next := fun e1 e2 e3 e4 e5 e6 tk => Def.calX d_n__law_next_2 (hr.mono (by decide)) tk e1 e2 e3 e4 e5 e6
    exact (qss_cons (qs_ret (q_ix (ixd hu) (qv 1) (q_fn (c_n__law_next_2 rfl rfl rfl rfl rfl rfl takesM) rfl (qa_cons (qv 0) (qa_cons (q_bltn cd_len rfl fr.len (by decide +kernel) (qa_cons (qv 1) qa_nil)) qa_nil)))))
  qss_nil)
theorem ok_n__law_says (fr : Fr mg K) (xs : Xs P w K mg base)     (F : FunD K "_law_says" "_law_says" (defArgs s_n__law_says) (defBody s_n__law_says) (defScope s_n__law_says) [] [] fa fd) :
    FnOk P w K mg base (L2N.CX P w) 1 fa fd P_n__law_says (spOf P w K mg f_n__law_says) :=
  fn_ok (k := 0) (body := m_n__law_says) F sc_n__law_says fun cdv A outer s H E hr => by
    have hu := hu64 hr
    exact (qss_cons (qs_ret (q_if (qt_val (qv 1)) (q_cmp opd_is (qv 0) q_bl (by rfl)) (q_cmp opd_is (qv 0) q_bl (by rfl))))
  qss_nil)
theorem ok_n__law_same (fr : Fr mg K) (xs : Xs P w K mg base)     (F : FunD K "_law_same" "_law_same" (defArgs s_n__law_same) (defBody s_n__law_same) (defScope s_n__law_same) [] [] fa fd) :
    FnOk P w K mg base (L2N.CX P w) 1 fa fd P_n__law_same (spOf P w K mg f_n__law_same) :=
  fn_ok (k := 0) (body := m_n__law_same) F sc_n__law_same fun cdv A outer s H E hr => by
    have hu := hu64 hr
    exact (qss_cons (qsn (i := 2) sc_n__law_same.nd (q_newL (qa_cons (q_tup (qa_cons (qv 0) (qa_cons (qv 1) qa_nil))) qa_nil)))
  (qss_cons (qs_for (passes_of rfl) rfl (qi_range1 rfl fr.range q_int) (qgn (i := 3) sc_n__law_same.nd) (qss_cons (qs_if (qt_cmp (opd_eq hu) (q_bltn cd_len rfl fr.len (by decide +kernel) (qa_cons (qv 2) qa_nil)) q_int (by rfl)) (qss_cons (qs_ret q_bl)
  qss_nil) qss_nil)
  (qss_cons (qs_asg (q_meth0 PySem.F.plainAttrs_list PySem.F.slot_list_pop PySem.F.type_list_pop md_pop (qv 2)) (qg_tup rfl (qgs_cons (qgn (i := 4) sc_n__law_same.nd) (qgs_cons (qgn (i := 5) sc_n__law_same.nd) qgs_nil))))
  (qss_cons (qs_if (QW.qt (qw_or (qt_val (q_isi (T := "tuple") rfl fr.isinstance (qv 5) rfl fr.tuple (by decide +kernel))) (qw_or1 (qt_val (q_isi (T := "list") rfl fr.isinstance (qv 5) rfl fr.list (by decide +kernel)))))) (qss_cons (qs_if (QW.qt (qw_or (qt_cmp (opd_ne hu) (q_isi (T := "tuple") rfl fr.isinstance (qv 5) rfl fr.tuple (by decide +kernel)) (q_isi (T := "tuple") rfl fr.isinstance (qv 4) rfl fr.tuple (by decide +kernel)) (by rfl)) (qw_or1 (qt_cmp (opd_ne hu) (q_isi (T := "list") rfl fr.isinstance (qv 5) rfl fr.list (by decide +kernel)) (q_isi (T := "list") rfl fr.isinstance (qv 4) rfl fr.list (by decide +kernel)) (by rfl))))) (qss_cons (qs_ret q_bl)
  qss_nil) qss_nil)
  (qss_cons (qs_if (qt_cmp (opd_ne hu) (q_bltn cd_len rfl fr.len (by decide +kernel) (qa_cons (qv 4) qa_nil)) (q_bltn cd_len rfl fr.len (by decide +kernel) (qa_cons (qv 5) qa_nil)) (by rfl)) (qss_cons (qs_ret q_bl)
  qss_nil) qss_nil)
  (qss_cons (qs_expr (q_meth PySem.F.plainAttrs_list PySem.F.slot_list_extend PySem.F.type_list_extend md_extend (qv 2) (qa_cons (q_lc (own := [("at", 6)]) rfl sc_n__law_same.nd (qi_range1 rfl fr.range (q_bltn cd_len rfl fr.len (by decide +kernel) (qa_cons (qv 5) qa_nil))) (blkOk_by (own := [("at", 6)]) (N := N_n__law_same) (sc := defScope s_n__law_same) (by decide +kernel)) (fun _ _ _ _ _ => (qgn (i := 6) sc_n__law_same.nd)) (fun _ _ _ _ _ => qts_nil) (fun _ _ _ _ _ => (q_tup (qa_cons (q_ix (ixd hu) (qv 4) (qv 6)) (qa_cons (q_ix (ixd hu) (qv 5) (qv 6)) qa_nil))))) qa_nil)))
  qss_nil))) (qss_cons (qs_if (qt_val (q_isi (T := "bool") rfl fr.isinstance (qv 5) rfl fr.bool (by decide +kernel))) (qss_cons (qs_if (QW.qt (qw_or (qt_not (qt_val (q_isi (T := "bool") rfl fr.isinstance (qv 4) rfl fr.bool (by decide +kernel)))) (qw_or1 (qt_cmp (opd_ne hu) (qv 4) (qv 5) (by rfl))))) (qss_cons (qs_ret q_bl)
  qss_nil) qss_nil)
  qss_nil) (qss_cons (qs_if (qt_val (q_isi (T := "int") rfl fr.isinstance (qv 5) rfl fr.int (by decide +kernel))) (qss_cons (qs_if (QW.qt (qw_or (qt_not (qt_val (q_isi (T := "int") rfl fr.isinstance (qv 4) rfl fr.int (by decide +kernel)))) (qw_or (qt_val (q_isi (T := "bool") rfl fr.isinstance (qv 4) rfl fr.bool (by decide +kernel))) (qw_or1 (qt_cmp (opd_ne hu) (qv 4) (qv 5) (by rfl)))))) (qss_cons (qs_ret q_bl)
  qss_nil) qss_nil)
  qss_nil) (qss_cons (qs_if (qt_val (q_isi (T := "str") rfl fr.isinstance (qv 5) rfl fr.str (by decide +kernel))) (qss_cons (qs_if (QW.qt (qw_or (qt_not (qt_val (q_isi (T := "str") rfl fr.isinstance (qv 4) rfl fr.str (by decide +kernel)))) (qw_or1 (qt_cmp (opd_ne hu) (qv 4) (qv 5) (by rfl))))) (qss_cons (qs_ret q_bl)
  qss_nil) qss_nil)
  qss_nil) (qss_cons (qs_if (qt_cmp opd_notN (qv 4) q_non (by rfl)) (qss_cons (qs_ret q_bl)
  qss_nil) qss_nil)
  qss_nil))
  qss_nil))
  qss_nil))
  qss_nil))
  qss_nil))))
  (qss_cons (qs_ret q_bl)
  qss_nil)))
theorem ok_n__law_kind (fr : Fr mg K) (xs : Xs P w K mg base) (d_n__law_next_2 : Def P w K mg base (L2N.CX P w) 1 "_law_next" [] f_n__law_next) (d_n__law_pick_2 : Def P w K mg base (L2N.CX P w) 2 "_law_pick" [] f_n__law_pick)    (F : FunD K "_law_kind" "_law_kind" (defArgs s_n__law_kind) (defBody s_n__law_kind) (defScope s_n__law_kind) [] [] fa fd) :
    FnOk P w K mg base (L2N.CX P w) 3 fa fd P_n__law_kind (spOf P w K mg f_n__law_kind) :=
  fn_ok (k := 2) (body := m_n__law_kind) F sc_n__law_kind fun cdv A outer s H E hr => by
    have hu := hu64 hr
    have c_n__law_next_2 : ∀ {X : Cx} {W : WX}, X.prog = P → X.w = w → X.K = K → X.mg = mg → X.base = base → X.A = _ → L2N.Takes X W → Cal X W "_law_next" [] f_n__law_next := fun e1 e2 e3 e4 e5 e6 tk => Def.calX d_n__law_next_2 (hr.mono (by decide)) tk e1 e2 e3 e4 e5 e6
    have c_n__law_pick_2 : ∀ {X : Cx} {W : WX}, X.prog = P → X.w = w → X.K = K → X.mg = mg → X.base = base → X.A = _ → L2N.Takes X W → Cal X W "_law_pick" [] f_n__law_pick := fun e1 e2 e3 e4 e5 e6 tk => Def.calX d_n__law_pick_2 (hr.mono (by decide)) tk e1 e2 e3 e4 e5 e6
    exact (qss_cons (qs_if (qt_cmp (opd_eq hu) (q_fn (c_n__law_next_2 rfl rfl rfl rfl rfl rfl takesM) rfl (qa_cons (qv 0) (qa_cons q_int qa_nil))) q_int (by rfl)) (qss_cons (qsn (i := 3) sc_n__law_kind.nd q_str)
  (qss_cons (qs_ret (q_fn (c_n__law_pick_2 rfl rfl rfl rfl rfl rfl takesM) rfl (qa_cons (qv 0) (qa_cons (q_meth PySem.F.plainAttrs_str PySem.F.slot_str_split PySem.F.type_str_split md_split (qv 3) (qa_cons q_str qa_nil)) qa_nil))))
  qss_nil)) qss_nil)
  (qss_cons (qsn (i := 1) sc_n__law_kind.nd (q_ix (ixd hu) q_str (q_fn (c_n__law_next_2 rfl rfl rfl rfl rfl rfl takesM) rfl (qa_cons (qv 0) (qa_cons q_int qa_nil)))))
  (qss_cons (qs_for (passes_of rfl) rfl (qi_range1 rfl fr.range (q_fn (c_n__law_pick_2 rfl rfl rfl rfl rfl rfl takesM) rfl (qa_cons (qv 0) (qa_cons (q_lst (qa_cons q_int (qa_cons q_int (qa_cons q_int (qa_cons q_int (qa_cons q_int qa_nil)))))) qa_nil)))) (qgn (i := 2) sc_n__law_kind.nd) (qss_cons (qsn (i := 1) sc_n__law_kind.nd (q_op opd_plus (qv 1) (q_ix (ixd hu) q_str (q_fn (c_n__law_next_2 rfl rfl rfl rfl rfl rfl takesM) rfl (qa_cons (qv 0) (qa_cons q_int qa_nil))))))
  qss_nil))
  (qss_cons (qs_ret (qv 1))
  qss_nil))))
theorem ok_n__law_kinds (fr : Fr mg K) (xs : Xs P w K mg base) (d_n__law_kind_1 : Def P w K mg base (L2N.CX P w) 3 "_law_kind" [] f_n__law_kind) (d_n__law_next_2 : Def P w K mg base (L2N.CX P w) 1 "_law_next" [] f_n__law_next)    (F : FunD K "_law_kinds" "_law_kinds" (defArgs s_n__law_kinds) (defBody s_n__law_kinds) (defScope s_n__law_kinds) [] [] fa fd) :
    FnOk P w K mg base (L2N.CX P w) 4 fa fd P_n__law_kinds (spOf P w K mg f_n__law_kinds) :=
  fn_ok (k := 3) (body := m_n__law_kinds) F sc_n__law_kinds fun cdv A outer s H E hr => by
    have hu := hu64 hr
    have c_n__law_kind_1 : ∀ {X : Cx} {W : WX}, X.prog = P → X.w = w → X.K = K → X.mg = mg → X.base = base → X.A = _ → L2N.Takes X W → Cal X W "_law_kind" [] f_n__law_kind := fun e1 e2 e3 e4 e5 e6 tk => Def.calX d_n__law_kind_1 (hr.mono (by decide)) tk e1 e2 e3 e4 e5 e6
    have c_n__law_next_2 : ∀ {X : Cx} {W : WX}, X.prog = P → X.w = w → X.K = K → X.mg = mg → X.base = base → X.A = _ → L2N.Takes X W → Cal X W "_law_next" [] f_n__law_next := fun e1 e2 e3 e4 e5 e6 tk => Def.calX d_n__law_next_2 (hr.mono (by decide)) tk e1 e2 e3 e4 e5 e6
    exact (qss_cons (qsn (i := 2) sc_n__law_kinds.nd (q_newL qa_nil))
  (qss_cons (qsn (i := 3) sc_n__law_kinds.nd (q_sl sld (q_fn (c_n__law_kind_1 rfl rfl rfl rfl rfl rfl takesM) rfl (qa_cons (qv 0) qa_nil)) qo_nil (qo_some q_int)))
  (qss_cons (qsn (i := 4) sc_n__law_kinds.nd (q_fn (c_n__law_next_2 rfl rfl rfl rfl rfl rfl takesM) rfl (qa_cons (qv 0) (qa_cons (q_op opd_plus (q_bltn cd_len rfl fr.len (by decide +kernel) (qa_cons (qv 3) qa_nil)) q_int) qa_nil))))
  (qss_cons (qsn (i := 5) sc_n__law_kinds.nd (q_fn (c_n__law_next_2 rfl rfl rfl rfl rfl rfl takesM) rfl (qa_cons (qv 0) (qa_cons q_int qa_nil))))
  (qss_cons (qsn (i := 6) sc_n__law_kinds.nd (q_fn (c_n__law_next_2 rfl rfl rfl rfl rfl rfl takesM) rfl (qa_cons (qv 0) (qa_cons q_int qa_nil))))
  (qss_cons (qs_for (passes_of rfl) rfl (qi_range1 rfl fr.range q_int) (qgn (i := 7) sc_n__law_kinds.nd) (qss_cons (qs_if (qt_cmp (opd_eq hu) (q_bltn cd_len rfl fr.len (by decide +kernel) (qa_cons (qv 2) qa_nil)) (qv 1) (by rfl)) (qss_cons qs_break
  qss_nil) qss_nil)
  (qss_cons (qsn (i := 8) sc_n__law_kinds.nd (q_if (QW.qt (qw_and (qt_cmp (opd_eq hu) (qv 6) q_int (by rfl)) (qw_and1 (qt_cmp (opd_lt hu) (qv 7) (q_op opd_mul q_int (qv 1)) (by rfl))))) (q_fn (c_n__law_kind_1 rfl rfl rfl rfl rfl rfl takesM) rfl (qa_cons (qv 0) qa_nil)) q_str))
  (qss_cons (qs_if (QW.qt (qw_or (qt_cmp (opd_eq hu) (qv 6) q_int (by rfl)) (qw_or1 (qt_cmp (opd_ge hu) (qv 7) (q_op opd_mul q_int (qv 1)) (by rfl))))) (qss_cons (qsn (i := 9) sc_n__law_kinds.nd (q_op opd_mod (q_btyp cd_int rfl fr.int (by decide +kernel) (qa_cons (q_op opd_plus (qv 5) (q_op opd_mul (qv 7) q_int)) qa_nil)) q_int))
  (qss_cons (qsn (i := 8) sc_n__law_kinds.nd (q_op opd_plus (q_op opd_plus (q_op opd_plus (q_sl sld (qv 3) qo_nil (qo_some (qv 4))) (q_ix (ixd hu) q_str (q_op opd_div (qv 9) q_int))) (q_ix (ixd hu) q_str (q_op opd_mod (q_btyp cd_int rfl fr.int (by decide +kernel) (qa_cons (qv 9) qa_nil)) q_int))) (q_sl sld (qv 3) (qo_some (qv 4)) qo_nil)))
  qss_nil)) qss_nil)
  (qss_cons (qs_if (qt_cmp (opd_notIn hu) (qv 8) (qv 2) (by rfl)) (qss_cons (qs_expr (q_meth PySem.F.plainAttrs_list PySem.F.slot_list_append PySem.F.type_list_append md_append (qv 2) (qa_cons (qv 8) qa_nil)))
  qss_nil) qss_nil)
  qss_nil)))))
  (qss_cons (qs_ret (q_btyp cd_tuple rfl fr.tuple (by decide +kernel) (qa_cons (q_bltn (cd_sortF hu) rfl fr.sorted (by decide +kernel) (qa_cons (qv 2) qa_nil)) qa_nil)))
  qss_nil)))))))
theorem ok_n__law_bit (fr : Fr mg K) (xs : Xs P w K mg base) (d_n__law_next_2 : Def P w K mg base (L2N.CX P w) 1 "_law_next" [] f_n__law_next)    (F : FunD K "_law_bit" "_law_bit" (defArgs s_n__law_bit) (defBody s_n__law_bit) (defScope s_n__law_bit) [] [] fa fd) :
    FnOk P w K mg base (L2N.CX P w) 2 fa fd P_n__law_bit (spOf P w K mg f_n__law_bit) :=
  fn_ok (k := 1) (body := m_n__law_bit) F sc_n__law_bit fun cdv A outer s H E hr => by
    have hu := hu64 hr
    have c_n__law_next_2 : ∀ {X : Cx} {W : WX}, X.prog = P → X.w = w → X.K = K → X.mg = mg → X.base = base → X.A = _ → L2N.Takes X W → Cal X W "_law_next" [] f_n__law_next := fun e1 e2 e3 e4 e5 e6 tk => Def.calX d_n__law_next_2 (hr.mono (by decide)) tk e1 e2 e3 e4 e5 e6
    exact (qss_cons (qs_ret (q_cmp (opd_eq hu) (q_fn (c_n__law_next_2 rfl rfl rfl rfl rfl rfl takesM) rfl (qa_cons (qv 0) (qa_cons q_int qa_nil))) q_int (by rfl)))
  qss_nil)
theorem ok_n__law_flip (fr : Fr mg K) (xs : Xs P w K mg base)     (F : FunD K "_law_flip" "_law_flip" (defArgs s_n__law_flip) (defBody s_n__law_flip) (defScope s_n__law_flip) [] [] fa fd) :
    FnOk P w K mg base (L2N.CX P w) 1 fa fd P_n__law_flip (spOf P w K mg f_n__law_flip) :=
  fn_ok (k := 0) (body := m_n__law_flip) F sc_n__law_flip fun cdv A outer s H E hr => by
    have hu := hu64 hr
    exact (qss_cons (qs_ret (q_tup (qa_cons (q_ix (ixd hu) (qv 0) q_int) (qa_cons (q_not (q_ix (ixd hu) (qv 0) q_int)) qa_nil))))
  qss_nil)
theorem ok_n__law_sentence (fr : Fr mg K) (xs : Xs P w K mg base) (d_n__law_bit_1 : Def P w K mg base (L2N.CX P w) 2 "_law_bit" [] f_n__law_bit) (d_n__law_next_2 : Def P w K mg base (L2N.CX P w) 1 "_law_next" [] f_n__law_next) (d_n__law_pick_2 : Def P w K mg base (L2N.CX P w) 2 "_law_pick" [] f_n__law_pick)    (F : FunD K "_law_sentence" "_law_sentence" (defArgs s_n__law_sentence) (defBody s_n__law_sentence) (defScope s_n__law_sentence) [] [] fa fd) :
    FnOk P w K mg base (L2N.CX P w) 3 fa fd P_n__law_sentence (spOf P w K mg f_n__law_sentence) :=
  fn_ok (k := 2) (body := m_n__law_sentence) F sc_n__law_sentence fun cdv A outer s H E hr => by
    have hu := hu64 hr
    have c_n__law_bit_1 : ∀ {X : Cx} {W : WX}, X.prog = P → X.w = w → X.K = K → X.mg = mg → X.base = base → X.A = _ → L2N.Takes X W → Cal X W "_law_bit" [] f_n__law_bit := fun e1 e2 e3 e4 e5 e6 tk => Def.calX d_n__law_bit_1 (hr.mono (by decide)) tk e1 e2 e3 e4 e5 e6
    have c_n__law_next_2 : ∀ {X : Cx} {W : WX}, X.prog = P → X.w = w → X.K = K → X.mg = mg → X.base = base → X.A = _ → L2N.Takes X W → Cal X W "_law_next" [] f_n__law_next := fun e1 e2 e3 e4 e5 e6 tk => Def.calX d_n__law_next_2 (hr.mono (by decide)) tk e1 e2 e3 e4 e5 e6
    have c_n__law_pick_2 : ∀ {X : Cx} {W : WX}, X.prog = P → X.w = w → X.K = K → X.mg = mg → X.base = base → X.A = _ → L2N.Takes X W → Cal X W "_law_pick" [] f_n__law_pick := fun e1 e2 e3 e4 e5 e6 tk => Def.calX d_n__law_pick_2 (hr.mono (by decide)) tk e1 e2 e3 e4 e5 e6
    exact (qss_cons (qsn (i := 2) sc_n__law_sentence.nd (q_fn (c_n__law_pick_2 rfl rfl rfl rfl rfl rfl takesM) rfl (qa_cons (qv 0) (qa_cons (q_lst (qa_cons q_str (qa_cons q_str (qa_cons q_str (qa_cons q_str qa_nil))))) qa_nil))))
  (qss_cons (qsn (i := 3) sc_n__law_sentence.nd (q_tup (qa_cons (q_fn (c_n__law_pick_2 rfl rfl rfl rfl rfl rfl takesM) rfl (qa_cons (qv 0) (qa_cons (qv 1) qa_nil))) (qa_cons (q_fn (c_n__law_bit_1 rfl rfl rfl rfl rfl rfl takesM) rfl (qa_cons (qv 0) qa_nil)) qa_nil))))
  (qss_cons (qsn (i := 4) sc_n__law_sentence.nd (q_tup (qa_cons (q_fn (c_n__law_pick_2 rfl rfl rfl rfl rfl rfl takesM) rfl (qa_cons (qv 0) (qa_cons (qv 1) qa_nil))) (qa_cons (q_fn (c_n__law_bit_1 rfl rfl rfl rfl rfl rfl takesM) rfl (qa_cons (qv 0) qa_nil)) qa_nil))))
  (qss_cons (qs_if (qt_cmp (opd_eq hu) (q_fn (c_n__law_next_2 rfl rfl rfl rfl rfl rfl takesM) rfl (qa_cons (qv 0) (qa_cons q_int qa_nil))) q_int (by rfl)) (qss_cons (qsn (i := 4) sc_n__law_sentence.nd (q_tup (qa_cons (q_ix (ixd hu) (qv 3) q_int) (qa_cons (q_fn (c_n__law_bit_1 rfl rfl rfl rfl rfl rfl takesM) rfl (qa_cons (qv 0) qa_nil)) qa_nil))))
  qss_nil) qss_nil)
  (qss_cons (qs_ret (q_tup (qa_cons (qv 2) (qa_cons (qv 3) (qa_cons (qv 4) qa_nil)))))
  qss_nil)))))
theorem ok_n__law_mirror (fr : Fr mg K) (xs : Xs P w K mg base) (d_n__law_flip_1 : Def P w K mg base (L2N.CX P w) 1 "_law_flip" [] f_n__law_flip)    (F : FunD K "_law_mirror" "_law_mirror" (defArgs s_n__law_mirror) (defBody s_n__law_mirror) (defScope s_n__law_mirror) [] [] fa fd) :
    FnOk P w K mg base (L2N.CX P w) 2 fa fd P_n__law_mirror (spOf P w K mg f_n__law_mirror) :=
  fn_ok (k := 1) (body := m_n__law_mirror) F sc_n__law_mirror fun cdv A outer s H E hr => by
    have hu := hu64 hr
    have c_n__law_flip_1 : ∀ {X : Cx} {W : WX}, X.prog = P → X.w = w → X.K = K → X.mg = mg → X.base = base → X.A = _ → L2N.Takes X W → Cal X W "_law_flip" [] f_n__law_flip := fun e1 e2 e3 e4 e5 e6 tk => Def.calX d_n__law_flip_1 (hr.mono (by decide)) tk e1 e2 e3 e4 e5 e6
    exact (qss_cons (qs_if (qt_cmp (opd_eq hu) (q_ix (ixd hu) (qv 0) q_int) q_str (by rfl)) (qss_cons (qs_ret (q_tup (qa_cons q_str (qa_cons (q_ix (ixd hu) (qv 0) q_int) (qa_cons (q_ix (ixd hu) (qv 0) q_int) qa_nil)))))
  qss_nil) qss_nil)
  (qss_cons (qs_ret (q_tup (qa_cons (q_ix (ixd hu) (qv 0) q_int) (qa_cons (q_fn (c_n__law_flip_1 rfl rfl rfl rfl rfl rfl takesM) rfl (qa_cons (q_ix (ixd hu) (qv 0) q_int) qa_nil)) (qa_cons (q_fn (c_n__law_flip_1 rfl rfl rfl rfl rfl rfl takesM) rfl (qa_cons (q_ix (ixd hu) (qv 0) q_int) qa_nil)) qa_nil)))))
  qss_nil))
theorem ok_n__law_contrary (fr : Fr mg K) (xs : Xs P w K mg base) (d_n__law_flip_1 : Def P w K mg base (L2N.CX P w) 1 "_law_flip" [] f_n__law_flip)    (F : FunD K "_law_contrary" "_law_contrary" (defArgs s_n__law_contrary) (defBody s_n__law_contrary) (defScope s_n__law_contrary) [] [] fa fd) :
    FnOk P w K mg base (L2N.CX P w) 2 fa fd P_n__law_contrary (spOf P w K mg f_n__law_contrary) :=
  fn_ok (k := 1) (body := m_n__law_contrary) F sc_n__law_contrary fun cdv A outer s H E hr => by
    have hu := hu64 hr
    have c_n__law_flip_1 : ∀ {X : Cx} {W : WX}, X.prog = P → X.w = w → X.K = K → X.mg = mg → X.base = base → X.A = _ → L2N.Takes X W → Cal X W "_law_flip" [] f_n__law_flip := fun e1 e2 e3 e4 e5 e6 tk => Def.calX d_n__law_flip_1 (hr.mono (by decide)) tk e1 e2 e3 e4 e5 e6
    exact (qss_cons (qs_if (qt_cmp (opd_eq hu) (q_ix (ixd hu) (qv 0) q_int) q_str (by rfl)) (qss_cons (qs_ret (q_tup (qa_cons q_str (qa_cons (q_ix (ixd hu) (qv 0) q_int) (qa_cons (q_fn (c_n__law_flip_1 rfl rfl rfl rfl rfl rfl takesM) rfl (qa_cons (q_ix (ixd hu) (qv 0) q_int) qa_nil)) qa_nil)))))
  qss_nil) qss_nil)
  (qss_cons (qs_if (qt_cmp (opd_eq hu) (q_ix (ixd hu) (qv 0) q_int) q_str (by rfl)) (qss_cons (qs_ret (q_tup (qa_cons q_str (qa_cons (q_ix (ixd hu) (qv 0) q_int) (qa_cons (q_fn (c_n__law_flip_1 rfl rfl rfl rfl rfl rfl takesM) rfl (qa_cons (q_ix (ixd hu) (qv 0) q_int) qa_nil)) qa_nil)))))
  qss_nil) qss_nil)
  (qss_cons (qs_ret (q_tup (qa_cons (q_if (qt_cmp (opd_eq hu) (q_ix (ixd hu) (qv 0) q_int) q_str (by rfl)) q_str q_str) (qa_cons (q_ix (ixd hu) (qv 0) q_int) (qa_cons (q_ix (ixd hu) (qv 0) q_int) qa_nil)))))
  qss_nil)))
theorem ok_n__law_terms (fr : Fr mg K) (xs : Xs P w K mg base)     (F : FunD K "_law_terms" "_law_terms" (defArgs s_n__law_terms) (defBody s_n__law_terms) (defScope s_n__law_terms) [] [] fa fd) :
    FnOk P w K mg base (L2N.CX P w) 1 fa fd P_n__law_terms (spOf P w K mg f_n__law_terms) :=
  fn_ok (k := 0) (body := m_n__law_terms) F sc_n__law_terms fun cdv A outer s H E hr => by
    have hu := hu64 hr
    exact (qss_cons (qs_ret (q_lc (own := [("at", 1)]) rfl sc_n__law_terms.nd (qi_range1 rfl fr.range (q_op opd_mul q_int (q_bltn cd_len rfl fr.len (by decide +kernel) (qa_cons (qv 0) qa_nil)))) (blkOk_by (own := [("at", 1)]) (N := N_n__law_terms) (sc := defScope s_n__law_terms) (by decide +kernel)) (fun _ _ _ _ _ => (qgn (i := 1) sc_n__law_terms.nd)) (fun _ _ _ _ _ => qts_nil) (fun _ _ _ _ _ => (q_tup (qa_cons (q_ix (ixd hu) (qv 0) (q_op opd_div (qv 1) q_int)) (qa_cons (q_cmp (opd_eq hu) (q_op opd_mod (q_btyp cd_int rfl fr.int (by decide +kernel) (qa_cons (qv 1) qa_nil)) q_int) q_int (by rfl)) qa_nil))))))
  qss_nil)
theorem ok_n__law_plain_all (fr : Fr mg K) (xs : Xs P w K mg base) (d_n__law_mirror_1 : Def P w K mg base (L2N.CX P w) 2 "_law_mirror" [] f_n__law_mirror) (d_n__law_terms_1 : Def P w K mg base (L2N.CX P w) 1 "_law_terms" [] f_n__law_terms)    (F : FunD K "_law_plain_all" "_law_plain_all" (defArgs s_n__law_plain_all) (defBody s_n__law_plain_all) (defScope s_n__law_plain_all) [] [] fa fd) :
    FnOk P w K mg base (L2N.CX P w) 3 fa fd P_n__law_plain_all (spOf P w K mg f_n__law_plain_all) :=
  fn_ok (k := 2) (body := m_n__law_plain_all) F sc_n__law_plain_all fun cdv A outer s H E hr => by
    have hu := hu64 hr
    have c_n__law_mirror_1 : ∀ {X : Cx} {W : WX}, X.prog = P → X.w = w → X.K = K → X.mg = mg → X.base = base → X.A = _ → L2N.Takes X W → Cal X W "_law_mirror" [] f_n__law_mirror := fun e1 e2 e3 e4 e5 e6 tk => Def.calX d_n__law_mirror_1 (hr.mono (by decide)) tk e1 e2 e3 e4 e5 e6
    have c_n__law_terms_1 : ∀ {X : Cx} {W : WX}, X.prog = P → X.w = w → X.K = K → X.mg = mg → X.base = base → X.A = _ → L2N.Takes X W → Cal X W "_law_terms" [] f_n__law_terms := fun e1 e2 e3 e4 e5 e6 tk => Def.calX d_n__law_terms_1 (hr.mono (by decide)) tk e1 e2 e3 e4 e5 e6
    exact (qss_cons (qsn (i := 1) sc_n__law_plain_all.nd (q_fn (c_n__law_terms_1 rfl rfl rfl rfl rfl rfl takesM) rfl (qa_cons (qv 0) qa_nil)))
  (qss_cons (qsn (i := 2) sc_n__law_plain_all.nd (q_newL qa_nil))
  (qss_cons (qs_for (passes_of rfl) rfl (qi_seq (q_lst (qa_cons q_str (qa_cons q_str (qa_cons q_str (qa_cons q_str qa_nil)))))) (qgn (i := 3) sc_n__law_plain_all.nd) (qss_cons (qs_for (passes_of rfl) rfl (qi_seq (qv 1)) (qgn (i := 4) sc_n__law_plain_all.nd) (qss_cons (qs_for (passes_of rfl) rfl (qi_seq (qv 1)) (qgn (i := 5) sc_n__law_plain_all.nd) (qss_cons (qsn (i := 6) sc_n__law_plain_all.nd (q_tup (qa_cons (qv 3) (qa_cons (qv 4) (qa_cons (qv 5) qa_nil)))))
  (qss_cons (qs_if (qt_cmp (opd_le hu) (qv 6) (q_fn (c_n__law_mirror_1 rfl rfl rfl rfl rfl rfl takesM) rfl (qa_cons (qv 6) qa_nil)) (by rfl)) (qss_cons (qs_expr (q_meth PySem.F.plainAttrs_list PySem.F.slot_list_append PySem.F.type_list_append md_append (qv 2) (qa_cons (qv 6) qa_nil)))
  qss_nil) qss_nil)
  qss_nil)))
  qss_nil))
  qss_nil))
  (qss_cons (qs_ret (qv 2))
  qss_nil))))
theorem ok_n__law_world (fr : Fr mg K) (xs : Xs P w K mg base) (d_n__law_bit_1 : Def P w K mg base (L2N.CX P w) 2 "_law_bit" [] f_n__law_bit) (d_n__law_next_2 : Def P w K mg base (L2N.CX P w) 1 "_law_next" [] f_n__law_next) (d_n__law_pick_2 : Def P w K mg base (L2N.CX P w) 2 "_law_pick" [] f_n__law_pick)    (F : FunD K "_law_world" "_law_world" (defArgs s_n__law_world) (defBody s_n__law_world) (defScope s_n__law_world) [] [] fa fd) :
    FnOk P w K mg base (L2N.CX P w) 3 fa fd P_n__law_world (spOf P w K mg f_n__law_world) :=
  fn_ok (k := 2) (body := m_n__law_world) F sc_n__law_world fun cdv A outer s H E hr => by
    have hu := hu64 hr
    have c_n__law_bit_1 : ∀ {X : Cx} {W : WX}, X.prog = P → X.w = w → X.K = K → X.mg = mg → X.base = base → X.A = _ → L2N.Takes X W → Cal X W "_law_bit" [] f_n__law_bit := fun e1 e2 e3 e4 e5 e6 tk => Def.calX d_n__law_bit_1 (hr.mono (by decide)) tk e1 e2 e3 e4 e5 e6
    have c_n__law_next_2 : ∀ {X : Cx} {W : WX}, X.prog = P → X.w = w → X.K = K → X.mg = mg → X.base = base → X.A = _ → L2N.Takes X W → Cal X W "_law_next" [] f_n__law_next := fun e1 e2 e3 e4 e5 e6 tk => Def.calX d_n__law_next_2 (hr.mono (by decide)) tk e1 e2 e3 e4 e5 e6
    have c_n__law_pick_2 : ∀ {X : Cx} {W : WX}, X.prog = P → X.w = w → X.K = K → X.mg = mg → X.base = base → X.A = _ → L2N.Takes X W → Cal X W "_law_pick" [] f_n__law_pick := fun e1 e2 e3 e4 e5 e6 tk => Def.calX d_n__law_pick_2 (hr.mono (by decide)) tk e1 e2 e3 e4 e5 e6
    exact (qss_cons (qsn (i := 3) sc_n__law_world.nd (q_fn (c_n__law_pick_2 rfl rfl rfl rfl rfl rfl takesM) rfl (qa_cons (qv 0) (qa_cons (q_lst (qa_cons q_int (qa_cons q_int (qa_cons q_int qa_nil)))) qa_nil))))
  (qss_cons (qsn (i := 4) sc_n__law_world.nd (q_fn (c_n__law_bit_1 rfl rfl rfl rfl rfl rfl takesM) rfl (qa_cons (qv 0) qa_nil)))
  (qss_cons (qsn (i := 5) sc_n__law_world.nd (q_fn (c_n__law_pick_2 rfl rfl rfl rfl rfl rfl takesM) rfl (qa_cons (qv 0) (qa_cons (q_lst (qa_cons q_int (qa_cons q_int (qa_cons q_int (qa_cons q_int (qa_cons q_int qa_nil)))))) qa_nil))))
  (qss_cons (qsn (i := 6) sc_n__law_world.nd q_newT)
  (qss_cons (qs_for (passes_of rfl) rfl (qi_range1 rfl fr.range (q_op opd_plus q_int (q_fn (c_n__law_next_2 rfl rfl rfl rfl rfl rfl takesM) rfl (qa_cons (qv 0) (qa_cons (qv 2) qa_nil))))) (qgn (i := 7) sc_n__law_world.nd) (qss_cons (qsn (i := 8) sc_n__law_world.nd (q_btyp cd_tuple rfl fr.tuple (by decide +kernel) (qa_cons (q_lc (own := [("kind", 9)]) rfl sc_n__law_world.nd (qi_seq (qv 1)) (blkOk_by (own := [("kind", 9)]) (N := N_n__law_world) (sc := defScope s_n__law_world) (by decide +kernel)) (fun _ _ _ _ _ => (qgn (i := 9) sc_n__law_world.nd)) (fun _ _ _ _ _ => (qts_one (qt_cmp (opd_ne hu) (q_cmp (opd_eq hu) (q_fn (c_n__law_next_2 rfl rfl rfl rfl rfl rfl takesN) rfl (qa_cons (qv 0) (qa_cons (qv 3) qa_nil))) q_int (by rfl)) (qv 4) (by rfl)))) (fun _ _ _ _ _ => (qv 9))) qa_nil)))
  (qss_cons (qs_asg (q_op opd_plus q_int (q_fn (c_n__law_next_2 rfl rfl rfl rfl rfl rfl takesM) rfl (qa_cons (qv 0) (qa_cons (qv 5) qa_nil)))) (qg_sub (W := WNever) (setd hu) (qv 6) (qv 8)))
  qss_nil)))
  (qss_cons (qs_ret (q_btyp cd_tuple rfl fr.tuple (by decide +kernel) (qa_cons (q_bltn (cd_sortF hu) rfl fr.sorted (by decide +kernel) (qa_cons (q_ditems (i := 6) (j := 8) hu rfl sc_n__law_world.nd (by decide) (blkOk_by (own := [("some", 8)]) (N := N_n__law_world) (sc := defScope s_n__law_world) (by decide +kernel)) (pv 6) (fun _ _ _ _ _ => pgn sc_n__law_world.nd) (fun _ _ _ _ _ => pv 8) (fun _ _ _ _ _ => pv 6) (fun _ _ _ _ _ => pv 8)) qa_nil)) qa_nil)))
  qss_nil))))))
theorem ok_n__law_alone (fr : Fr mg K) (xs : Xs P w K mg base) (d_n__law_flip_1 : Def P w K mg base (L2N.CX P w) 1 "_law_flip" [] f_n__law_flip)    (F : FunD K "_law_alone" "_law_alone" (defArgs s_n__law_alone) (defBody s_n__law_alone) (defScope s_n__law_alone) [] [] fa fd) :
    FnOk P w K mg base (L2N.CX P w) 2 fa fd P_n__law_alone (spOf P w K mg f_n__law_alone) :=
  fn_ok (k := 1) (body := m_n__law_alone) F sc_n__law_alone fun cdv A outer s H E hr => by
    have hu := hu64 hr
    have c_n__law_flip_1 : ∀ {X : Cx} {W : WX}, X.prog = P → X.w = w → X.K = K → X.mg = mg → X.base = base → X.A = _ → L2N.Takes X W → Cal X W "_law_flip" [] f_n__law_flip := fun e1 e2 e3 e4 e5 e6 tk => Def.calX d_n__law_flip_1 (hr.mono (by decide)) tk e1 e2 e3 e4 e5 e6
    exact (qss_cons (qs_if (QW.qt (qw_and (qt_cmp (opd_eq hu) (q_ix (ixd hu) (qv 0) q_int) (q_ix (ixd hu) (qv 0) q_int) (by rfl)) (qw_and1 (qt_cmp (opd_in hu) (q_ix (ixd hu) (qv 0) q_int) (q_lst (qa_cons q_str (qa_cons q_str qa_nil))) (by rfl))))) (qss_cons (qs_ret q_str)
  qss_nil) qss_nil)
  (qss_cons (qs_if (QW.qt (qw_and (qt_cmp (opd_eq hu) (q_ix (ixd hu) (qv 0) q_int) (q_ix (ixd hu) (qv 0) q_int) (by rfl)) (qw_and1 (qt_cmp (opd_eq hu) (q_ix (ixd hu) (qv 0) q_int) q_str (by rfl))))) (qss_cons (qs_ret q_str)
  qss_nil) qss_nil)
  (qss_cons (qs_ret (q_if (QW.qt (qw_and (qt_cmp (opd_eq hu) (q_ix (ixd hu) (qv 0) q_int) q_str (by rfl)) (qw_and1 (qt_cmp (opd_eq hu) (q_ix (ixd hu) (qv 0) q_int) (q_fn (c_n__law_flip_1 rfl rfl rfl rfl rfl rfl takesM) rfl (qa_cons (q_ix (ixd hu) (qv 0) q_int) qa_nil)) (by rfl))))) q_str q_str))
  qss_nil)))
theorem ok_n__law_ones (fr : Fr mg K) (xs : Xs P w K mg base)     (F : FunD K "_law_ones" "_law_ones" (defArgs s_n__law_ones) (defBody s_n__law_ones) (defScope s_n__law_ones) [] [] fa fd) :
    FnOk P w K mg base (L2N.CX P w) 1 fa fd P_n__law_ones (spOf P w K mg f_n__law_ones) :=
  fn_ok (k := 0) (body := m_n__law_ones) F sc_n__law_ones fun cdv A outer s H E hr => by
    have hu := hu64 hr
    exact (qss_cons (qsn (i := 1) sc_n__law_ones.nd (q_lst (qa_cons (q_tup (qa_cons (q_tup (qa_cons (q_tup qa_nil) (qa_cons q_int qa_nil))) qa_nil)) (qa_cons (q_tup (qa_cons (q_tup (qa_cons (q_sl sld (qv 0) qo_nil (qo_some q_int)) (qa_cons q_int qa_nil))) qa_nil)) qa_nil))))
  (qss_cons (qs_ret (q_if (qt_cmp (opd_eq hu) (q_bltn cd_len rfl fr.len (by decide +kernel) (qa_cons (qv 0) qa_nil)) q_int (by rfl)) (q_op opd_plus (qv 1) (q_lst (qa_cons (q_tup (qa_cons (q_tup (qa_cons (q_sl sld (qv 0) (qo_some q_int) qo_nil) (qa_cons q_int qa_nil))) qa_nil)) (qa_cons (q_tup (qa_cons (q_tup (qa_cons (qv 0) (qa_cons q_int qa_nil))) qa_nil)) qa_nil)))) (qv 1)))
  qss_nil))
theorem ok_n__law_forms (fr : Fr mg K) (xs : Xs P w K mg base) (d_n__law_alone_1 : Def P w K mg base (L2N.CX P w) 2 "_law_alone" [] f_n__law_alone) (d_n__law_contrary_1 : Def P w K mg base (L2N.CX P w) 2 "_law_contrary" [] f_n__law_contrary) (d_n__law_mirror_1 : Def P w K mg base (L2N.CX P w) 2 "_law_mirror" [] f_n__law_mirror) (d_n__law_same_2 : Def P w K mg base (L2N.CX P w) 1 "_law_same" [] f_n__law_same) (d_by_itself_1 : Def P w K mg base (L2N.CX P w) 5 "by_itself" [] f_by_itself) (d_contrary_1 : Def P w K mg base (L2N.CX P w) 5 "contrary" [] f_contrary) (d_mirror_1 : Def P w K mg base (L2N.CX P w) 5 "mirror" [] f_mirror) (d_plain_1 : Def P w K mg base (L2N.CX P w) 5 "plain" [] f_plain)    (F : FunD K "_law_forms" "_law_forms" (defArgs s_n__law_forms) (defBody s_n__law_forms) (defScope s_n__law_forms) [] [] fa fd) :
    FnOk P w K mg base (L2N.CX P w) 6 fa fd P_n__law_forms (spOf P w K mg f_n__law_forms) :=
  fn_ok (k := 5) (body := m_n__law_forms) F sc_n__law_forms fun cdv A outer s H E hr => by
    have hu := hu64 hr
    have c_n__law_alone_1 : ∀ {X : Cx} {W : WX}, X.prog = P → X.w = w → X.K = K → X.mg = mg → X.base = base → X.A = _ → L2N.Takes X W → Cal X W "_law_alone" [] f_n__law_alone := fun e1 e2 e3 e4 e5 e6 tk => Def.calX d_n__law_alone_1 (hr.mono (by decide)) tk e1 e2 e3 e4 e5 e6
    have c_n__law_contrary_1 : ∀ {X : Cx} {W : WX}, X.prog = P → X.w = w → X.K = K → X.mg = mg → X.base = base → X.A = _ → L2N.Takes X W → Cal X W "_law_contrary" [] f_n__law_contrary := fun e1 e2 e3 e4 e5 e6 tk => Def.calX d_n__law_contrary_1 (hr.mono (by decide)) tk e1 e2 e3 e4 e5 e6
    have c_n__law_mirror_1 : ∀ {X : Cx} {W : WX}, X.prog = P → X.w = w → X.K = K → X.mg = mg → X.base = base → X.A = _ → L2N.Takes X W → Cal X W "_law_mirror" [] f_n__law_mirror := fun e1 e2 e3 e4 e5 e6 tk => Def.calX d_n__law_mirror_1 (hr.mono (by decide)) tk e1 e2 e3 e4 e5 e6
    have c_n__law_same_2 : ∀ {X : Cx} {W : WX}, X.prog = P → X.w = w → X.K = K → X.mg = mg → X.base = base → X.A = _ → L2N.Takes X W → Cal X W "_law_same" [] f_n__law_same := fun e1 e2 e3 e4 e5 e6 tk => Def.calX d_n__law_same_2 (hr.mono (by decide)) tk e1 e2 e3 e4 e5 e6
    have c_by_itself_1 : ∀ {X : Cx} {W : WX}, X.prog = P → X.w = w → X.K = K → X.mg = mg → X.base = base → X.A = _ → L2N.Takes X W → Cal X W "by_itself" [] f_by_itself := fun e1 e2 e3 e4 e5 e6 tk => Def.calX d_by_itself_1 (hr.mono (by decide)) tk e1 e2 e3 e4 e5 e6
    have c_contrary_1 : ∀ {X : Cx} {W : WX}, X.prog = P → X.w = w → X.K = K → X.mg = mg → X.base = base → X.A = _ → L2N.Takes X W → Cal X W "contrary" [] f_contrary := fun e1 e2 e3 e4 e5 e6 tk => Def.calX d_contrary_1 (hr.mono (by decide)) tk e1 e2 e3 e4 e5 e6
    have c_mirror_1 : ∀ {X : Cx} {W : WX}, X.prog = P → X.w = w → X.K = K → X.mg = mg → X.base = base → X.A = _ → L2N.Takes X W → Cal X W "mirror" [] f_mirror := fun e1 e2 e3 e4 e5 e6 tk => Def.calX d_mirror_1 (hr.mono (by decide)) tk e1 e2 e3 e4 e5 e6
    have c_plain_1 : ∀ {X : Cx} {W : WX}, X.prog = P → X.w = w → X.K = K → X.mg = mg → X.base = base → X.A = _ → L2N.Takes X W → Cal X W "plain" [] f_plain := fun e1 e2 e3 e4 e5 e6 tk => Def.calX d_plain_1 (hr.mono (by decide)) tk e1 e2 e3 e4 e5 e6
    exact (qss_cons (qsn (i := 1) sc_n__law_forms.nd (q_fn (c_n__law_mirror_1 rfl rfl rfl rfl rfl rfl takesM) rfl (qa_cons (qv 0) qa_nil)))
  (qss_cons (qsn (i := 2) sc_n__law_forms.nd (q_if (qt_cmp (opd_le hu) (qv 0) (qv 1) (by rfl)) (qv 0) (qv 1)))
  (qss_cons (qs_if (qt_not (qt_val (q_fn (c_n__law_same_2 rfl rfl rfl rfl rfl rfl takesM) rfl (qa_cons (q_tup (qa_cons (q_fn (c_contrary_1 rfl rfl rfl rfl rfl rfl takesM) rfl (qa_cons (qv 0) qa_nil)) (qa_cons (q_fn (c_mirror_1 rfl rfl rfl rfl rfl rfl takesM) rfl (qa_cons (qv 0) qa_nil)) (qa_cons (q_fn (c_plain_1 rfl rfl rfl rfl rfl rfl takesM) rfl (qa_cons (qv 0) qa_nil)) qa_nil)))) (qa_cons (q_tup (qa_cons (q_fn (c_n__law_contrary_1 rfl rfl rfl rfl rfl rfl takesM) rfl (qa_cons (qv 0) qa_nil)) (qa_cons (qv 1) (qa_cons (qv 2) qa_nil)))) qa_nil))))) (qss_cons (qs_ret q_bl)
  qss_nil) qss_nil)
  (qss_cons (qs_if (qt_not (qt_val (q_fn (c_n__law_same_2 rfl rfl rfl rfl rfl rfl takesM) rfl (qa_cons (q_tup (qa_cons (q_fn (c_contrary_1 rfl rfl rfl rfl rfl rfl takesM) rfl (qa_cons (q_fn (c_contrary_1 rfl rfl rfl rfl rfl rfl takesM) rfl (qa_cons (qv 0) qa_nil)) qa_nil)) (qa_cons (q_fn (c_mirror_1 rfl rfl rfl rfl rfl rfl takesM) rfl (qa_cons (q_fn (c_mirror_1 rfl rfl rfl rfl rfl rfl takesM) rfl (qa_cons (qv 0) qa_nil)) qa_nil)) (qa_cons (q_fn (c_plain_1 rfl rfl rfl rfl rfl rfl takesM) rfl (qa_cons (qv 1) qa_nil)) qa_nil)))) (qa_cons (q_tup (qa_cons (qv 0) (qa_cons (qv 0) (qa_cons (qv 2) qa_nil)))) qa_nil))))) (qss_cons (qs_ret q_bl)
  qss_nil) qss_nil)
  (qss_cons (qs_if (QW.qt (qw_or (qt_not (qt_val (q_fn (c_n__law_same_2 rfl rfl rfl rfl rfl rfl takesM) rfl (qa_cons (q_fn (c_by_itself_1 rfl rfl rfl rfl rfl rfl takesM) rfl (qa_cons (qv 0) qa_nil)) (qa_cons (q_fn (c_n__law_alone_1 rfl rfl rfl rfl rfl rfl takesM) rfl (qa_cons (qv 0) qa_nil)) qa_nil))))) (qw_or1 (qt_cmp (opd_ne hu) (q_fn (c_by_itself_1 rfl rfl rfl rfl rfl rfl takesM) rfl (qa_cons (qv 1) qa_nil)) (q_fn (c_by_itself_1 rfl rfl rfl rfl rfl rfl takesM) rfl (qa_cons (qv 0) qa_nil)) (by rfl))))) (qss_cons (qs_ret q_bl)
  qss_nil) qss_nil)
  (qss_cons (qs_ret (q_fn (c_n__law_same_2 rfl rfl rfl rfl rfl rfl takesM) rfl (qa_cons (q_fn (c_by_itself_1 rfl rfl rfl rfl rfl rfl takesM) rfl (qa_cons (q_fn (c_contrary_1 rfl rfl rfl rfl rfl rfl takesM) rfl (qa_cons (qv 0) qa_nil)) qa_nil)) (qa_cons (q_fn (c_n__law_alone_1 rfl rfl rfl rfl rfl rfl takesM) rfl (qa_cons (q_fn (c_n__law_contrary_1 rfl rfl rfl rfl rfl rfl takesM) rfl (qa_cons (qv 0) qa_nil)) qa_nil)) qa_nil))))
  qss_nil))))))
theorem ok_n__law_by_one (fr : Fr mg K) (xs : Xs P w K mg base) (d_n__law_ones_1 : Def P w K mg base (L2N.CX P w) 1 "_law_ones" [] f_n__law_ones) (d_by_itself_1 : Def P w K mg base (L2N.CX P w) 5 "by_itself" [] f_by_itself) (d_holds_3 : Def P w K mg base (L2N.CX P w) 6 "holds" [] f_holds)    (F : FunD K "_law_by_one" "_law_by_one" (defArgs s_n__law_by_one) (defBody s_n__law_by_one) (defScope s_n__law_by_one) [] [] fa fd) :
    FnOk P w K mg base (L2N.CX P w) 7 fa fd P_n__law_by_one (spOf P w K mg f_n__law_by_one) :=
  fn_ok (k := 6) (body := m_n__law_by_one) F sc_n__law_by_one fun cdv A outer s H E hr => by
    have hu := hu64 hr
    have c_n__law_ones_1 : ∀ {X : Cx} {W : WX}, X.prog = P → X.w = w → X.K = K → X.mg = mg → X.base = base → X.A = _ → L2N.Takes X W → Cal X W "_law_ones" [] f_n__law_ones := fun e1 e2 e3 e4 e5 e6 tk => Def.calX d_n__law_ones_1 (hr.mono (by decide)) tk e1 e2 e3 e4 e5 e6
    have c_by_itself_1 : ∀ {X : Cx} {W : WX}, X.prog = P → X.w = w → X.K = K → X.mg = mg → X.base = base → X.A = _ → L2N.Takes X W → Cal X W "by_itself" [] f_by_itself := fun e1 e2 e3 e4 e5 e6 tk => Def.calX d_by_itself_1 (hr.mono (by decide)) tk e1 e2 e3 e4 e5 e6
    have c_holds_3 : ∀ {X : Cx} {W : WX}, X.prog = P → X.w = w → X.K = K → X.mg = mg → X.base = base → X.A = _ → L2N.Takes X W → Cal X W "holds" [] f_holds := fun e1 e2 e3 e4 e5 e6 tk => Def.calX d_holds_3 (hr.mono (by decide)) tk e1 e2 e3 e4 e5 e6
    exact (qss_cons (qsn (i := 1) sc_n__law_by_one.nd (q_bltn (cd_sortF hu) rfl fr.sorted (by decide +kernel) (qa_cons (q_lst (qa_cons (q_ix (ixd hu) (q_ix (ixd hu) (qv 0) q_int) q_int) (qa_cons (q_ix (ixd hu) (q_ix (ixd hu) (qv 0) q_int) q_int) qa_nil))) qa_nil)))
  (qss_cons (qsn (i := 2) sc_n__law_by_one.nd (q_btyp cd_tuple rfl fr.tuple (by decide +kernel) (qa_cons (q_if (qt_cmp (opd_eq hu) (q_ix (ixd hu) (qv 1) q_int) (q_ix (ixd hu) (qv 1) q_int) (by rfl)) (q_sl sld (qv 1) qo_nil (qo_some q_int)) (qv 1)) qa_nil)))
  (qss_cons (qs_setLc (own := [("world", 5)]) (i := 3) rfl sc_n__law_by_one.nd rfl rfl (sw_true rfl rfl rfl (by decide +kernel)) (qi_seq (q_fn (c_n__law_ones_1 rfl rfl rfl rfl rfl rfl takesM) rfl (qa_cons (qv 2) qa_nil))) (blkOk_by (own := [("world", 5)]) (N := N_n__law_by_one) (sc := defScope s_n__law_by_one) (by decide +kernel)) (fun _ _ _ _ _ => (qgn (i := 5) sc_n__law_by_one.nd)) (fun _ _ _ _ _ => qts_nil) (fun _ _ _ _ _ => (q_fn (c_holds_3 rfl rfl rfl rfl rfl rfl takesN) rfl (qa_cons (qv 2) (qa_cons (qv 5) (qa_cons (qv 0) qa_nil))))))
  (qss_cons (qs_if (qt_not (qt_val (q_bltn (cd_all rfl) rfl fr.all (by decide +kernel) (qa_cons (q_lc (own := [("one", 6)]) rfl sc_n__law_by_one.nd (qi_seq (qv 3)) (blkOk_by (own := [("one", 6)]) (N := N_n__law_by_one) (sc := defScope s_n__law_by_one) (by decide +kernel)) (fun _ _ _ _ _ => (qgn (i := 6) sc_n__law_by_one.nd)) (fun _ _ _ _ _ => qts_nil) (fun _ _ _ _ _ => (q_or (q_cmp opd_is (qv 6) q_bl (by rfl)) (q_one (q_cmp opd_is (qv 6) q_bl (by rfl)))))) qa_nil)))) (qss_cons (qs_ret q_bl)
  qss_nil) qss_nil)
  (qss_cons (qsn (i := 4) sc_n__law_by_one.nd (q_fn (c_by_itself_1 rfl rfl rfl rfl rfl rfl takesM) rfl (qa_cons (qv 0) qa_nil)))
  (qss_cons (qs_if (qt_cmp (opd_eq hu) (qv 4) q_str (by rfl)) (qss_cons (qs_ret (q_and (q_cmp (opd_in hu) q_bl (qv 3) (by rfl)) (q_one (q_cmp (opd_in hu) q_bl (qv 3) (by rfl)))))
  qss_nil) qss_nil)
  (qss_cons (qs_ret (q_bltn (cd_all rfl) rfl fr.all (by decide +kernel) (qa_cons (q_lc (own := [("one", 6)]) rfl sc_n__law_by_one.nd (qi_seq (qv 3)) (blkOk_by (own := [("one", 6)]) (N := N_n__law_by_one) (sc := defScope s_n__law_by_one) (by decide +kernel)) (fun _ _ _ _ _ => (qgn (i := 6) sc_n__law_by_one.nd)) (fun _ _ _ _ _ => qts_nil) (fun _ _ _ _ _ => (q_cmp (opd_eq hu) (qv 6) (q_cmp (opd_eq hu) (qv 4) q_str (by rfl)) (by rfl)))) qa_nil)))
  qss_nil)))))))
theorem ok_n__law_held (fr : Fr mg K) (xs : Xs P w K mg base) (d_n__law_says_2 : Def P w K mg base (L2N.CX P w) 1 "_law_says" [] f_n__law_says) (d_contrary_1 : Def P w K mg base (L2N.CX P w) 5 "contrary" [] f_contrary) (d_holds_3 : Def P w K mg base (L2N.CX P w) 6 "holds" [] f_holds) (d_mirror_1 : Def P w K mg base (L2N.CX P w) 5 "mirror" [] f_mirror) (d_plain_1 : Def P w K mg base (L2N.CX P w) 5 "plain" [] f_plain)    (F : FunD K "_law_held" "_law_held" (defArgs s_n__law_held) (defBody s_n__law_held) (defScope s_n__law_held) [] [] fa fd) :
    FnOk P w K mg base (L2N.CX P w) 7 fa fd P_n__law_held (spOf P w K mg f_n__law_held) :=
  fn_ok (k := 6) (body := m_n__law_held) F sc_n__law_held fun cdv A outer s H E hr => by
    have hu := hu64 hr
    have c_n__law_says_2 : ∀ {X : Cx} {W : WX}, X.prog = P → X.w = w → X.K = K → X.mg = mg → X.base = base → X.A = _ → L2N.Takes X W → Cal X W "_law_says" [] f_n__law_says := fun e1 e2 e3 e4 e5 e6 tk => Def.calX d_n__law_says_2 (hr.mono (by decide)) tk e1 e2 e3 e4 e5 e6
    have c_contrary_1 : ∀ {X : Cx} {W : WX}, X.prog = P → X.w = w → X.K = K → X.mg = mg → X.base = base → X.A = _ → L2N.Takes X W → Cal X W "contrary" [] f_contrary := fun e1 e2 e3 e4 e5 e6 tk => Def.calX d_contrary_1 (hr.mono (by decide)) tk e1 e2 e3 e4 e5 e6
    have c_holds_3 : ∀ {X : Cx} {W : WX}, X.prog = P → X.w = w → X.K = K → X.mg = mg → X.base = base → X.A = _ → L2N.Takes X W → Cal X W "holds" [] f_holds := fun e1 e2 e3 e4 e5 e6 tk => Def.calX d_holds_3 (hr.mono (by decide)) tk e1 e2 e3 e4 e5 e6
    have c_mirror_1 : ∀ {X : Cx} {W : WX}, X.prog = P → X.w = w → X.K = K → X.mg = mg → X.base = base → X.A = _ → L2N.Takes X W → Cal X W "mirror" [] f_mirror := fun e1 e2 e3 e4 e5 e6 tk => Def.calX d_mirror_1 (hr.mono (by decide)) tk e1 e2 e3 e4 e5 e6
    have c_plain_1 : ∀ {X : Cx} {W : WX}, X.prog = P → X.w = w → X.K = K → X.mg = mg → X.base = base → X.A = _ → L2N.Takes X W → Cal X W "plain" [] f_plain := fun e1 e2 e3 e4 e5 e6 tk => Def.calX d_plain_1 (hr.mono (by decide)) tk e1 e2 e3 e4 e5 e6
    exact (qss_cons (qsn (i := 3) sc_n__law_held.nd (q_fn (c_n__law_says_2 rfl rfl rfl rfl rfl rfl takesM) rfl (qa_cons (q_fn (c_holds_3 rfl rfl rfl rfl rfl rfl takesM) rfl (qa_cons (qv 0) (qa_cons (qv 1) (qa_cons (qv 2) qa_nil)))) (qa_cons q_bl qa_nil))))
  (qss_cons (qs_if (QW.qt (qw_or (qt_not (qt_val (q_fn (c_n__law_says_2 rfl rfl rfl rfl rfl rfl takesM) rfl (qa_cons (q_fn (c_holds_3 rfl rfl rfl rfl rfl rfl takesM) rfl (qa_cons (qv 0) (qa_cons (qv 1) (qa_cons (qv 2) qa_nil)))) (qa_cons (qv 3) qa_nil))))) (qw_or1 (qt_not (qt_val (q_fn (c_n__law_says_2 rfl rfl rfl rfl rfl rfl takesM) rfl (qa_cons (q_fn (c_holds_3 rfl rfl rfl rfl rfl rfl takesM) rfl (qa_cons (qv 0) (qa_cons (qv 1) (qa_cons (q_fn (c_contrary_1 rfl rfl rfl rfl rfl rfl takesM) rfl (qa_cons (qv 2) qa_nil)) qa_nil)))) (qa_cons (q_not (qv 3)) qa_nil)))))))) (qss_cons (qs_ret q_bl)
  qss_nil) qss_nil)
  (qss_cons (qs_ret (q_and (q_fn (c_n__law_says_2 rfl rfl rfl rfl rfl rfl takesM) rfl (qa_cons (q_fn (c_holds_3 rfl rfl rfl rfl rfl rfl takesM) rfl (qa_cons (qv 0) (qa_cons (qv 1) (qa_cons (q_fn (c_mirror_1 rfl rfl rfl rfl rfl rfl takesM) rfl (qa_cons (qv 2) qa_nil)) qa_nil)))) (qa_cons (qv 3) qa_nil))) (q_one (q_fn (c_n__law_says_2 rfl rfl rfl rfl rfl rfl takesM) rfl (qa_cons (q_fn (c_holds_3 rfl rfl rfl rfl rfl rfl takesM) rfl (qa_cons (qv 0) (qa_cons (qv 1) (qa_cons (q_fn (c_plain_1 rfl rfl rfl rfl rfl rfl takesM) rfl (qa_cons (qv 2) qa_nil)) qa_nil)))) (qa_cons (qv 3) qa_nil))))))
  qss_nil)))
theorem ok_law (fr : Fr mg K) (xs : Xs P w K mg base) (d_n__law_by_one_1 : Def P w K mg base (L2N.CX P w) 7 "_law_by_one" [] f_n__law_by_one) (d_n__law_forms_1 : Def P w K mg base (L2N.CX P w) 6 "_law_forms" [] f_n__law_forms) (d_n__law_held_3 : Def P w K mg base (L2N.CX P w) 7 "_law_held" [] f_n__law_held) (d_n__law_kinds_2 : Def P w K mg base (L2N.CX P w) 4 "_law_kinds" [] f_n__law_kinds) (d_n__law_next_2 : Def P w K mg base (L2N.CX P w) 1 "_law_next" [] f_n__law_next) (d_n__law_pick_2 : Def P w K mg base (L2N.CX P w) 2 "_law_pick" [] f_n__law_pick) (d_n__law_plain_all_1 : Def P w K mg base (L2N.CX P w) 3 "_law_plain_all" [] f_n__law_plain_all) (d_n__law_same_2 : Def P w K mg base (L2N.CX P w) 1 "_law_same" [] f_n__law_same) (d_n__law_sentence_2 : Def P w K mg base (L2N.CX P w) 3 "_law_sentence" [] f_n__law_sentence) (d_n__law_stream_1 : Def P w K mg base (L2N.CX P w) 1 "_law_stream" [] f_n__law_stream) (d_n__law_world_3 : Def P w K mg base (L2N.CX P w) 3 "_law_world" [] f_n__law_world) (d_plain_sentences_1 : Def P w K mg base (L2N.CX P w) 5 "plain_sentences" [] f_plain_sentences)    (F : FunD K "law" "law" (defArgs s_law) (defBody s_law) (defScope s_law) [] [] fa fd) :
    FnOk P w K mg base (L2N.CX P w) 8 fa fd P_law (spOf P w K mg f_law) :=
  fn_ok (k := 7) (body := m_law) F sc_law fun cdv A outer s H E hr => by
    have hu := hu64 hr
    have c_n__law_by_one_1 : ∀ {X : Cx} {W : WX}, X.prog = P → X.w = w → X.K = K → X.mg = mg → X.base = base → X.A = _ → L2N.Takes X W → Cal X W "_law_by_one" [] f_n__law_by_one := fun e1 e2 e3 e4 e5 e6 tk => Def.calX d_n__law_by_one_1 (hr.mono (by decide)) tk e1 e2 e3 e4 e5 e6
    have c_n__law_forms_1 : ∀ {X : Cx} {W : WX}, X.prog = P → X.w = w → X.K = K → X.mg = mg → X.base = base → X.A = _ → L2N.Takes X W → Cal X W "_law_forms" [] f_n__law_forms := fun e1 e2 e3 e4 e5 e6 tk => Def.calX d_n__law_forms_1 (hr.mono (by decide)) tk e1 e2 e3 e4 e5 e6
    have c_n__law_held_3 : ∀ {X : Cx} {W : WX}, X.prog = P → X.w = w → X.K = K → X.mg = mg → X.base = base → X.A = _ → L2N.Takes X W → Cal X W "_law_held" [] f_n__law_held := fun e1 e2 e3 e4 e5 e6 tk => Def.calX d_n__law_held_3 (hr.mono (by decide)) tk e1 e2 e3 e4 e5 e6
    have c_n__law_kinds_2 : ∀ {X : Cx} {W : WX}, X.prog = P → X.w = w → X.K = K → X.mg = mg → X.base = base → X.A = _ → L2N.Takes X W → Cal X W "_law_kinds" [] f_n__law_kinds := fun e1 e2 e3 e4 e5 e6 tk => Def.calX d_n__law_kinds_2 (hr.mono (by decide)) tk e1 e2 e3 e4 e5 e6
    have c_n__law_next_2 : ∀ {X : Cx} {W : WX}, X.prog = P → X.w = w → X.K = K → X.mg = mg → X.base = base → X.A = _ → L2N.Takes X W → Cal X W "_law_next" [] f_n__law_next := fun e1 e2 e3 e4 e5 e6 tk => Def.calX d_n__law_next_2 (hr.mono (by decide)) tk e1 e2 e3 e4 e5 e6
    have c_n__law_pick_2 : ∀ {X : Cx} {W : WX}, X.prog = P → X.w = w → X.K = K → X.mg = mg → X.base = base → X.A = _ → L2N.Takes X W → Cal X W "_law_pick" [] f_n__law_pick := fun e1 e2 e3 e4 e5 e6 tk => Def.calX d_n__law_pick_2 (hr.mono (by decide)) tk e1 e2 e3 e4 e5 e6
    have c_n__law_plain_all_1 : ∀ {X : Cx} {W : WX}, X.prog = P → X.w = w → X.K = K → X.mg = mg → X.base = base → X.A = _ → L2N.Takes X W → Cal X W "_law_plain_all" [] f_n__law_plain_all := fun e1 e2 e3 e4 e5 e6 tk => Def.calX d_n__law_plain_all_1 (hr.mono (by decide)) tk e1 e2 e3 e4 e5 e6
    have c_n__law_same_2 : ∀ {X : Cx} {W : WX}, X.prog = P → X.w = w → X.K = K → X.mg = mg → X.base = base → X.A = _ → L2N.Takes X W → Cal X W "_law_same" [] f_n__law_same := fun e1 e2 e3 e4 e5 e6 tk => Def.calX d_n__law_same_2 (hr.mono (by decide)) tk e1 e2 e3 e4 e5 e6
    have c_n__law_sentence_2 : ∀ {X : Cx} {W : WX}, X.prog = P → X.w = w → X.K = K → X.mg = mg → X.base = base → X.A = _ → L2N.Takes X W → Cal X W "_law_sentence" [] f_n__law_sentence := fun e1 e2 e3 e4 e5 e6 tk => Def.calX d_n__law_sentence_2 (hr.mono (by decide)) tk e1 e2 e3 e4 e5 e6
    have c_n__law_stream_1 : ∀ {X : Cx} {W : WX}, X.prog = P → X.w = w → X.K = K → X.mg = mg → X.base = base → X.A = _ → L2N.Takes X W → Cal X W "_law_stream" [] f_n__law_stream := fun e1 e2 e3 e4 e5 e6 tk => Def.calX d_n__law_stream_1 (hr.mono (by decide)) tk e1 e2 e3 e4 e5 e6
    have c_n__law_world_3 : ∀ {X : Cx} {W : WX}, X.prog = P → X.w = w → X.K = K → X.mg = mg → X.base = base → X.A = _ → L2N.Takes X W → Cal X W "_law_world" [] f_n__law_world := fun e1 e2 e3 e4 e5 e6 tk => Def.calX d_n__law_world_3 (hr.mono (by decide)) tk e1 e2 e3 e4 e5 e6
    have c_plain_sentences_1 : ∀ {X : Cx} {W : WX}, X.prog = P → X.w = w → X.K = K → X.mg = mg → X.base = base → X.A = _ → L2N.Takes X W → Cal X W "plain_sentences" [] f_plain_sentences := fun e1 e2 e3 e4 e5 e6 tk => Def.calX d_plain_sentences_1 (hr.mono (by decide)) tk e1 e2 e3 e4 e5 e6
    exact (qss_cons (qsn (i := 1) sc_law.nd (q_fn (c_n__law_stream_1 rfl rfl rfl rfl rfl rfl takesM) rfl (qa_cons (qv 0) qa_nil)))
  (qss_cons (qsn (i := 2) sc_law.nd (q_fn (c_n__law_kinds_2 rfl rfl rfl rfl rfl rfl takesM) rfl (qa_cons (qv 1) (qa_cons (q_fn (c_n__law_pick_2 rfl rfl rfl rfl rfl rfl takesM) rfl (qa_cons (qv 1) (qa_cons (q_lst (qa_cons q_int (qa_cons q_int (qa_cons q_int (qa_cons q_int (qa_cons q_int (qa_cons (q_op opd_plus q_int (q_fn (c_n__law_next_2 rfl rfl rfl rfl rfl rfl takesM) rfl (qa_cons (qv 1) (qa_cons q_int qa_nil)))) qa_nil))))))) qa_nil))) qa_nil))))
  (qss_cons (qs_for (passes_of rfl) rfl (qi_range1 rfl fr.range q_int) (qgn (i := 3) sc_law.nd) (qss_cons (qsn (i := 9) sc_law.nd (q_fn (c_n__law_sentence_2 rfl rfl rfl rfl rfl rfl takesM) rfl (qa_cons (qv 1) (qa_cons (qv 2) qa_nil))))
  (qss_cons (qs_if (QW.qt (qw_or (qt_not (qt_val (q_fn (c_n__law_forms_1 rfl rfl rfl rfl rfl rfl takesM) rfl (qa_cons (qv 9) qa_nil)))) (qw_or1 (qt_not (qt_val (q_fn (c_n__law_by_one_1 rfl rfl rfl rfl rfl rfl takesM) rfl (qa_cons (qv 9) qa_nil))))))) (qss_cons (qs_ret q_bl)
  qss_nil) qss_nil)
  (qss_cons (qs_if (qt_not (qt_val (q_fn (c_n__law_held_3 rfl rfl rfl rfl rfl rfl takesM) rfl (qa_cons (qv 2) (qa_cons (q_fn (c_n__law_world_3 rfl rfl rfl rfl rfl rfl takesM) rfl (qa_cons (qv 1) (qa_cons (qv 2) (qa_cons q_int qa_nil)))) (qa_cons (qv 9) qa_nil)))))) (qss_cons (qs_ret q_bl)
  qss_nil) qss_nil)
  qss_nil))))
  (qss_cons (qsn (i := 4) sc_law.nd (q_fn (c_n__law_pick_2 rfl rfl rfl rfl rfl rfl takesM) rfl (qa_cons (qv 1) (qa_cons (qv 2) qa_nil))))
  (qss_cons (qs_for (passes_of rfl) rfl (qi_seq (q_lst (qa_cons q_str (qa_cons q_str (qa_cons q_str (qa_cons q_str qa_nil)))))) (qgn (i := 5) sc_law.nd) (qss_cons (qs_for (passes_of rfl) rfl (qi_range1 rfl fr.range q_int) (qgn (i := 10) sc_law.nd) (qss_cons (qsn (i := 9) sc_law.nd (q_tup (qa_cons (qv 5) (qa_cons (q_tup (qa_cons (qv 4) (qa_cons (q_cmp (opd_lt hu) (qv 10) q_int (by rfl)) qa_nil))) (qa_cons (q_tup (qa_cons (qv 4) (qa_cons (q_cmp (opd_eq hu) (q_op opd_mod (q_btyp cd_int rfl fr.int (by decide +kernel) (qa_cons (qv 10) qa_nil)) q_int) q_int (by rfl)) qa_nil))) qa_nil)))))
  (qss_cons (qs_if (QW.qt (qw_or (qt_not (qt_val (q_fn (c_n__law_forms_1 rfl rfl rfl rfl rfl rfl takesM) rfl (qa_cons (qv 9) qa_nil)))) (qw_or1 (qt_not (qt_val (q_fn (c_n__law_by_one_1 rfl rfl rfl rfl rfl rfl takesM) rfl (qa_cons (qv 9) qa_nil))))))) (qss_cons (qs_ret q_bl)
  qss_nil) qss_nil)
  qss_nil)))
  qss_nil))
  (qss_cons (qsn (i := 6) sc_law.nd (q_sl sld (qv 2) qo_nil (qo_some (q_fn (c_n__law_pick_2 rfl rfl rfl rfl rfl rfl takesM) rfl (qa_cons (qv 1) (qa_cons (q_lst (qa_cons q_int (qa_cons q_int (qa_cons q_int (qa_cons q_int (qa_cons q_int (qa_cons q_int qa_nil))))))) qa_nil))))))
  (qss_cons (qsn (i := 7) sc_law.nd (q_fn (c_n__law_plain_all_1 rfl rfl rfl rfl rfl rfl takesM) rfl (qa_cons (qv 6) qa_nil)))
  (qss_cons (qsn (i := 8) sc_law.nd (q_bltn cd_len rfl fr.len (by decide +kernel) (qa_cons (qv 6) qa_nil)))
  (qss_cons (qs_ret (q_and (q_cmp (opd_eq hu) (q_bltn cd_len rfl fr.len (by decide +kernel) (qa_cons (qv 7) qa_nil)) (q_op opd_mul (q_op opd_mul q_int (qv 8)) (q_op opd_plus (q_op opd_mul q_int (qv 8)) q_int)) (by rfl)) (q_one (q_fn (c_n__law_same_2 rfl rfl rfl rfl rfl rfl takesM) rfl (qa_cons (q_fn (c_plain_sentences_1 rfl rfl rfl rfl rfl rfl takesM) rfl (qa_cons (qv 6) qa_nil)) (qa_cons (q_btyp cd_tuple rfl fr.tuple (by decide +kernel) (qa_cons (qv 7) qa_nil)) qa_nil))))))
  qss_nil)))))))))
end
end G

/-! The end: printed by gen.py. -/
namespace G
open PySem PySem.Spec PyProof.Rows L2 Q
theorem tup_K {K : PySem.W.Frag} {x : Str} {vs : List He.Dv} (h : He.tupB K x vs = true) (H : Hp) (μ : Mu) : TupAt K H μ (He.ga K x) (vs.map (He.Dv.v K)) := by
  rcases He.tupB_ok h (fun _ => none) with z | z
  · rcases z with z | ⟨_, z⟩ <;> cases z
  · exact .inr z
def dd_is_integer : He.DefD := ⟨("is_integer", none), "is_integer", "is_integer", defArgs s_is_integer, defBody s_is_integer, defScope s_is_integer, [], []⟩
def dd_is_bit : He.DefD := ⟨("is_bit", none), "is_bit", "is_bit", defArgs s_is_bit, defBody s_is_bit, defScope s_is_bit, [], []⟩
def dd_is_from_to : He.DefD := ⟨("is_from_to", none), "is_from_to", "is_from_to", defArgs s_is_from_to, defBody s_is_from_to, defScope s_is_from_to, [], []⟩
def dd_is_tuple_of : He.DefD := ⟨("is_tuple_of", none), "is_tuple_of", "is_tuple_of", defArgs s_is_tuple_of, defBody s_is_tuple_of, defScope s_is_tuple_of, [], []⟩
def dd_is_ascending : He.DefD := ⟨("is_ascending", none), "is_ascending", "is_ascending", defArgs s_is_ascending, defBody s_is_ascending, defScope s_is_ascending, [], []⟩
def dd_is_kind : He.DefD := ⟨("is_kind", none), "is_kind", "is_kind", defArgs s_is_kind, defBody s_is_kind, defScope s_is_kind, [], []⟩
def dd_is_kind_row : He.DefD := ⟨("is_kind_row", none), "is_kind_row", "is_kind_row", defArgs s_is_kind_row, defBody s_is_kind_row, defScope s_is_kind_row, [], []⟩
def dd_is_kinds : He.DefD := ⟨("is_kinds", none), "is_kinds", "is_kinds", defArgs s_is_kinds, defBody s_is_kinds, defScope s_is_kinds, [], []⟩
def dd_is_free_term : He.DefD := ⟨("is_free_term", none), "is_free_term", "is_free_term", defArgs s_is_free_term, defBody s_is_free_term, defScope s_is_free_term, [], []⟩
def dd_is_term_over : He.DefD := ⟨("is_term_over", none), "is_term_over", "is_term_over", defArgs s_is_term_over, defBody s_is_term_over, defScope s_is_term_over, [], []⟩
def dd_check_kinds : He.DefD := ⟨("check_kinds", none), "check_kinds", "check_kinds", defArgs s_check_kinds, defBody s_check_kinds, defScope s_check_kinds, [.str "kinds"], []⟩
def dd_flip : He.DefD := ⟨("flip", none), "flip", "flip", defArgs s_flip, defBody s_flip, defScope s_flip, [], []⟩
def dd_terms_among : He.DefD := ⟨("terms_among", none), "terms_among", "terms_among", defArgs s_terms_among, defBody s_terms_among, defScope s_terms_among, [], []⟩
def dd_is_word_and : He.DefD := ⟨("is_word_and", none), "is_word_and", "is_word_and", defArgs s_is_word_and, defBody s_is_word_and, defScope s_is_word_and, [], []⟩
def dd_is_free_sentence : He.DefD := ⟨("is_free_sentence", none), "is_free_sentence", "is_free_sentence", defArgs s_is_free_sentence, defBody s_is_free_sentence, defScope s_is_free_sentence, [], []⟩
def dd_is_sentence_over : He.DefD := ⟨("is_sentence_over", none), "is_sentence_over", "is_sentence_over", defArgs s_is_sentence_over, defBody s_is_sentence_over, defScope s_is_sentence_over, [], []⟩
def dd_is_question_over : He.DefD := ⟨("is_question_over", none), "is_question_over", "is_question_over", defArgs s_is_question_over, defBody s_is_question_over, defScope s_is_question_over, [], []⟩
def dd_check_question : He.DefD := ⟨("check_question", none), "check_question", "check_question", defArgs s_check_question, defBody s_check_question, defScope s_check_question, [.str "question"], []⟩
def dd_contrary_of : He.DefD := ⟨("contrary_of", none), "contrary_of", "contrary_of", defArgs s_contrary_of, defBody s_contrary_of, defScope s_contrary_of, [], []⟩
def dd_mirror_of : He.DefD := ⟨("mirror_of", none), "mirror_of", "mirror_of", defArgs s_mirror_of, defBody s_mirror_of, defScope s_mirror_of, [], []⟩
def dd_plain_of : He.DefD := ⟨("plain_of", none), "plain_of", "plain_of", defArgs s_plain_of, defBody s_plain_of, defScope s_plain_of, [], []⟩
def dd_check_free : He.DefD := ⟨("check_free", none), "check_free", "check_free", defArgs s_check_free, defBody s_check_free, defScope s_check_free, [], []⟩
def dd_contrary : He.DefD := ⟨("contrary", none), "contrary", "contrary", defArgs s_contrary, defBody s_contrary, defScope s_contrary, [], []⟩
def dd_mirror : He.DefD := ⟨("mirror", none), "mirror", "mirror", defArgs s_mirror, defBody s_mirror, defScope s_mirror, [], []⟩
def dd_plain : He.DefD := ⟨("plain", none), "plain", "plain", defArgs s_plain, defBody s_plain, defScope s_plain, [], []⟩
def dd_always_holds : He.DefD := ⟨("always_holds", none), "always_holds", "always_holds", defArgs s_always_holds, defBody s_always_holds, defScope s_always_holds, [], []⟩
def dd_by_itself : He.DefD := ⟨("by_itself", none), "by_itself", "by_itself", defArgs s_by_itself, defBody s_by_itself, defScope s_by_itself, [], []⟩
def dd_plain_sentences_over : He.DefD := ⟨("plain_sentences_over", none), "plain_sentences_over", "plain_sentences_over", defArgs s_plain_sentences_over, defBody s_plain_sentences_over, defScope s_plain_sentences_over, [], []⟩
def dd_plain_sentences : He.DefD := ⟨("plain_sentences", none), "plain_sentences", "plain_sentences", defArgs s_plain_sentences, defBody s_plain_sentences, defScope s_plain_sentences, [], []⟩
def dd_parts_of : He.DefD := ⟨("parts_of", none), "parts_of", "parts_of", defArgs s_parts_of, defBody s_parts_of, defScope s_parts_of, [], []⟩
def dd_is_sort_over : He.DefD := ⟨("is_sort_over", none), "is_sort_over", "is_sort_over", defArgs s_is_sort_over, defBody s_is_sort_over, defScope s_is_sort_over, [], []⟩
def dd_is_world_over : He.DefD := ⟨("is_world_over", none), "is_world_over", "is_world_over", defArgs s_is_world_over, defBody s_is_world_over, defScope s_is_world_over, [], []⟩
def dd_check_world : He.DefD := ⟨("check_world", none), "check_world", "check_world", defArgs s_check_world, defBody s_check_world, defScope s_check_world, [.str "world"], []⟩
def dd_Measure__meets : He.DefD := ⟨("Measure", some "meets"), "meets", "Measure.meets", defArgs s_Measure__meets, defBody s_Measure__meets, defScope s_Measure__meets, [], []⟩
def dd_Measure__keeps : He.DefD := ⟨("Measure", some "keeps"), "keeps", "Measure.keeps", defArgs s_Measure__keeps, defBody s_Measure__keeps, defScope s_Measure__keeps, [], []⟩
def dd_Measure__keeps_all : He.DefD := ⟨("Measure", some "keeps_all"), "keeps_all", "Measure.keeps_all", defArgs s_Measure__keeps_all, defBody s_Measure__keeps_all, defScope s_Measure__keeps_all, [], []⟩
def dd_Measure____init__ : He.DefD := ⟨("Measure", some "__init__"), "__init__", "Measure.__init__", defArgs s_Measure____init__, defBody s_Measure____init__, defScope s_Measure____init__, [], []⟩
def dd_keeps_all : He.DefD := ⟨("keeps_all", none), "keeps_all", "keeps_all", defArgs s_keeps_all, defBody s_keeps_all, defScope s_keeps_all, [], []⟩
def dd_holds : He.DefD := ⟨("holds", none), "holds", "holds", defArgs s_holds, defBody s_holds, defScope s_holds, [], []⟩
def dd_n__law_stream : He.DefD := ⟨("_law_stream", none), "_law_stream", "_law_stream", defArgs s_n__law_stream, defBody s_n__law_stream, defScope s_n__law_stream, [], []⟩
def dd_n__law_next : He.DefD := ⟨("_law_next", none), "_law_next", "_law_next", defArgs s_n__law_next, defBody s_n__law_next, defScope s_n__law_next, [], []⟩
def dd_n__law_pick : He.DefD := ⟨("_law_pick", none), "_law_pick", "_law_pick", defArgs s_n__law_pick, defBody s_n__law_pick, defScope s_n__law_pick, [], []⟩
def dd_n__law_says : He.DefD := ⟨("_law_says", none), "_law_says", "_law_says", defArgs s_n__law_says, defBody s_n__law_says, defScope s_n__law_says, [], []⟩
def dd_n__law_same : He.DefD := ⟨("_law_same", none), "_law_same", "_law_same", defArgs s_n__law_same, defBody s_n__law_same, defScope s_n__law_same, [], []⟩
def dd_n__law_kind : He.DefD := ⟨("_law_kind", none), "_law_kind", "_law_kind", defArgs s_n__law_kind, defBody s_n__law_kind, defScope s_n__law_kind, [], []⟩
def dd_n__law_kinds : He.DefD := ⟨("_law_kinds", none), "_law_kinds", "_law_kinds", defArgs s_n__law_kinds, defBody s_n__law_kinds, defScope s_n__law_kinds, [], []⟩
def dd_n__law_bit : He.DefD := ⟨("_law_bit", none), "_law_bit", "_law_bit", defArgs s_n__law_bit, defBody s_n__law_bit, defScope s_n__law_bit, [], []⟩
def dd_n__law_flip : He.DefD := ⟨("_law_flip", none), "_law_flip", "_law_flip", defArgs s_n__law_flip, defBody s_n__law_flip, defScope s_n__law_flip, [], []⟩
def dd_n__law_sentence : He.DefD := ⟨("_law_sentence", none), "_law_sentence", "_law_sentence", defArgs s_n__law_sentence, defBody s_n__law_sentence, defScope s_n__law_sentence, [], []⟩
def dd_n__law_mirror : He.DefD := ⟨("_law_mirror", none), "_law_mirror", "_law_mirror", defArgs s_n__law_mirror, defBody s_n__law_mirror, defScope s_n__law_mirror, [], []⟩
def dd_n__law_contrary : He.DefD := ⟨("_law_contrary", none), "_law_contrary", "_law_contrary", defArgs s_n__law_contrary, defBody s_n__law_contrary, defScope s_n__law_contrary, [], []⟩
def dd_n__law_terms : He.DefD := ⟨("_law_terms", none), "_law_terms", "_law_terms", defArgs s_n__law_terms, defBody s_n__law_terms, defScope s_n__law_terms, [], []⟩
def dd_n__law_plain_all : He.DefD := ⟨("_law_plain_all", none), "_law_plain_all", "_law_plain_all", defArgs s_n__law_plain_all, defBody s_n__law_plain_all, defScope s_n__law_plain_all, [], []⟩
def dd_n__law_world : He.DefD := ⟨("_law_world", none), "_law_world", "_law_world", defArgs s_n__law_world, defBody s_n__law_world, defScope s_n__law_world, [], []⟩
def dd_n__law_alone : He.DefD := ⟨("_law_alone", none), "_law_alone", "_law_alone", defArgs s_n__law_alone, defBody s_n__law_alone, defScope s_n__law_alone, [], []⟩
def dd_n__law_ones : He.DefD := ⟨("_law_ones", none), "_law_ones", "_law_ones", defArgs s_n__law_ones, defBody s_n__law_ones, defScope s_n__law_ones, [], []⟩
def dd_n__law_forms : He.DefD := ⟨("_law_forms", none), "_law_forms", "_law_forms", defArgs s_n__law_forms, defBody s_n__law_forms, defScope s_n__law_forms, [], []⟩
def dd_n__law_by_one : He.DefD := ⟨("_law_by_one", none), "_law_by_one", "_law_by_one", defArgs s_n__law_by_one, defBody s_n__law_by_one, defScope s_n__law_by_one, [], []⟩
def dd_n__law_held : He.DefD := ⟨("_law_held", none), "_law_held", "_law_held", defArgs s_n__law_held, defBody s_n__law_held, defScope s_n__law_held, [], []⟩
def dd_law : He.DefD := ⟨("law", none), "law", "law", defArgs s_law, defBody s_law, defScope s_law, [], []⟩
def ddi_BadValue : He.DefD := ⟨("BadValue", some "__init__"), "__init__", "BadValue.__init__", defArgs si_BadValue, defBody si_BadValue, defScope si_BadValue, [], []⟩
def hfn : List He.DefD := ([dd_is_integer, dd_is_bit, dd_is_from_to, dd_is_tuple_of, dd_is_ascending, dd_is_kind, dd_is_kind_row, dd_is_kinds, dd_is_free_term, dd_is_term_over, dd_check_kinds, dd_flip, dd_terms_among, dd_is_word_and, dd_is_free_sentence, dd_is_sentence_over, dd_is_question_over, dd_check_question, dd_contrary_of, dd_mirror_of, dd_plain_of, dd_check_free, dd_contrary, dd_mirror, dd_plain, dd_always_holds, dd_by_itself, dd_plain_sentences_over, dd_plain_sentences, dd_parts_of] : List He.DefD) ++ ([dd_is_sort_over, dd_is_world_over, dd_check_world, dd_Measure__meets, dd_Measure__keeps, dd_Measure__keeps_all, dd_Measure____init__, dd_keeps_all, dd_holds, dd_n__law_stream, dd_n__law_next, dd_n__law_pick, dd_n__law_says, dd_n__law_same, dd_n__law_kind, dd_n__law_kinds, dd_n__law_bit, dd_n__law_flip, dd_n__law_sentence, dd_n__law_mirror, dd_n__law_contrary, dd_n__law_terms, dd_n__law_plain_all, dd_n__law_world, dd_n__law_alone, dd_n__law_ones, dd_n__law_forms, dd_n__law_by_one, dd_n__law_held, dd_law] : List He.DefD) ++ ([ddi_BadValue] : List He.DefD)
def hfa : List He.Fa := ([.glo "is_integer", .glo "is_bit", .glo "is_from_to", .glo "is_tuple_of", .glo "is_ascending", .glo "is_kind", .glo "is_kind_row", .glo "is_kinds", .glo "is_free_term", .glo "is_term_over", .glo "check_kinds", .glo "flip", .glo "terms_among", .glo "is_word_and", .glo "is_free_sentence", .glo "is_sentence_over", .glo "is_question_over", .glo "check_question", .glo "contrary_of", .glo "mirror_of", .glo "plain_of", .glo "check_free", .glo "contrary", .glo "mirror", .glo "plain", .glo "always_holds", .glo "by_itself", .glo "plain_sentences_over", .glo "plain_sentences", .glo "parts_of"] : List He.Fa) ++ ([.glo "is_sort_over", .glo "is_world_over", .glo "check_world", .glo "keeps_all", .glo "holds", .glo "_law_stream", .glo "_law_next", .glo "_law_pick", .glo "_law_says", .glo "_law_same", .glo "_law_kind", .glo "_law_kinds", .glo "_law_bit", .glo "_law_flip", .glo "_law_sentence", .glo "_law_mirror", .glo "_law_contrary", .glo "_law_terms", .glo "_law_plain_all", .glo "_law_world", .glo "_law_alone", .glo "_law_ones", .glo "_law_forms", .glo "_law_by_one", .glo "_law_held", .glo "law", .glo "BadValue", .glo "Measure", .cls "Measure", .noat "Measure" "many"] : List He.Fa) ++ ([.noat "Measure" "masks", .noat "Measure" "numbers", .noat "Measure" "sizes", .meth "Measure" "meets", .meth "Measure" "keeps", .meth "Measure" "keeps_all", .mkr "Measure", .free "len", .free "isinstance", .free "int", .free "bool", .free "str", .free "tuple", .free "list", .free "all", .free "sum", .free "sorted", .free "range", .free "enumerate", .free "abs", .free "min", .int "MOST_SIGNS" 12, .int "MOST_KINDS" 30, .glo "WORDS", .int "MOST_PARTS" 40, .int "MOST_SORTS" 4000, .int "MOST_NUMBER" 1152921504606846976] : List He.Fa)
def hex (K : PySem.W.Frag) : Bool := (He.tupB K "WORDS" [.str "all", .str "many", .str "more", .str "some"]) && (xcB K "BadValue" ["name"])
def hts : List He.Tab := []
abbrev R : PySem.W.OpenRow := PySem.W.OpenLaw.row PySem.Challenge.rw_morethan_k02_whole_contraries_and_mirror
abbrev hk : PySem.W.Hook := He.hookX 5 hfa hfn hts [] hex
def hob (s : PySem.W.SharedT) : He.AlX := He.obsX 5 hfa hfn hts [] hex (HandSHeadRun.getT s)
theorem hob_eq (s : PySem.W.SharedT) : hob s = hk.obs s.abs := He.obsX_eq (HandSHeadRun.getT_eq s)
def loose : List Str := (["__name__", "MoreError", "BadValue", "MOST_SIGNS", "MOST_KINDS", "is_integer", "is_bit", "is_from_to", "is_tuple_of", "is_ascending", "is_kind", "is_kind_row", "is_kinds", "is_free_term", "is_term_over", "check_kinds", "flip", "terms_among", "WORDS", "MOST_PARTS", "is_word_and", "is_free_sentence", "is_sentence_over", "is_question_over", "check_question", "contrary_of", "mirror_of", "plain_of", "check_free", "contrary"] : List Str) ++ (["mirror", "plain", "always_holds", "by_itself", "plain_sentences_over", "plain_sentences", "parts_of", "MOST_SORTS", "MOST_NUMBER", "is_sort_over", "is_world_over", "check_world", "Measure", "keeps_all", "holds", "_law_stream", "_law_next", "_law_pick", "_law_says", "_law_same", "_law_kind", "_law_kinds", "_law_bit", "_law_flip", "_law_sentence", "_law_mirror", "_law_contrary", "_law_terms", "_law_plain_all", "_law_world"] : List Str) ++ (["_law_alone", "_law_ones", "_law_forms", "_law_by_one", "_law_held"] : List Str)
theorem run (w : World) : HandSHeadRun.RunEq R (PySem.W.view R.prog [69]) hk hob 4000 loose w := by
  intro os
  kernel_rfl
theorem fs_cases {n : Str} (h : FS n ≠ []) : n = "BadValue" := by
  unfold FS at h
  by_cases q_BadValue : n = "BadValue"
  · simp [q_BadValue]
  simp_all
theorem ck_ne {T n : Str} {b : Bool} (h : CK T n = some b) : FS n ≠ [] := fun z => by
  unfold CK at h
  rw [if_pos z] at h
  cases h
theorem ck_one {K : PySem.W.Frag} {mg : Str → Option Value} {T n m : Str} {C : Addr} {b b0 : Bool} (φ : Value → Option Bool) (g : mg m = some (.ref (He.ga K m))) (e : φ (.ref (He.ga K m)) = some b0) (h : n = m) (hn : mg n = some (.ref C)) (hb : CK T n = some b) (hc : CK T m = some b0) : φ (.ref C) = some b := by
  subst h
  cases g.symm.trans hn
  rw [hc] at hb
  cases hb
  exact e
theorem tab_one {K : PySem.W.Frag} {mg : Str → Option Value} {n m : Str} {ns : List Str} {C : Addr} (g : mg m = some (.ref (He.ga K m))) (o : XcOk K m ns) (hf : FS m = ns.reverse) (h : n = m) (hm : mg n = some (.ref C)) : XfC K C ∧ XIs K C ∧ ∀ f ∈ FS n, PySem.W.findIn K (.ref C) f = some none := by
  subst h
  cases g.symm.trans hm
  exact ⟨o.xf, o.xi, fun f q => o.no f (List.mem_reverse.mp (hf ▸ q))⟩
theorem facts {P : Program} {w : World} {K : PySem.W.Frag} {h : Heap} {mg : Str → Option Value} {f : Addr} (X : K.In h) (G : h.Ns mainGlobals mg) (hfa0 : mg ("law" : Str) = some (.ref f)) (cx : He.SaysX hfa hfn hts [] hex w h K) :
    ∃ fd : FuncData, (∀ (s : Shared) (v : Value), BindsTo s fd ⟨[v], []⟩ [("script", v)]) ∧ ∀ base : Heap, K.In base → base.Ns mainGlobals mg → FnOk P w K mg base CX0 8 f fd ["script"] (fun vs H Q _ => spOf P w K mg f_law vs H Q fun _ _ _ => False) := by
  have c := cx.t.d
  have cm := cx.more
  unfold hex at cm
  simp only [Bool.and_eq_true] at cm
  obtain ⟨x_WORDS, xc_BadValue⟩ := cm
  have fr : Fr mg K := {
    len := He.free_ok X G (c.fact 67 (f := .free "len") rfl)
    isinstance := He.free_ok X G (c.fact 68 (f := .free "isinstance") rfl)
    int := He.free_ok X G (c.fact 69 (f := .free "int") rfl)
    bool := He.free_ok X G (c.fact 70 (f := .free "bool") rfl)
    str := He.free_ok X G (c.fact 71 (f := .free "str") rfl)
    tuple := He.free_ok X G (c.fact 72 (f := .free "tuple") rfl)
    list := He.free_ok X G (c.fact 73 (f := .free "list") rfl)
    all := He.free_ok X G (c.fact 74 (f := .free "all") rfl)
    sum := He.free_ok X G (c.fact 75 (f := .free "sum") rfl)
    sorted := He.free_ok X G (c.fact 76 (f := .free "sorted") rfl)
    range := He.free_ok X G (c.fact 77 (f := .free "range") rfl)
    enumerate := He.free_ok X G (c.fact 78 (f := .free "enumerate") rfl)
    abs := He.free_ok X G (c.fact 79 (f := .free "abs") rfl)
    min := He.free_ok X G (c.fact 80 (f := .free "min") rfl)
    MOST_SIGNS := (He.int_ok X G (c.fact 81 (f := .int "MOST_SIGNS" 12) rfl)).elim fun t h => ⟨.int 12, _, h, ⟨t, rfl⟩, fun _ _ => .int _⟩
    MOST_KINDS := (He.int_ok X G (c.fact 82 (f := .int "MOST_KINDS" 30) rfl)).elim fun t h => ⟨.int 30, _, h, ⟨t, rfl⟩, fun _ _ => .int _⟩
    WORDS := ⟨.ref (He.ga K "WORDS"), _, He.glo_ok X G (c.fact 83 (f := .glo "WORDS") rfl), rfl, fun H μ => .tup (tup_K x_WORDS H μ) (.cons (.str "all") (.cons (.str "many") (.cons (.str "more") (.cons (.str "some") (.nil)))))⟩
    MOST_PARTS := (He.int_ok X G (c.fact 84 (f := .int "MOST_PARTS" 40) rfl)).elim fun t h => ⟨.int 40, _, h, ⟨t, rfl⟩, fun _ _ => .int _⟩
    MOST_SORTS := (He.int_ok X G (c.fact 85 (f := .int "MOST_SORTS" 4000) rfl)).elim fun t h => ⟨.int 4000, _, h, ⟨t, rfl⟩, fun _ _ => .int _⟩
    MOST_NUMBER := (He.int_ok X G (c.fact 86 (f := .int "MOST_NUMBER" 1152921504606846976) rfl)).elim fun t h => ⟨.int 1152921504606846976, _, h, ⟨t, rfl⟩, fun _ _ => .int _⟩
  }
  obtain ⟨fd_is_integer, F_is_integer⟩ := c.def_ 0 (d := dd_is_integer) rfl
  obtain ⟨fd_is_bit, F_is_bit⟩ := c.def_ 1 (d := dd_is_bit) rfl
  obtain ⟨fd_is_from_to, F_is_from_to⟩ := c.def_ 2 (d := dd_is_from_to) rfl
  obtain ⟨fd_is_tuple_of, F_is_tuple_of⟩ := c.def_ 3 (d := dd_is_tuple_of) rfl
  obtain ⟨fd_is_ascending, F_is_ascending⟩ := c.def_ 4 (d := dd_is_ascending) rfl
  obtain ⟨fd_is_kind, F_is_kind⟩ := c.def_ 5 (d := dd_is_kind) rfl
  obtain ⟨fd_is_kind_row, F_is_kind_row⟩ := c.def_ 6 (d := dd_is_kind_row) rfl
  obtain ⟨fd_is_kinds, F_is_kinds⟩ := c.def_ 7 (d := dd_is_kinds) rfl
  obtain ⟨fd_is_free_term, F_is_free_term⟩ := c.def_ 8 (d := dd_is_free_term) rfl
  obtain ⟨fd_is_term_over, F_is_term_over⟩ := c.def_ 9 (d := dd_is_term_over) rfl
  obtain ⟨fd_check_kinds, F_check_kinds⟩ := c.def_ 10 (d := dd_check_kinds) rfl
  obtain ⟨fd_flip, F_flip⟩ := c.def_ 11 (d := dd_flip) rfl
  obtain ⟨fd_terms_among, F_terms_among⟩ := c.def_ 12 (d := dd_terms_among) rfl
  obtain ⟨fd_is_word_and, F_is_word_and⟩ := c.def_ 13 (d := dd_is_word_and) rfl
  obtain ⟨fd_is_free_sentence, F_is_free_sentence⟩ := c.def_ 14 (d := dd_is_free_sentence) rfl
  obtain ⟨fd_is_sentence_over, F_is_sentence_over⟩ := c.def_ 15 (d := dd_is_sentence_over) rfl
  obtain ⟨fd_is_question_over, F_is_question_over⟩ := c.def_ 16 (d := dd_is_question_over) rfl
  obtain ⟨fd_check_question, F_check_question⟩ := c.def_ 17 (d := dd_check_question) rfl
  obtain ⟨fd_contrary_of, F_contrary_of⟩ := c.def_ 18 (d := dd_contrary_of) rfl
  obtain ⟨fd_mirror_of, F_mirror_of⟩ := c.def_ 19 (d := dd_mirror_of) rfl
  obtain ⟨fd_plain_of, F_plain_of⟩ := c.def_ 20 (d := dd_plain_of) rfl
  obtain ⟨fd_check_free, F_check_free⟩ := c.def_ 21 (d := dd_check_free) rfl
  obtain ⟨fd_contrary, F_contrary⟩ := c.def_ 22 (d := dd_contrary) rfl
  obtain ⟨fd_mirror, F_mirror⟩ := c.def_ 23 (d := dd_mirror) rfl
  obtain ⟨fd_plain, F_plain⟩ := c.def_ 24 (d := dd_plain) rfl
  obtain ⟨fd_always_holds, F_always_holds⟩ := c.def_ 25 (d := dd_always_holds) rfl
  obtain ⟨fd_by_itself, F_by_itself⟩ := c.def_ 26 (d := dd_by_itself) rfl
  obtain ⟨fd_plain_sentences_over, F_plain_sentences_over⟩ := c.def_ 27 (d := dd_plain_sentences_over) rfl
  obtain ⟨fd_plain_sentences, F_plain_sentences⟩ := c.def_ 28 (d := dd_plain_sentences) rfl
  obtain ⟨fd_parts_of, F_parts_of⟩ := c.def_ 29 (d := dd_parts_of) rfl
  obtain ⟨fd_is_sort_over, F_is_sort_over⟩ := c.def_ 30 (d := dd_is_sort_over) rfl
  obtain ⟨fd_is_world_over, F_is_world_over⟩ := c.def_ 31 (d := dd_is_world_over) rfl
  obtain ⟨fd_check_world, F_check_world⟩ := c.def_ 32 (d := dd_check_world) rfl
  obtain ⟨fd_Measure__meets, F_Measure__meets⟩ := c.def_ 33 (d := dd_Measure__meets) rfl
  obtain ⟨fd_Measure__keeps, F_Measure__keeps⟩ := c.def_ 34 (d := dd_Measure__keeps) rfl
  obtain ⟨fd_Measure__keeps_all, F_Measure__keeps_all⟩ := c.def_ 35 (d := dd_Measure__keeps_all) rfl
  obtain ⟨fd_Measure____init__, F_Measure____init__⟩ := c.def_ 36 (d := dd_Measure____init__) rfl
  obtain ⟨fd_keeps_all, F_keeps_all⟩ := c.def_ 37 (d := dd_keeps_all) rfl
  obtain ⟨fd_holds, F_holds⟩ := c.def_ 38 (d := dd_holds) rfl
  obtain ⟨fd_n__law_stream, F_n__law_stream⟩ := c.def_ 39 (d := dd_n__law_stream) rfl
  obtain ⟨fd_n__law_next, F_n__law_next⟩ := c.def_ 40 (d := dd_n__law_next) rfl
  obtain ⟨fd_n__law_pick, F_n__law_pick⟩ := c.def_ 41 (d := dd_n__law_pick) rfl
  obtain ⟨fd_n__law_says, F_n__law_says⟩ := c.def_ 42 (d := dd_n__law_says) rfl
  obtain ⟨fd_n__law_same, F_n__law_same⟩ := c.def_ 43 (d := dd_n__law_same) rfl
  obtain ⟨fd_n__law_kind, F_n__law_kind⟩ := c.def_ 44 (d := dd_n__law_kind) rfl
  obtain ⟨fd_n__law_kinds, F_n__law_kinds⟩ := c.def_ 45 (d := dd_n__law_kinds) rfl
  obtain ⟨fd_n__law_bit, F_n__law_bit⟩ := c.def_ 46 (d := dd_n__law_bit) rfl
  obtain ⟨fd_n__law_flip, F_n__law_flip⟩ := c.def_ 47 (d := dd_n__law_flip) rfl
  obtain ⟨fd_n__law_sentence, F_n__law_sentence⟩ := c.def_ 48 (d := dd_n__law_sentence) rfl
  obtain ⟨fd_n__law_mirror, F_n__law_mirror⟩ := c.def_ 49 (d := dd_n__law_mirror) rfl
  obtain ⟨fd_n__law_contrary, F_n__law_contrary⟩ := c.def_ 50 (d := dd_n__law_contrary) rfl
  obtain ⟨fd_n__law_terms, F_n__law_terms⟩ := c.def_ 51 (d := dd_n__law_terms) rfl
  obtain ⟨fd_n__law_plain_all, F_n__law_plain_all⟩ := c.def_ 52 (d := dd_n__law_plain_all) rfl
  obtain ⟨fd_n__law_world, F_n__law_world⟩ := c.def_ 53 (d := dd_n__law_world) rfl
  obtain ⟨fd_n__law_alone, F_n__law_alone⟩ := c.def_ 54 (d := dd_n__law_alone) rfl
  obtain ⟨fd_n__law_ones, F_n__law_ones⟩ := c.def_ 55 (d := dd_n__law_ones) rfl
  obtain ⟨fd_n__law_forms, F_n__law_forms⟩ := c.def_ 56 (d := dd_n__law_forms) rfl
  obtain ⟨fd_n__law_by_one, F_n__law_by_one⟩ := c.def_ 57 (d := dd_n__law_by_one) rfl
  obtain ⟨fd_n__law_held, F_n__law_held⟩ := c.def_ 58 (d := dd_n__law_held) rfl
  obtain ⟨fd_law, F_law⟩ := c.def_ 59 (d := dd_law) rfl
  obtain ⟨fdi_BadValue, Fi_BadValue⟩ := c.def_ 60 (d := ddi_BadValue) rfl
  have e := hfa0.symm.trans (He.glo_ok X G (c.fact 55 (f := .glo "law") rfl))
  cases e
  refine ⟨fd_law, fun s v => FunD.bindsA (ps := ["script"]) F_law (fun _ _ _ _ _ _ us hl => match us, hl with | [_], _ => rfl) s [v] rfl, fun base _ _ => ?_⟩
  have o_BadValue := xcB_ok xc_BadValue
  have xs : Xs P w K mg base := {
    tab := fun n C hn hm => (fun h => tab_one (He.glo_ok X G (c.fact 56 (f := .glo "BadValue") rfl)) o_BadValue (by decide +kernel) h hm) (fs_cases hn)
    at_ := fun cn f hf => by
      unfold AT at hf
      repeat
        split at hf
        · rename_i ec
          subst ec
          simp only [List.mem_cons, List.not_mem_nil, or_false] at hf
          first
            | (rcases hf with rfl | rfl | rfl | rfl <;> first | exact ⟨He.cls_ok (c.fact 58 (f := .cls "Measure") rfl), He.noat_ok (c.fact 59 (f := .noat "Measure" "many") rfl)⟩ | exact ⟨He.cls_ok (c.fact 58 (f := .cls "Measure") rfl), He.noat_ok (c.fact 60 (f := .noat "Measure" "masks") rfl)⟩ | exact ⟨He.cls_ok (c.fact 58 (f := .cls "Measure") rfl), He.noat_ok (c.fact 61 (f := .noat "Measure" "numbers") rfl)⟩ | exact ⟨He.cls_ok (c.fact 58 (f := .cls "Measure") rfl), He.noat_ok (c.fact 62 (f := .noat "Measure" "sizes") rfl)⟩)
      cases hf
    c_BadValue := XCls.of o_BadValue (He.glo_ok X G (c.fact 56 (f := .glo "BadValue") rfl)) (ok_ini_BadValue Fi_BadValue) (Fi_BadValue.bindsN fun _ _ _ _ _ _ us hl => match us, hl with | [_, _], _ => rfl)
  }
  have k_law0 : FnOk P w K mg base (L2N.CX P w) 8 (He.ga K "law") fd_law P_law (spOf P w K mg f_law) := by
    have k_is_integer : FnOk P w K mg base (L2N.CX P w) 1 _ fd_is_integer P_is_integer (spOf P w K mg f_is_integer) := ok_is_integer fr xs  F_is_integer
    have d_is_integer_1 : Def P w K mg base (L2N.CX P w) 1 "is_integer" [] f_is_integer := Def.mk0 F_is_integer k_is_integer (He.glo_ok X G (c.fact 0 (f := .glo "is_integer") rfl)) fun _ _ _ _ _ _ us hl => match us, hl with | [_], _ => rfl
    have k_is_bit : FnOk P w K mg base (L2N.CX P w) 1 _ fd_is_bit P_is_bit (spOf P w K mg f_is_bit) := ok_is_bit fr xs  F_is_bit
    have d_is_bit_1 : Def P w K mg base (L2N.CX P w) 1 "is_bit" [] f_is_bit := Def.mk0 F_is_bit k_is_bit (He.glo_ok X G (c.fact 1 (f := .glo "is_bit") rfl)) fun _ _ _ _ _ _ us hl => match us, hl with | [_], _ => rfl
    have k_is_from_to : FnOk P w K mg base (L2N.CX P w) 2 _ fd_is_from_to P_is_from_to (spOf P w K mg f_is_from_to) := ok_is_from_to fr xs d_is_integer_1 F_is_from_to
    have d_is_from_to_3 : Def P w K mg base (L2N.CX P w) 2 "is_from_to" [] f_is_from_to := Def.mk0 F_is_from_to k_is_from_to (He.glo_ok X G (c.fact 2 (f := .glo "is_from_to") rfl)) fun _ _ _ _ _ _ us hl => match us, hl with | [_, _, _], _ => rfl
    have k_is_tuple_of : FnOk P w K mg base (L2N.CX P w) 1 _ fd_is_tuple_of P_is_tuple_of (spOf P w K mg f_is_tuple_of) := ok_is_tuple_of fr xs  F_is_tuple_of
    have d_is_tuple_of_3 : Def P w K mg base (L2N.CX P w) 1 "is_tuple_of" [] f_is_tuple_of := Def.mk0 F_is_tuple_of k_is_tuple_of (He.glo_ok X G (c.fact 3 (f := .glo "is_tuple_of") rfl)) fun _ _ _ _ _ _ us hl => match us, hl with | [_, _, _], _ => rfl
    have k_is_ascending : FnOk P w K mg base (L2N.CX P w) 1 _ fd_is_ascending P_is_ascending (spOf P w K mg f_is_ascending) := ok_is_ascending fr xs  F_is_ascending
    have d_is_ascending_1 : Def P w K mg base (L2N.CX P w) 1 "is_ascending" [] f_is_ascending := Def.mk0 F_is_ascending k_is_ascending (He.glo_ok X G (c.fact 4 (f := .glo "is_ascending") rfl)) fun _ _ _ _ _ _ us hl => match us, hl with | [_], _ => rfl
    have k_is_kind : FnOk P w K mg base (L2N.CX P w) 1 _ fd_is_kind P_is_kind (spOf P w K mg f_is_kind) := ok_is_kind fr xs  F_is_kind
    have d_is_kind_1 : Def P w K mg base (L2N.CX P w) 1 "is_kind" [] f_is_kind := Def.mk0 F_is_kind k_is_kind (He.glo_ok X G (c.fact 5 (f := .glo "is_kind") rfl)) fun _ _ _ _ _ _ us hl => match us, hl with | [_], _ => rfl
    have k_is_kind_row : FnOk P w K mg base (L2N.CX P w) 2 _ fd_is_kind_row P_is_kind_row (spOf P w K mg f_is_kind_row) := ok_is_kind_row fr xs d_is_ascending_1 d_is_kind_1 d_is_tuple_of_3 F_is_kind_row
    have d_is_kind_row_2 : Def P w K mg base (L2N.CX P w) 2 "is_kind_row" [] f_is_kind_row := Def.mk0 F_is_kind_row k_is_kind_row (He.glo_ok X G (c.fact 6 (f := .glo "is_kind_row") rfl)) fun _ _ _ _ _ _ us hl => match us, hl with | [_, _], _ => rfl
    have k_is_kinds : FnOk P w K mg base (L2N.CX P w) 3 _ fd_is_kinds P_is_kinds (spOf P w K mg f_is_kinds) := ok_is_kinds fr xs d_is_kind_row_2 F_is_kinds
    have d_is_kinds_1 : Def P w K mg base (L2N.CX P w) 3 "is_kinds" [] f_is_kinds := Def.mk0 F_is_kinds k_is_kinds (He.glo_ok X G (c.fact 7 (f := .glo "is_kinds") rfl)) fun _ _ _ _ _ _ us hl => match us, hl with | [_], _ => rfl
    have k_is_free_term : FnOk P w K mg base (L2N.CX P w) 2 _ fd_is_free_term P_is_free_term (spOf P w K mg f_is_free_term) := ok_is_free_term fr xs d_is_bit_1 d_is_kind_1 d_is_tuple_of_3 F_is_free_term
    have d_is_free_term_1 : Def P w K mg base (L2N.CX P w) 2 "is_free_term" [] f_is_free_term := Def.mk0 F_is_free_term k_is_free_term (He.glo_ok X G (c.fact 8 (f := .glo "is_free_term") rfl)) fun _ _ _ _ _ _ us hl => match us, hl with | [_], _ => rfl
    have k_is_term_over : FnOk P w K mg base (L2N.CX P w) 2 _ fd_is_term_over P_is_term_over (spOf P w K mg f_is_term_over) := ok_is_term_over fr xs d_is_bit_1 d_is_tuple_of_3 F_is_term_over
    have d_is_term_over_2 : Def P w K mg base (L2N.CX P w) 2 "is_term_over" [] f_is_term_over := Def.mk0 F_is_term_over k_is_term_over (He.glo_ok X G (c.fact 9 (f := .glo "is_term_over") rfl)) fun _ _ _ _ _ _ us hl => match us, hl with | [_, _], _ => rfl
    have k_check_kinds : FnOk P w K mg base (L2N.CX P w) 4 _ fd_check_kinds P_check_kinds (spOf P w K mg f_check_kinds) := ok_check_kinds fr xs d_is_kinds_1 F_check_kinds
    have d_check_kinds_1 : Def P w K mg base (L2N.CX P w) 4 "check_kinds" [.str "kinds"] f_check_kinds := Def.mk1 1 0 F_check_kinds k_check_kinds (He.glo_ok X G (c.fact 10 (f := .glo "check_kinds") rfl)) (by simp [He.DefD.dvs, dd_check_kinds]) rfl (fun _ _ => .cons (.str "kinds") (.nil)) fun _ _ _ _ _ _ _ us its hl hi => match us, its, hl, hi with | [_], [_], _, _ => ⟨_, rfl, rfl⟩
    have k_flip : FnOk P w K mg base (L2N.CX P w) 1 _ fd_flip P_flip (spOf P w K mg f_flip) := ok_flip fr xs  F_flip
    have d_flip_1 : Def P w K mg base (L2N.CX P w) 1 "flip" [] f_flip := Def.mk0 F_flip k_flip (He.glo_ok X G (c.fact 11 (f := .glo "flip") rfl)) fun _ _ _ _ _ _ us hl => match us, hl with | [_], _ => rfl
    have k_terms_among : FnOk P w K mg base (L2N.CX P w) 1 _ fd_terms_among P_terms_among (spOf P w K mg f_terms_among) := ok_terms_among fr xs  F_terms_among
    have d_terms_among_1 : Def P w K mg base (L2N.CX P w) 1 "terms_among" [] f_terms_among := Def.mk0 F_terms_among k_terms_among (He.glo_ok X G (c.fact 12 (f := .glo "terms_among") rfl)) fun _ _ _ _ _ _ us hl => match us, hl with | [_], _ => rfl
    have k_is_word_and : FnOk P w K mg base (L2N.CX P w) 2 _ fd_is_word_and P_is_word_and (spOf P w K mg f_is_word_and) := ok_is_word_and fr xs d_is_tuple_of_3 F_is_word_and
    have d_is_word_and_2 : Def P w K mg base (L2N.CX P w) 2 "is_word_and" [] f_is_word_and := Def.mk0 F_is_word_and k_is_word_and (He.glo_ok X G (c.fact 13 (f := .glo "is_word_and") rfl)) fun _ _ _ _ _ _ us hl => match us, hl with | [_, _], _ => rfl
    have k_is_free_sentence : FnOk P w K mg base (L2N.CX P w) 3 _ fd_is_free_sentence P_is_free_sentence (spOf P w K mg f_is_free_sentence) := ok_is_free_sentence fr xs d_is_free_term_1 d_is_word_and_2 F_is_free_sentence
    have d_is_free_sentence_1 : Def P w K mg base (L2N.CX P w) 3 "is_free_sentence" [] f_is_free_sentence := Def.mk0 F_is_free_sentence k_is_free_sentence (He.glo_ok X G (c.fact 14 (f := .glo "is_free_sentence") rfl)) fun _ _ _ _ _ _ us hl => match us, hl with | [_], _ => rfl
    have k_is_sentence_over : FnOk P w K mg base (L2N.CX P w) 3 _ fd_is_sentence_over P_is_sentence_over (spOf P w K mg f_is_sentence_over) := ok_is_sentence_over fr xs d_is_term_over_2 d_is_word_and_2 F_is_sentence_over
    have d_is_sentence_over_2 : Def P w K mg base (L2N.CX P w) 3 "is_sentence_over" [] f_is_sentence_over := Def.mk0 F_is_sentence_over k_is_sentence_over (He.glo_ok X G (c.fact 15 (f := .glo "is_sentence_over") rfl)) fun _ _ _ _ _ _ us hl => match us, hl with | [_, _], _ => rfl
    have k_is_question_over : FnOk P w K mg base (L2N.CX P w) 4 _ fd_is_question_over P_is_question_over (spOf P w K mg f_is_question_over) := ok_is_question_over fr xs d_is_sentence_over_2 d_is_tuple_of_3 F_is_question_over
    have d_is_question_over_2 : Def P w K mg base (L2N.CX P w) 4 "is_question_over" [] f_is_question_over := Def.mk0 F_is_question_over k_is_question_over (He.glo_ok X G (c.fact 16 (f := .glo "is_question_over") rfl)) fun _ _ _ _ _ _ us hl => match us, hl with | [_, _], _ => rfl
    have k_check_question : FnOk P w K mg base (L2N.CX P w) 5 _ fd_check_question P_check_question (spOf P w K mg f_check_question) := ok_check_question fr xs d_is_question_over_2 F_check_question
    have d_check_question_2 : Def P w K mg base (L2N.CX P w) 5 "check_question" [.str "question"] f_check_question := Def.mk1 2 0 F_check_question k_check_question (He.glo_ok X G (c.fact 17 (f := .glo "check_question") rfl)) (by simp [He.DefD.dvs, dd_check_question]) rfl (fun _ _ => .cons (.str "question") (.nil)) fun _ _ _ _ _ _ _ us its hl hi => match us, its, hl, hi with | [_, _], [_], _, _ => ⟨_, rfl, rfl⟩
    have k_contrary_of : FnOk P w K mg base (L2N.CX P w) 2 _ fd_contrary_of P_contrary_of (spOf P w K mg f_contrary_of) := ok_contrary_of fr xs d_flip_1 F_contrary_of
    have d_contrary_of_1 : Def P w K mg base (L2N.CX P w) 2 "contrary_of" [] f_contrary_of := Def.mk0 F_contrary_of k_contrary_of (He.glo_ok X G (c.fact 18 (f := .glo "contrary_of") rfl)) fun _ _ _ _ _ _ us hl => match us, hl with | [_], _ => rfl
    have k_mirror_of : FnOk P w K mg base (L2N.CX P w) 2 _ fd_mirror_of P_mirror_of (spOf P w K mg f_mirror_of) := ok_mirror_of fr xs d_flip_1 F_mirror_of
    have d_mirror_of_1 : Def P w K mg base (L2N.CX P w) 2 "mirror_of" [] f_mirror_of := Def.mk0 F_mirror_of k_mirror_of (He.glo_ok X G (c.fact 19 (f := .glo "mirror_of") rfl)) fun _ _ _ _ _ _ us hl => match us, hl with | [_], _ => rfl
    have k_plain_of : FnOk P w K mg base (L2N.CX P w) 3 _ fd_plain_of P_plain_of (spOf P w K mg f_plain_of) := ok_plain_of fr xs d_mirror_of_1 F_plain_of
    have d_plain_of_1 : Def P w K mg base (L2N.CX P w) 3 "plain_of" [] f_plain_of := Def.mk0 F_plain_of k_plain_of (He.glo_ok X G (c.fact 20 (f := .glo "plain_of") rfl)) fun _ _ _ _ _ _ us hl => match us, hl with | [_], _ => rfl
    have k_check_free : FnOk P w K mg base (L2N.CX P w) 4 _ fd_check_free P_check_free (spOf P w K mg f_check_free) := ok_check_free fr xs d_is_free_sentence_1 F_check_free
    have d_check_free_1 : Def P w K mg base (L2N.CX P w) 4 "check_free" [] f_check_free := Def.mk0 F_check_free k_check_free (He.glo_ok X G (c.fact 21 (f := .glo "check_free") rfl)) fun _ _ _ _ _ _ us hl => match us, hl with | [_], _ => rfl
    have k_contrary : FnOk P w K mg base (L2N.CX P w) 5 _ fd_contrary P_contrary (spOf P w K mg f_contrary) := ok_contrary fr xs d_check_free_1 d_contrary_of_1 F_contrary
    have d_contrary_1 : Def P w K mg base (L2N.CX P w) 5 "contrary" [] f_contrary := Def.mk0 F_contrary k_contrary (He.glo_ok X G (c.fact 22 (f := .glo "contrary") rfl)) fun _ _ _ _ _ _ us hl => match us, hl with | [_], _ => rfl
    have k_mirror : FnOk P w K mg base (L2N.CX P w) 5 _ fd_mirror P_mirror (spOf P w K mg f_mirror) := ok_mirror fr xs d_check_free_1 d_mirror_of_1 F_mirror
    have d_mirror_1 : Def P w K mg base (L2N.CX P w) 5 "mirror" [] f_mirror := Def.mk0 F_mirror k_mirror (He.glo_ok X G (c.fact 23 (f := .glo "mirror") rfl)) fun _ _ _ _ _ _ us hl => match us, hl with | [_], _ => rfl
    have k_plain : FnOk P w K mg base (L2N.CX P w) 5 _ fd_plain P_plain (spOf P w K mg f_plain) := ok_plain fr xs d_check_free_1 d_plain_of_1 F_plain
    have d_plain_1 : Def P w K mg base (L2N.CX P w) 5 "plain" [] f_plain := Def.mk0 F_plain k_plain (He.glo_ok X G (c.fact 24 (f := .glo "plain") rfl)) fun _ _ _ _ _ _ us hl => match us, hl with | [_], _ => rfl
    have k_always_holds : FnOk P w K mg base (L2N.CX P w) 1 _ fd_always_holds P_always_holds (spOf P w K mg f_always_holds) := ok_always_holds fr xs  F_always_holds
    have d_always_holds_1 : Def P w K mg base (L2N.CX P w) 1 "always_holds" [] f_always_holds := Def.mk0 F_always_holds k_always_holds (He.glo_ok X G (c.fact 25 (f := .glo "always_holds") rfl)) fun _ _ _ _ _ _ us hl => match us, hl with | [_], _ => rfl
    have k_by_itself : FnOk P w K mg base (L2N.CX P w) 5 _ fd_by_itself P_by_itself (spOf P w K mg f_by_itself) := ok_by_itself fr xs d_always_holds_1 d_check_free_1 d_contrary_of_1 F_by_itself
    have d_by_itself_1 : Def P w K mg base (L2N.CX P w) 5 "by_itself" [] f_by_itself := Def.mk0 F_by_itself k_by_itself (He.glo_ok X G (c.fact 26 (f := .glo "by_itself") rfl)) fun _ _ _ _ _ _ us hl => match us, hl with | [_], _ => rfl
    have k_plain_sentences_over : FnOk P w K mg base (L2N.CX P w) 3 _ fd_plain_sentences_over P_plain_sentences_over (spOf P w K mg f_plain_sentences_over) := ok_plain_sentences_over fr xs d_mirror_of_1 d_terms_among_1 F_plain_sentences_over
    have d_plain_sentences_over_1 : Def P w K mg base (L2N.CX P w) 3 "plain_sentences_over" [] f_plain_sentences_over := Def.mk0 F_plain_sentences_over k_plain_sentences_over (He.glo_ok X G (c.fact 27 (f := .glo "plain_sentences_over") rfl)) fun _ _ _ _ _ _ us hl => match us, hl with | [_], _ => rfl
    have k_plain_sentences : FnOk P w K mg base (L2N.CX P w) 5 _ fd_plain_sentences P_plain_sentences (spOf P w K mg f_plain_sentences) := ok_plain_sentences fr xs d_check_kinds_1 d_plain_sentences_over_1 F_plain_sentences
    have d_plain_sentences_1 : Def P w K mg base (L2N.CX P w) 5 "plain_sentences" [] f_plain_sentences := Def.mk0 F_plain_sentences k_plain_sentences (He.glo_ok X G (c.fact 28 (f := .glo "plain_sentences") rfl)) fun _ _ _ _ _ _ us hl => match us, hl with | [_], _ => rfl
    have k_parts_of : FnOk P w K mg base (L2N.CX P w) 1 _ fd_parts_of P_parts_of (spOf P w K mg f_parts_of) := ok_parts_of fr xs  F_parts_of
    have d_parts_of_1 : Def P w K mg base (L2N.CX P w) 1 "parts_of" [] f_parts_of := Def.mk0 F_parts_of k_parts_of (He.glo_ok X G (c.fact 29 (f := .glo "parts_of") rfl)) fun _ _ _ _ _ _ us hl => match us, hl with | [_], _ => rfl
    have k_is_sort_over : FnOk P w K mg base (L2N.CX P w) 3 _ fd_is_sort_over P_is_sort_over (spOf P w K mg f_is_sort_over) := ok_is_sort_over fr xs d_is_from_to_3 d_is_tuple_of_3 F_is_sort_over
    have d_is_sort_over_2 : Def P w K mg base (L2N.CX P w) 3 "is_sort_over" [] f_is_sort_over := Def.mk0 F_is_sort_over k_is_sort_over (He.glo_ok X G (c.fact 30 (f := .glo "is_sort_over") rfl)) fun _ _ _ _ _ _ us hl => match us, hl with | [_, _], _ => rfl
    have k_is_world_over : FnOk P w K mg base (L2N.CX P w) 4 _ fd_is_world_over P_is_world_over (spOf P w K mg f_is_world_over) := ok_is_world_over fr xs d_is_sort_over_2 d_is_tuple_of_3 F_is_world_over
    have d_is_world_over_2 : Def P w K mg base (L2N.CX P w) 4 "is_world_over" [] f_is_world_over := Def.mk0 F_is_world_over k_is_world_over (He.glo_ok X G (c.fact 31 (f := .glo "is_world_over") rfl)) fun _ _ _ _ _ _ us hl => match us, hl with | [_, _], _ => rfl
    have k_check_world : FnOk P w K mg base (L2N.CX P w) 5 _ fd_check_world P_check_world (spOf P w K mg f_check_world) := ok_check_world fr xs d_is_world_over_2 F_check_world
    have d_check_world_2 : Def P w K mg base (L2N.CX P w) 5 "check_world" [.str "world"] f_check_world := Def.mk1 2 0 F_check_world k_check_world (He.glo_ok X G (c.fact 32 (f := .glo "check_world") rfl)) (by simp [He.DefD.dvs, dd_check_world]) rfl (fun _ _ => .cons (.str "world") (.nil)) fun _ _ _ _ _ _ _ us its hl hi => match us, its, hl, hi with | [_, _], [_], _, _ => ⟨_, rfl, rfl⟩
    have k_Measure__meets : FnOk P w K mg base (L2N.CX P w) 1 _ fd_Measure__meets P_Measure__meets (spOf P w K mg f_Measure__meets) := ok_Measure__meets fr xs  F_Measure__meets
    have dm_Measure__meets : DefMe P w K mg base (L2N.CX P w) 1 "Measure" "meets" f_Measure__meets := ⟨_, _, _, k_Measure__meets, He.cls_ok (c.fact 58 (f := .cls "Measure") rfl), He.meth_ok (c.fact 63 (f := .meth "Measure" "meets") rfl), (F_Measure__meets.bindsN fun _ _ _ _ _ _ us hl => match us, hl with | [_, _, _], _ => rfl)⟩
    have k_Measure__keeps : FnOk P w K mg base (L2N.CX P w) 2 _ fd_Measure__keeps P_Measure__keeps (spOf P w K mg f_Measure__keeps) := ok_Measure__keeps fr xs d_flip_1 dm_Measure__meets F_Measure__keeps
    have dm_Measure__keeps : DefMe P w K mg base (L2N.CX P w) 2 "Measure" "keeps" f_Measure__keeps := ⟨_, _, _, k_Measure__keeps, He.cls_ok (c.fact 58 (f := .cls "Measure") rfl), He.meth_ok (c.fact 64 (f := .meth "Measure" "keeps") rfl), (F_Measure__keeps.bindsN fun _ _ _ _ _ _ us hl => match us, hl with | [_, _], _ => rfl)⟩
    have k_Measure__keeps_all : FnOk P w K mg base (L2N.CX P w) 3 _ fd_Measure__keeps_all P_Measure__keeps_all (spOf P w K mg f_Measure__keeps_all) := ok_Measure__keeps_all fr xs dm_Measure__keeps F_Measure__keeps_all
    have dm_Measure__keeps_all : DefMe P w K mg base (L2N.CX P w) 3 "Measure" "keeps_all" f_Measure__keeps_all := ⟨_, _, _, k_Measure__keeps_all, He.cls_ok (c.fact 58 (f := .cls "Measure") rfl), He.meth_ok (c.fact 65 (f := .meth "Measure" "keeps_all") rfl), (F_Measure__keeps_all.bindsN fun _ _ _ _ _ _ us hl => match us, hl with | [_, _], _ => rfl)⟩
    have k_Measure____init__ : FnOk P w K mg base (L2N.CX P w) 1 _ fd_Measure____init__ P_Measure____init__ (spOf P w K mg f_Measure____init__) := ok_Measure____init__ fr xs  F_Measure____init__
    have dc_Measure : DefC P w K mg base (L2N.CX P w) 1 "Measure" f_Measure____init__ := ⟨_, _, _, k_Measure____init__, He.mkr_ok (c.fact 66 (f := .mkr "Measure") rfl), (He.glo_ok X G (c.fact 57 (f := .glo "Measure") rfl)), (F_Measure____init__.bindsN fun _ _ _ _ _ _ us hl => match us, hl with | [_, _, _], _ => rfl)⟩
    have k_keeps_all : FnOk P w K mg base (L2N.CX P w) 4 _ fd_keeps_all P_keeps_all (spOf P w K mg f_keeps_all) := ok_keeps_all fr xs dm_Measure__keeps_all dc_Measure F_keeps_all
    have d_keeps_all_3 : Def P w K mg base (L2N.CX P w) 4 "keeps_all" [] f_keeps_all := Def.mk0 F_keeps_all k_keeps_all (He.glo_ok X G (c.fact 33 (f := .glo "keeps_all") rfl)) fun _ _ _ _ _ _ us hl => match us, hl with | [_, _, _], _ => rfl
    have k_holds : FnOk P w K mg base (L2N.CX P w) 6 _ fd_holds P_holds (spOf P w K mg f_holds) := ok_holds fr xs d_check_kinds_1 d_check_question_2 d_check_world_2 d_keeps_all_3 d_parts_of_1 F_holds
    have d_holds_3 : Def P w K mg base (L2N.CX P w) 6 "holds" [] f_holds := Def.mk0 F_holds k_holds (He.glo_ok X G (c.fact 34 (f := .glo "holds") rfl)) fun _ _ _ _ _ _ us hl => match us, hl with | [_, _, _], _ => rfl
    have k_n__law_stream : FnOk P w K mg base (L2N.CX P w) 1 _ fd_n__law_stream P_n__law_stream (spOf P w K mg f_n__law_stream) := ok_n__law_stream fr xs  F_n__law_stream
    have d_n__law_stream_1 : Def P w K mg base (L2N.CX P w) 1 "_law_stream" [] f_n__law_stream := Def.mk0 F_n__law_stream k_n__law_stream (He.glo_ok X G (c.fact 35 (f := .glo "_law_stream") rfl)) fun _ _ _ _ _ _ us hl => match us, hl with | [_], _ => rfl
    have k_n__law_next : FnOk P w K mg base (L2N.CX P w) 1 _ fd_n__law_next P_n__law_next (spOf P w K mg f_n__law_next) := ok_n__law_next fr xs  F_n__law_next
    have d_n__law_next_2 : Def P w K mg base (L2N.CX P w) 1 "_law_next" [] f_n__law_next := Def.mk0 F_n__law_next k_n__law_next (He.glo_ok X G (c.fact 36 (f := .glo "_law_next") rfl)) fun _ _ _ _ _ _ us hl => match us, hl with | [_, _], _ => rfl
    have k_n__law_pick : FnOk P w K mg base (L2N.CX P w) 2 _ fd_n__law_pick P_n__law_pick (spOf P w K mg f_n__law_pick) := ok_n__law_pick fr xs d_n__law_next_2 F_n__law_pick
    have d_n__law_pick_2 : Def P w K mg base (L2N.CX P w) 2 "_law_pick" [] f_n__law_pick := Def.mk0 F_n__law_pick k_n__law_pick (He.glo_ok X G (c.fact 37 (f := .glo "_law_pick") rfl)) fun _ _ _ _ _ _ us hl => match us, hl with | [_, _], _ => rfl
    have k_n__law_says : FnOk P w K mg base (L2N.CX P w) 1 _ fd_n__law_says P_n__law_says (spOf P w K mg f_n__law_says) := ok_n__law_says fr xs  F_n__law_says
    have d_n__law_says_2 : Def P w K mg base (L2N.CX P w) 1 "_law_says" [] f_n__law_says := Def.mk0 F_n__law_says k_n__law_says (He.glo_ok X G (c.fact 38 (f := .glo "_law_says") rfl)) fun _ _ _ _ _ _ us hl => match us, hl with | [_, _], _ => rfl
    have k_n__law_same : FnOk P w K mg base (L2N.CX P w) 1 _ fd_n__law_same P_n__law_same (spOf P w K mg f_n__law_same) := ok_n__law_same fr xs  F_n__law_same
    have d_n__law_same_2 : Def P w K mg base (L2N.CX P w) 1 "_law_same" [] f_n__law_same := Def.mk0 F_n__law_same k_n__law_same (He.glo_ok X G (c.fact 39 (f := .glo "_law_same") rfl)) fun _ _ _ _ _ _ us hl => match us, hl with | [_, _], _ => rfl
    have k_n__law_kind : FnOk P w K mg base (L2N.CX P w) 3 _ fd_n__law_kind P_n__law_kind (spOf P w K mg f_n__law_kind) := ok_n__law_kind fr xs d_n__law_next_2 d_n__law_pick_2 F_n__law_kind
    have d_n__law_kind_1 : Def P w K mg base (L2N.CX P w) 3 "_law_kind" [] f_n__law_kind := Def.mk0 F_n__law_kind k_n__law_kind (He.glo_ok X G (c.fact 40 (f := .glo "_law_kind") rfl)) fun _ _ _ _ _ _ us hl => match us, hl with | [_], _ => rfl
    have k_n__law_kinds : FnOk P w K mg base (L2N.CX P w) 4 _ fd_n__law_kinds P_n__law_kinds (spOf P w K mg f_n__law_kinds) := ok_n__law_kinds fr xs d_n__law_kind_1 d_n__law_next_2 F_n__law_kinds
    have d_n__law_kinds_2 : Def P w K mg base (L2N.CX P w) 4 "_law_kinds" [] f_n__law_kinds := Def.mk0 F_n__law_kinds k_n__law_kinds (He.glo_ok X G (c.fact 41 (f := .glo "_law_kinds") rfl)) fun _ _ _ _ _ _ us hl => match us, hl with | [_, _], _ => rfl
    have k_n__law_bit : FnOk P w K mg base (L2N.CX P w) 2 _ fd_n__law_bit P_n__law_bit (spOf P w K mg f_n__law_bit) := ok_n__law_bit fr xs d_n__law_next_2 F_n__law_bit
    have d_n__law_bit_1 : Def P w K mg base (L2N.CX P w) 2 "_law_bit" [] f_n__law_bit := Def.mk0 F_n__law_bit k_n__law_bit (He.glo_ok X G (c.fact 42 (f := .glo "_law_bit") rfl)) fun _ _ _ _ _ _ us hl => match us, hl with | [_], _ => rfl
    have k_n__law_flip : FnOk P w K mg base (L2N.CX P w) 1 _ fd_n__law_flip P_n__law_flip (spOf P w K mg f_n__law_flip) := ok_n__law_flip fr xs  F_n__law_flip
    have d_n__law_flip_1 : Def P w K mg base (L2N.CX P w) 1 "_law_flip" [] f_n__law_flip := Def.mk0 F_n__law_flip k_n__law_flip (He.glo_ok X G (c.fact 43 (f := .glo "_law_flip") rfl)) fun _ _ _ _ _ _ us hl => match us, hl with | [_], _ => rfl
    have k_n__law_sentence : FnOk P w K mg base (L2N.CX P w) 3 _ fd_n__law_sentence P_n__law_sentence (spOf P w K mg f_n__law_sentence) := ok_n__law_sentence fr xs d_n__law_bit_1 d_n__law_next_2 d_n__law_pick_2 F_n__law_sentence
    have d_n__law_sentence_2 : Def P w K mg base (L2N.CX P w) 3 "_law_sentence" [] f_n__law_sentence := Def.mk0 F_n__law_sentence k_n__law_sentence (He.glo_ok X G (c.fact 44 (f := .glo "_law_sentence") rfl)) fun _ _ _ _ _ _ us hl => match us, hl with | [_, _], _ => rfl
    have k_n__law_mirror : FnOk P w K mg base (L2N.CX P w) 2 _ fd_n__law_mirror P_n__law_mirror (spOf P w K mg f_n__law_mirror) := ok_n__law_mirror fr xs d_n__law_flip_1 F_n__law_mirror
    have d_n__law_mirror_1 : Def P w K mg base (L2N.CX P w) 2 "_law_mirror" [] f_n__law_mirror := Def.mk0 F_n__law_mirror k_n__law_mirror (He.glo_ok X G (c.fact 45 (f := .glo "_law_mirror") rfl)) fun _ _ _ _ _ _ us hl => match us, hl with | [_], _ => rfl
    have k_n__law_contrary : FnOk P w K mg base (L2N.CX P w) 2 _ fd_n__law_contrary P_n__law_contrary (spOf P w K mg f_n__law_contrary) := ok_n__law_contrary fr xs d_n__law_flip_1 F_n__law_contrary
    have d_n__law_contrary_1 : Def P w K mg base (L2N.CX P w) 2 "_law_contrary" [] f_n__law_contrary := Def.mk0 F_n__law_contrary k_n__law_contrary (He.glo_ok X G (c.fact 46 (f := .glo "_law_contrary") rfl)) fun _ _ _ _ _ _ us hl => match us, hl with | [_], _ => rfl
    have k_n__law_terms : FnOk P w K mg base (L2N.CX P w) 1 _ fd_n__law_terms P_n__law_terms (spOf P w K mg f_n__law_terms) := ok_n__law_terms fr xs  F_n__law_terms
    have d_n__law_terms_1 : Def P w K mg base (L2N.CX P w) 1 "_law_terms" [] f_n__law_terms := Def.mk0 F_n__law_terms k_n__law_terms (He.glo_ok X G (c.fact 47 (f := .glo "_law_terms") rfl)) fun _ _ _ _ _ _ us hl => match us, hl with | [_], _ => rfl
    have k_n__law_plain_all : FnOk P w K mg base (L2N.CX P w) 3 _ fd_n__law_plain_all P_n__law_plain_all (spOf P w K mg f_n__law_plain_all) := ok_n__law_plain_all fr xs d_n__law_mirror_1 d_n__law_terms_1 F_n__law_plain_all
    have d_n__law_plain_all_1 : Def P w K mg base (L2N.CX P w) 3 "_law_plain_all" [] f_n__law_plain_all := Def.mk0 F_n__law_plain_all k_n__law_plain_all (He.glo_ok X G (c.fact 48 (f := .glo "_law_plain_all") rfl)) fun _ _ _ _ _ _ us hl => match us, hl with | [_], _ => rfl
    have k_n__law_world : FnOk P w K mg base (L2N.CX P w) 3 _ fd_n__law_world P_n__law_world (spOf P w K mg f_n__law_world) := ok_n__law_world fr xs d_n__law_bit_1 d_n__law_next_2 d_n__law_pick_2 F_n__law_world
    have d_n__law_world_3 : Def P w K mg base (L2N.CX P w) 3 "_law_world" [] f_n__law_world := Def.mk0 F_n__law_world k_n__law_world (He.glo_ok X G (c.fact 49 (f := .glo "_law_world") rfl)) fun _ _ _ _ _ _ us hl => match us, hl with | [_, _, _], _ => rfl
    have k_n__law_alone : FnOk P w K mg base (L2N.CX P w) 2 _ fd_n__law_alone P_n__law_alone (spOf P w K mg f_n__law_alone) := ok_n__law_alone fr xs d_n__law_flip_1 F_n__law_alone
    have d_n__law_alone_1 : Def P w K mg base (L2N.CX P w) 2 "_law_alone" [] f_n__law_alone := Def.mk0 F_n__law_alone k_n__law_alone (He.glo_ok X G (c.fact 50 (f := .glo "_law_alone") rfl)) fun _ _ _ _ _ _ us hl => match us, hl with | [_], _ => rfl
    have k_n__law_ones : FnOk P w K mg base (L2N.CX P w) 1 _ fd_n__law_ones P_n__law_ones (spOf P w K mg f_n__law_ones) := ok_n__law_ones fr xs  F_n__law_ones
    have d_n__law_ones_1 : Def P w K mg base (L2N.CX P w) 1 "_law_ones" [] f_n__law_ones := Def.mk0 F_n__law_ones k_n__law_ones (He.glo_ok X G (c.fact 51 (f := .glo "_law_ones") rfl)) fun _ _ _ _ _ _ us hl => match us, hl with | [_], _ => rfl
    have k_n__law_forms : FnOk P w K mg base (L2N.CX P w) 6 _ fd_n__law_forms P_n__law_forms (spOf P w K mg f_n__law_forms) := ok_n__law_forms fr xs d_n__law_alone_1 d_n__law_contrary_1 d_n__law_mirror_1 d_n__law_same_2 d_by_itself_1 d_contrary_1 d_mirror_1 d_plain_1 F_n__law_forms
    have d_n__law_forms_1 : Def P w K mg base (L2N.CX P w) 6 "_law_forms" [] f_n__law_forms := Def.mk0 F_n__law_forms k_n__law_forms (He.glo_ok X G (c.fact 52 (f := .glo "_law_forms") rfl)) fun _ _ _ _ _ _ us hl => match us, hl with | [_], _ => rfl
    have k_n__law_by_one : FnOk P w K mg base (L2N.CX P w) 7 _ fd_n__law_by_one P_n__law_by_one (spOf P w K mg f_n__law_by_one) := ok_n__law_by_one fr xs d_n__law_ones_1 d_by_itself_1 d_holds_3 F_n__law_by_one
    have d_n__law_by_one_1 : Def P w K mg base (L2N.CX P w) 7 "_law_by_one" [] f_n__law_by_one := Def.mk0 F_n__law_by_one k_n__law_by_one (He.glo_ok X G (c.fact 53 (f := .glo "_law_by_one") rfl)) fun _ _ _ _ _ _ us hl => match us, hl with | [_], _ => rfl
    have k_n__law_held : FnOk P w K mg base (L2N.CX P w) 7 _ fd_n__law_held P_n__law_held (spOf P w K mg f_n__law_held) := ok_n__law_held fr xs d_n__law_says_2 d_contrary_1 d_holds_3 d_mirror_1 d_plain_1 F_n__law_held
    have d_n__law_held_3 : Def P w K mg base (L2N.CX P w) 7 "_law_held" [] f_n__law_held := Def.mk0 F_n__law_held k_n__law_held (He.glo_ok X G (c.fact 54 (f := .glo "_law_held") rfl)) fun _ _ _ _ _ _ us hl => match us, hl with | [_, _, _], _ => rfl
    have k_law : FnOk P w K mg base (L2N.CX P w) 8 _ fd_law P_law (spOf P w K mg f_law) := ok_law fr xs d_n__law_by_one_1 d_n__law_forms_1 d_n__law_held_3 d_n__law_kinds_2 d_n__law_next_2 d_n__law_pick_2 d_n__law_plain_all_1 d_n__law_same_2 d_n__law_sentence_2 d_n__law_stream_1 d_n__law_world_3 d_plain_sentences_1 F_law
    exact k_law
  exact fnOk0 k_law0
end G
/-- the row, from the plain law on the mirror -/
theorem G.holds_of (hlaw : ∀ ns : List Int, ns.length ≤ 63 → ∃ h', G.f_law [.scr (ns.map .int)] [] = .ok (.bl true) h') : PySem.Challenge.rw_morethan_k02_whole_contraries_and_mirror.Holds := by
  open PySem PySem.W PySem.Calls PyProof.Rows in
  w_on; o_law
  refine HandSHeadRun.head_any (r := OpenLaw.row PySem.Challenge.rw_morethan_k02_whole_contraries_and_mirror) (q := view (OpenLaw.row PySem.Challenge.rw_morethan_k02_whole_contraries_and_mirror).prog [69]) (H := G.hk) (ob := G.hob) (M := 4000) (loose := G.loose) (d := HandSHeadRun.topDef (OpenLaw.row PySem.Challenge.rw_morethan_k02_whole_contraries_and_mirror).prog 69) (kwd := []) G.hob_eq
    (by kernel_rfl) (fun s => by kernel_rfl) G.run (by kernel_rfl) (by kernel_rfl) (by kernel_rfl) (by rfl) (by first | assumption | decide +kernel) (by decide +kernel) ⟨rfl, rfl, rfl, rfl, rfl, by decide +kernel⟩ ?hw ?hc
  case hw => w_witness2
  case hc =>
    refine L2.walk_ofE (l := PySem.Challenge.rw_morethan_k02_whole_contraries_and_mirror) (n := 63) (k := 8) (x := "script") (CX := L2.CX0) rfl (by decide) (by kernel_rfl) ⟨rfl, by decide, by decide⟩ ?F (fun _ _ _ _ z => z)
    intro w mg fa h Y G hmg0
    obtain ⟨K, KX, c⟩ := Y
    have hmg : mg ("law" : PySem.Str) = some (.ref fa) := by
      have e : (HandSHeadRun.topDef (OpenLaw.row PySem.Challenge.rw_morethan_k02_whole_contraries_and_mirror).prog 69).name = ("law" : PySem.Str) := by kernel_rfl
      rw [← e]
      exact hmg0
    obtain ⟨fd, hb, hF⟩ := _root_.G.facts (P := (PySem.Challenge.rw_morethan_k02_whole_contraries_and_mirror).prog) (w := w) KX G hmg c
    exact ⟨K, fd, (fun vs H Q _ => _root_.Q.spOf (PySem.Challenge.rw_morethan_k02_whole_contraries_and_mirror).prog w K mg _root_.G.f_law vs H Q fun _ _ _ => False), KX, hb, fun H a ns hl hO hS => Q.sp_law hlaw hl hO hS, hF⟩

namespace P
open PySem PySem.Spec PyProof.Rows L2 Q G
variable {h : AH} {i j k : Int} {s t : Str} {b : Bool} {ds : List Q.D}
theorem r_is_integer : f_is_integer [.int i] h = .ok (.bl true) h := by
  rw [e_is_integer]
  simp [m_is_integer, trim_same]
theorem r_is_bit : f_is_bit [.bl b] h = .ok (.bl true) h := by
  rw [e_is_bit]
  simp [m_is_bit, trim_same]
theorem r_is_from_to : f_is_from_to [.int i, .int j, .int k] h = .ok (.bl (decide (j ≤ i) && decide (i ≤ k))) h := by
  rw [e_is_from_to]
  simp [m_is_from_to, trim_same, r_is_integer]
theorem r_is_tuple_of : f_is_tuple_of [.tup ds, .int j, .int k] h = .ok (.bl (decide (j ≤ ds.length) && decide (ds.length ≤ k))) h := by
  rw [e_is_tuple_of]
  simp [m_is_tuple_of, trim_same]
/-! ### kinds -/
def low (c : Nat) : Prop := 97 ≤ c ∧ c ≤ 122
def dig (c : Nat) : Prop := 48 ≤ c ∧ c ≤ 57
structure Kind (s : Str) : Prop where
  len : s.cps.size ≤ 12
  fst : ∃ c r, s.cps.toList = c :: r ∧ low c
  all : ∀ c ∈ s.cps.toList, low c ∨ dig c
theorem one_lt {c d : Nat} : strLt ⟨#[c]⟩ ⟨#[d]⟩ = decide (c < d) := by
  unfold strLt
  rw [Bool.eq_iff_iff]
  simp [List.cons_lt_cons_iff]
theorem Kind.pos (K : Kind s) : 1 ≤ s.cps.size := by
  obtain ⟨c, r, e, _⟩ := K.fst
  rw [← Array.length_toList, e]; simp
theorem r_is_kind (K : Kind s) : f_is_kind [.str s] h = .ok (.bl true) h := by
  have h1 := K.pos
  have h2 := K.len
  obtain ⟨c, r, e, hc⟩ := K.fst
  rw [e_is_kind]
  have hl : s.length = s.cps.size := rfl
  have e1 : ("a" : Str) = ⟨#[97]⟩ := rfl
  have e2 : ("z" : Str) = ⟨#[122]⟩ := rfl
  have e3 : ("0" : Str) = ⟨#[48]⟩ := rfl
  have e4 : ("9" : Str) = ⟨#[57]⟩ := rfl
  have e0 : atI s.cps.toList 0 = some c := by rw [e]; simp
  have hn : ¬((s.cps.size : Int) < 1 ∨ 12 < (s.cps.size : Int)) := by omega
  obtain ⟨c1, c2⟩ := hc
  have d1 : decide (c < 97) = false := decide_eq_false (by omega)
  have d2 : decide (122 < c) = false := decide_eq_false (by omega)
  simp [m_is_kind, len_str' (s := s) (h := h) (by omega), hl, ix_str'' (s := s) (h := h) (by omega), e0, K_MOST_SIGNS, hn, e1, e2, e3, e4, one_lt, d1, d2]
  rw [lc_all trivial]
  · simp [all_true, trim_same]
  · intro d hd
    obtain ⟨c', hc', rfl⟩ := List.mem_map.mp hd
    refine ⟨_, rfl, ?_⟩
    rcases K.all c' hc' with ⟨q1, q2⟩ | ⟨q1, q2⟩
    · have d1 : decide (c' < 97) = false := decide_eq_false (by omega)
      have d2 : decide (122 < c') = false := decide_eq_false (by omega)
      simp [one_lt, d1, d2, wipeA]
    · have d1 : decide (c' < 48) = false := decide_eq_false (by omega)
      have d2 : decide (57 < c') = false := decide_eq_false (by omega)
      simp [one_lt, d1, d2, wipeA]
  · simp
    omega
def ksD (ks : List Str) : Q.D := .tup (ks.map .str)
/-- ascending -/
def Asc (ks : List Str) : Prop := ks.Pairwise fun a b => strLt a b = true
structure Kinds (ks : List Str) : Prop where
  kind : ∀ k ∈ ks, Kind k
  asc : Asc ks
  pos : 1 ≤ ks.length
  most : ks.length ≤ 30
variable {ks : List Str}
theorem r_is_ascending (ha : Asc ks) (hl : ks.length ≤ 1000) : f_is_ascending [ksD ks] h = .ok (.bl true) h := by
  rw [e_is_ascending]
  have hb : -(2 ^ 62 : Int) ≤ (ks.length : Int) - 1 ∧ (ks.length : Int) - 1 < 2 ^ 62 := by omega
  simp [m_is_ascending, ksD, rngK_of hb.1 hb.2]
  rw [lc_all trivial]
  · simp [trim_same]
  · intro d hd
    obtain ⟨i, hi, rfl⟩ := mem_rangeD hd
    refine ⟨_, rfl, ?_⟩
    have h1 : i < ks.length := by omega
    have h2 : i + 1 < ks.length := by omega
    have a1 : atI (ks.map D.str) (i : Int) = some (.str ks[i]) := atI_n (by simp [h1])
    have a2 : atI (ks.map D.str) ((i : Int) + 1) = some (.str ks[i + 1]) := by
      have := atI_n (xs := ks.map D.str) (n := i + 1) (x := .str ks[i + 1]) (by simp [h2])
      simpa using this
    have lt : strLt ks[i] ks[i + 1] = true := List.pairwise_iff_getElem.mp ha i (i + 1) h1 h2 (by omega)
    simp [wipeA, a1, a2, lt]
  · simp
    omega
theorem r_is_kind_row (K : Kinds ks) : f_is_kind_row [ksD ks, .int 1] h = .ok (.bl true) h := by
  have h1 := K.pos
  have h2 := K.most
  rw [e_is_kind_row]
  have ha := r_is_ascending (h := h) K.asc (by omega)
  have ht : f_is_tuple_of [ksD ks, .int 1, .int 30] h = .ok (.bl true) h := by
    rw [ksD, r_is_tuple_of]
    simp
    omega
  simp [m_is_kind_row, K_MOST_KINDS, ha, ht]
  unfold ksD
  simp
  rw [lc_all trivial]
  · simp [trim_same]
    rw [← ksD, ha]
    simp [trim_same]
  · intro d hd
    obtain ⟨k, hk, rfl⟩ := List.mem_map.mp hd
    exact ⟨_, rfl, by simp [wipeA, r_is_kind (K.kind k hk)]⟩
  · simp
    omega
theorem r_is_kinds (K : Kinds ks) : f_is_kinds [ksD ks] h = .ok (.bl true) h := by
  rw [e_is_kinds]
  simp [m_is_kinds, r_is_kind_row K, trim_same]
theorem r_check_kinds (K : Kinds ks) {x : Q.D} : f_check_kinds [ksD ks, x] h = .ok .non h := by
  rw [e_check_kinds]
  simp [m_check_kinds, r_is_kinds K, trim_same]
end P

namespace P
open PySem PySem.Spec PyProof.Rows L2 Q G
variable {h : AH} {i j k : Int} {s t : Str} {b : Bool} {ds : List Q.D} {ks os : List Str}
/-! ### terms, sentences -/
abbrev Tm := Str × Bool
def tmD (t : Tm) : Q.D := .tup [.str t.1, .bl t.2]
def flp (t : Tm) : Tm := (t.1, !t.2)
structure Sen where
  w : Str
  a : Tm
  b : Tm
  deriving DecidableEq
def snD (s : Sen) : Q.D := .tup [.str s.w, tmD s.a, tmD s.b]
def WD : List Str := ["all", "many", "more", "some"]
@[simp] theorem w_all_some : ((("all" : Str) = "some") ↔ False) := by decide
@[simp] theorem w_all_more : ((("all" : Str) = "more") ↔ False) := by decide
@[simp] theorem w_all_many : ((("all" : Str) = "many") ↔ False) := by decide
@[simp] theorem w_some_all : ((("some" : Str) = "all") ↔ False) := by decide
@[simp] theorem w_some_more : ((("some" : Str) = "more") ↔ False) := by decide
@[simp] theorem w_some_many : ((("some" : Str) = "many") ↔ False) := by decide
@[simp] theorem w_more_all : ((("more" : Str) = "all") ↔ False) := by decide
@[simp] theorem w_more_some : ((("more" : Str) = "some") ↔ False) := by decide
@[simp] theorem w_more_many : ((("more" : Str) = "many") ↔ False) := by decide
@[simp] theorem w_many_all : ((("many" : Str) = "all") ↔ False) := by decide
@[simp] theorem w_many_some : ((("many" : Str) = "some") ↔ False) := by decide
@[simp] theorem w_many_more : ((("many" : Str) = "more") ↔ False) := by decide
/-- a sentence over the kinds -/
structure Over (ks : List Str) (s : Sen) : Prop where
  w : s.w ∈ WD
  a : s.a.1 ∈ ks
  b : s.b.1 ∈ ks
/-- .. about any kinds -/
structure Free (s : Sen) : Prop where
  w : s.w ∈ WD
  a : Kind s.a.1
  b : Kind s.b.1
theorem Over.free {s : Sen} (o : Over ks s) (K : ∀ k ∈ ks, Kind k) : Free s := ⟨o.w, K _ o.a, K _ o.b⟩
section
variable {t : Tm} {s : Sen}
@[simp] theorem ix_tm0 : dIx (tmD t) (.int 0) h = some (.str t.1, h) := by simp [tmD]
@[simp] theorem ix_tm1 : dIx (tmD t) (.int 1) h = some (.bl t.2, h) := by simp [tmD]
@[simp] theorem ix_sn0 : dIx (snD s) (.int 0) h = some (.str s.w, h) := by simp [snD]
@[simp] theorem ix_sn1 : dIx (snD s) (.int 1) h = some (tmD s.a, h) := by simp [snD]
@[simp] theorem ix_sn2 : dIx (snD s) (.int 2) h = some (tmD s.b, h) := by simp [snD]
theorem pd_tm : pd (tmD t) = some (.tuple [.str t.1, .bool t.2]) := rfl
theorem eqv_tm {u : Tm} : PyData.eqv (.tuple [.str t.1, .bool t.2]) (.tuple [.str u.1, .bool u.2]) = decide (t = u) := by
  simp only [PyData.eqv, PyData.eqvAll]
  rw [beq_dec, beq_dec, Bool.eq_iff_iff]
  simp [Prod.ext_iff]
@[simp] theorem eq_tm {u : Tm} : dEq (tmD t) (tmD u) h = some (.bl (decide (t = u)), h) :=
  cmp_is (p := .tuple [.str t.1, .bool t.2]) (q := .tuple [.str u.1, .bool u.2]) rfl rfl rfl (by simp [PyData.depth, PyData.depthAll]) eqv_tm
end
theorem r_flip {t : Tm} : f_flip [tmD t] h = .ok (tmD (flp t)) h := by
  rw [e_flip]
  simp [m_flip, flp, trim_same]
  rfl
theorem r_is_tuple_tm {t : Tm} : f_is_tuple_of [tmD t, .int 2, .int 2] h = .ok (.bl true) h := by
  simp [tmD, r_is_tuple_of]
theorem r_is_free_term {t : Tm} (K : Kind t.1) : f_is_free_term [tmD t] h = .ok (.bl true) h := by
  rw [e_is_free_term]
  simp [m_is_free_term, r_is_tuple_tm, r_is_kind K, r_is_bit, trim_same]
theorem r_is_term_over {t : Tm} (K : t.1 ∈ ks) : f_is_term_over [ksD ks, tmD t] h = .ok (.bl true) h := by
  rw [e_is_term_over]
  simp [m_is_term_over, ksD, r_is_tuple_tm, r_is_bit, trim_same, in_tup, K]
theorem K_WORDS_eq : K_WORDS = .tup (WD.map .str) := rfl
theorem r_is_word_and {s : Sen} (hw : s.w ∈ WD) : f_is_word_and [snD s, .int 3] h = .ok (.bl true) h := by
  have e : f_is_tuple_of [snD s, .int 3, .int 3] h = .ok (.bl true) h := by simp [snD, r_is_tuple_of]
  rw [e_is_word_and]
  simp [m_is_word_and, e, trim_same, K_WORDS_eq, in_tup, hw]
theorem r_is_word_not {ss : List Sen} : f_is_word_and [.tup (ss.map snD), .int 3] h = .ok (.bl false) h := by
  rw [e_is_word_and]
  simp [m_is_word_and, r_is_tuple_of]
  by_cases hl : ss.length = 3
  · match ss, hl with
    | [a, b, c], _ => simp [snD, trim_same]
  · have hn : ¬ ((3 : Int) ≤ ss.length ∧ (ss.length : Int) ≤ 3) := by omega
    simp [hn, trim_same]
theorem r_is_free_sentence {s : Sen} (F : Free s) : f_is_free_sentence [snD s] h = .ok (.bl true) h := by
  rw [e_is_free_sentence]
  simp [m_is_free_sentence, r_is_word_and F.w, r_is_free_term F.a, r_is_free_term F.b, trim_same]
theorem r_is_sentence_over {s : Sen} (O : Over ks s) : f_is_sentence_over [ksD ks, snD s] h = .ok (.bl true) h := by
  rw [e_is_sentence_over]
  simp [m_is_sentence_over, r_is_word_and O.w, r_is_term_over O.a, r_is_term_over O.b, trim_same]
theorem r_is_sentence_not {ss : List Sen} {x : Q.D} : f_is_sentence_over [x, .tup (ss.map snD)] h = .ok (.bl false) h := by
  rw [e_is_sentence_over]
  simp [m_is_sentence_over, r_is_word_not, trim_same]
/-! ### questions -/
inductive Qn where
  | one (s : Sen) | many (ss : List Sen)
def qnD : Qn → Q.D
  | .one s => snD s
  | .many ss => .tup (ss.map snD)
def OverQ (ks : List Str) : Qn → Prop
  | .one s => Over ks s
  | .many ss => 1 ≤ ss.length ∧ ss.length ≤ 40 ∧ ∀ s ∈ ss, Over ks s
theorem r_is_question_over {q : Qn} (O : OverQ ks q) : f_is_question_over [ksD ks, qnD q] h = .ok (.bl true) h := by
  rw [e_is_question_over]
  cases q with
  | one s =>
    simp [m_is_question_over, qnD, r_is_sentence_over (show Over ks s from O), trim_same]
  | many ss =>
    obtain ⟨o1, o2, o3⟩ := O
    have ht : f_is_tuple_of [.tup (ss.map snD), .int 1, .int 40] h = .ok (.bl true) h := by
      rw [r_is_tuple_of]
      simp
      omega
    simp [m_is_question_over, qnD, r_is_sentence_not, ht, K_MOST_PARTS]
    rw [lc_all trivial]
    · simp [trim_same]
    · intro d hd
      obtain ⟨s, hs, rfl⟩ := List.mem_map.mp hd
      exact ⟨_, rfl, by simp [wipeA, r_is_sentence_over (o3 s hs)]⟩
    · simp
      omega
theorem r_check_question {q : Qn} (O : OverQ ks q) {x : Q.D} : f_check_question [ksD ks, qnD q, x] h = .ok .non h := by
  rw [e_check_question]
  simp [m_check_question, r_is_question_over O, trim_same]
/-! ### contrary, mirror, by_itself -/
def cont (s : Sen) : Sen := if s.w = "all" then ⟨"some", s.a, flp s.b⟩ else if s.w = "some" then ⟨"all", s.a, flp s.b⟩ else ⟨if s.w = "more" then "many" else "more", s.b, s.a⟩
def mir (s : Sen) : Sen := if s.w = "some" then ⟨s.w, s.b, s.a⟩ else ⟨s.w, flp s.b, flp s.a⟩
def alw (s : Sen) : Bool := decide (s.a = s.b) && (decide (s.w = "all") || decide (s.w = "many"))
def its (s : Sen) : Str := if alw s = true then "always" else if alw (cont s) = true then "never" else "open"
theorem r_contrary_of {s : Sen} : f_contrary_of [snD s] h = .ok (snD (cont s)) h := by
  rw [e_contrary_of]
  simp [m_contrary_of, snD]
  unfold cont
  by_cases h1 : s.w = "all"
  · simp [h1, r_flip, trim_same]
  · by_cases h2 : s.w = "some"
    · simp [h1, h2, r_flip, trim_same]
    · by_cases h3 : s.w = "more" <;> simp [h1, h2, h3, trim_same]
theorem r_mirror_of {s : Sen} : f_mirror_of [snD s] h = .ok (snD (mir s)) h := by
  rw [e_mirror_of]
  simp [m_mirror_of, snD]
  unfold mir
  by_cases h1 : s.w = "some" <;> simp [h1, r_flip, trim_same]
theorem r_check_free {s : Sen} (F : Free s) : f_check_free [snD s] h = .ok .non h := by
  rw [e_check_free]
  simp [m_check_free, r_is_free_sentence F, trim_same]
theorem r_contrary {s : Sen} (F : Free s) : f_contrary [snD s] h = .ok (snD (cont s)) h := by
  rw [e_contrary]
  simp [m_contrary, r_check_free F, r_contrary_of, trim_same]
theorem r_mirror {s : Sen} (F : Free s) : f_mirror [snD s] h = .ok (snD (mir s)) h := by
  rw [e_mirror]
  simp [m_mirror, r_check_free F, r_mirror_of, trim_same]
theorem r_always_holds {s : Sen} : f_always_holds [snD s] h = .ok (.bl (alw s)) h := by
  rw [e_always_holds]
  simp [m_always_holds, alw, trim_same]
theorem r_by_itself {s : Sen} (F : Free s) : f_by_itself [snD s] h = .ok (.str (its s)) h := by
  rw [e_by_itself]
  simp [m_by_itself, r_check_free F, r_always_holds, r_contrary_of]
  unfold its
  cases h1 : alw s <;> cases h2 : alw (cont s) <;> simp [trim_same, r_contrary_of, r_always_holds, h1, h2]
end P

namespace P
open PySem PySem.Spec PyProof.Rows L2 Q G
variable {h : AH} {i j k : Int} {s t : Str} {b : Bool} {ds : List Q.D} {ks os : List Str}
/-! ### entries as keys -/
abbrev En := Int × Sen
def enD (e : En) : Q.D := .tup [.int e.1, snD e.2]
def tmK (t : Tm) : NestedKey := .tup [.text t.1, .num (if t.2 = true then 1 else 0)]
def snK (s : Sen) : NestedKey := .tup [.text s.w, tmK s.a, tmK s.b]
def enK (e : En) : NestedKey := .tup [.num e.1, snK e.2]
theorem nk_tm (t : Tm) : nk (tmD t) = some (tmK t) := rfl
theorem nk_sn (s : Sen) : nk (snD s) = some (snK s) := rfl
theorem nk_en (e : En) : nk (enD e) = some (enK e) := rfl
theorem tmK_inj {t u : Tm} (e : tmK t = tmK u) : t = u := by
  obtain ⟨a, b⟩ := t
  obtain ⟨c, d⟩ := u
  simp only [tmK, NestedKey.tup.injEq, List.cons.injEq, NestedKey.text.injEq, NestedKey.num.injEq, and_true] at e
  obtain ⟨rfl, e⟩ := e
  cases b <;> cases d <;> simp_all
theorem snK_inj {t u : Sen} (e : snK t = snK u) : t = u := by
  obtain ⟨a, b, c⟩ := t
  obtain ⟨a', b', c'⟩ := u
  simp only [snK, NestedKey.tup.injEq, List.cons.injEq, NestedKey.text.injEq, and_true] at e
  obtain ⟨rfl, e1, e2⟩ := e
  rw [tmK_inj e1, tmK_inj e2]
theorem enK_inj {t u : En} (e : enK t = enK u) : t = u := by
  obtain ⟨a, b⟩ := t
  obtain ⟨a', b'⟩ := u
  simp only [enK, NestedKey.tup.injEq, List.cons.injEq, NestedKey.num.injEq, and_true] at e
  obtain ⟨rfl, e1⟩ := e
  rw [snK_inj e1]
@[simp] theorem clo_tm {n : Nat} {t : Tm} : closed n (tmD t) = true := rfl
@[simp] theorem clo_sn {n : Nat} {s : Sen} : closed n (snD s) = true := rfl
@[simp] theorem clo_en {n : Nat} {e : En} : closed n (enD e) = true := rfl
def EN : KeyEnc En where
  enc := enD
  key := enK
  nk := nk_en
  dep := fun e => by simp [enK, snK, tmK, NestedKey.depth, NestedKey.depthAll]
  inj := fun _ _ => enK_inj
  tup := fun e => ⟨_, rfl⟩
  clo := fun _ _ => rfl
/-! ### without_doubles -/
end P

namespace P
open PySem PySem.Spec PyProof.Rows L2 Q G
variable {h : AH} {i j k : Int} {s t : Str} {b : Bool} {ds : List Q.D} {ks os : List Str}
/-! ### books -/
structure Entry (ks : List Str) (e : En) : Prop where
  lo : 0 ≤ e.1
  hi : e.1 ≤ 5
  ov : Over ks e.2
@[simp] theorem ix_en0 {e : En} : dIx (enD e) (.int 0) h = some (.int e.1, h) := by simp [enD]
@[simp] theorem ix_en1 {e : En} : dIx (enD e) (.int 1) h = some (snD e.2, h) := by simp [enD]
def bkD (ks : List Str) (es : List En) : Q.D := .tup [ksD ks, .tup (es.map enD)]
structure Book (ks : List Str) (es : List En) : Prop where
  kinds : Kinds ks
  ent : ∀ e ∈ es, Entry ks e
  most : es.length ≤ 150
  nodup : es.Nodup
@[simp] theorem ix_bk0 {es : List En} : dIx (bkD ks es) (.int 0) h = some (ksD ks, h) := by simp [bkD]
@[simp] theorem ix_bk1 {es : List En} : dIx (bkD ks es) (.int 1) h = some (.tup (es.map enD), h) := by simp [bkD]
/-! ### translations -/
def tsD (ts : List Tm) : Q.D := .tup (ts.map tmD)
/-- terms over the kinds os, one for each of ks -/
structure Terms (ks os : List Str) (ts : List Tm) : Prop where
  len : ts.length = ks.length
  ov : ∀ t ∈ ts, t.1 ∈ os
/-- the term for a kind -/
def lk : List Str → List Tm → Str → Tm
  | k :: ks, t :: ts, x => if k = x then t else lk ks ts x
  | _, _, x => (x, true)
def tr (ks : List Str) (ts : List Tm) (t : Tm) : Tm := if t.2 = true then lk ks ts t.1 else flp (lk ks ts t.1)
def trS (ks : List Str) (ts : List Tm) (s : Sen) : Sen := ⟨s.w, tr ks ts s.a, tr ks ts s.b⟩
def trQ (ks : List Str) (ts : List Tm) : Qn → Qn
  | .one s => .one (trS ks ts s)
  | .many ss => .many (ss.map (trS ks ts))
/-- the table of the translations -/
def Tab (ks : List Str) (ts : List Tm) (tab : List (Q.D × Q.D)) : Prop := ∀ t : Tm, t.1 ∈ ks → dtGet tab (tmK t) = some (tmD (tr ks ts t))
theorem tkey_tm {t : Tm} : tkey (tmD t) = some (tmK t) := by
  unfold tkey tmD
  dsimp only
  exact if_pos (by simp [tmK, NestedKey.depth, NestedKey.depthAll])
theorem set_tm {tab : List (Q.D × Q.D)} {t : Tm} {v : Q.D} (hl : tab.length < 16777216) : dSet (.ref h.length) (tmD t) v (h ++ [.dt tab]) = some (h ++ [.dt (dtPut tab (tmD t) (tmK t) v)]) := by
  unfold dSet
  dsimp only
  rw [last_get]
  dsimp only
  rw [tkey_tm]
  dsimp only
  rw [if_pos hl, last_set]
theorem trim_dt {tab : List (Q.D × Q.D)} {bb : Bool} : trimR h bb (.ok (.ref h.length) (h ++ [.dt tab])) = .ok (.ref h.length) (h ++ [.dt tab]) := by
  rw [trimR_ok]
  have h1 : ¬ (h ++ [O.dt tab]).length = h.length := by simp
  have h2 : ¬ (okT h (h ++ [.dt tab]) ∧ closed h.length (.ref h.length) = true) := fun z => by simp [closed] at z
  rw [if_neg h1, if_neg h2]
  have h3 : froOf bb h.length (h ++ [.dt tab]) (.ref h.length) = none := by
    unfold froOf
    dsimp only
    split
    · unfold Q.listAt
      rw [last_get]
      rfl
    · rfl
  rw [h3]
end P

namespace P
open PySem PySem.Spec PyProof.Rows L2 Q G
variable {h : AH} {i j k : Int} {s t : Str} {b : Bool} {ds : List Q.D} {ks os : List Str}
/-! ### translated -/
theorem ix_tab {tab : List (Q.D × Q.D)} {ts : List Tm} (T : Tab ks ts tab) {t : Tm} (m : t.1 ∈ ks) {g : AH} (n : Nat) (e : objAt g (.ref n) = some (.dt tab)) : dIx (.ref n) (tmD t) g = some (tmD (tr ks ts t), g) := by
  unfold dIx
  rw [e]
  dsimp only
  rw [tkey_tm]
  dsimp only
  rw [T t m]
  rfl
theorem clo_sns {n : Nat} : ∀ ss : List Sen, closeds n (ss.map snD) = true
  | [] => rfl
  | s :: ss => by rw [List.map_cons, closeds, clo_sn, clo_sns ss]; rfl
@[simp] theorem clo_qn {n : Nat} {q : Qn} : closed n (qnD q) = true := by
  cases q with
  | one s => rfl
  | many ss => rw [qnD, closed]; exact clo_sns ss
@[simp] theorem isi_tup_sn {s : Sen} : isiK "tuple" h (snD s) = .ok (.bl true) h := by simp [snD]
@[simp] theorem isi_str_sn {s : Sen} : isiK "str" h (snD s) = .ok (.bl false) h := by simp [snD]
/-! ### what comes out is over the other kinds -/
theorem lk_mem : ∀ {ks : List Str} {ts : List Tm} {x : Str}, x ∈ ks → ts.length = ks.length → lk ks ts x ∈ ts
  | [], _, _, m, _ => by cases m
  | k :: ks, [], _, _, l => by cases l
  | k :: ks, t :: ts, x, m, l => by
    rw [lk]
    split
    · exact List.mem_cons_self
    · rename_i hn
      rcases List.mem_cons.mp m with e | m
      · exact absurd e.symm hn
      · exact List.mem_cons_of_mem _ (lk_mem m (by simpa using l))
theorem tr_over {ts : List Tm} (T : Terms ks os ts) {t : Tm} (m : t.1 ∈ ks) : (tr ks ts t).1 ∈ os := by
  have h1 := T.ov _ (lk_mem m T.len)
  unfold tr flp
  split <;> exact h1
theorem trS_over {ts : List Tm} (T : Terms ks os ts) {s : Sen} (O : Over ks s) : Over os (trS ks ts s) := ⟨O.w, tr_over T O.a, tr_over T O.b⟩
theorem trQ_over {ts : List Tm} (T : Terms ks os ts) {q : Qn} (O : OverQ ks q) : OverQ os (trQ ks ts q) := by
  cases q with
  | one s => exact trS_over T O
  | many ss =>
    obtain ⟨o1, o2, o3⟩ := O
    refine ⟨by simpa using o1, by simpa using o2, fun s hs => ?_⟩
    obtain ⟨s', hs', rfl⟩ := List.mem_map.mp hs
    exact trS_over T (o3 s' hs')
/-! ### books translated -/
def trE (ks : List Str) (ts : List Tm) (e : En) : En := (e.1, trS ks ts e.2)
theorem clo_ens {n : Nat} : ∀ es : List En, closeds n (es.map enD) = true
  | [] => rfl
  | s :: ss => by rw [List.map_cons, closeds, clo_en, clo_ens ss]; rfl
theorem clo_ks {n : Nat} : closed n (ksD ks) = true := by
  have : ∀ ks : List Str, closeds n (ks.map .str) = true := fun ks => by
    induction ks with
    | nil => rfl
    | cons k ks ih => rw [List.map_cons, closeds, ih]; rfl
  rw [ksD, closed]; exact this ks
theorem clo_bk {n : Nat} {es : List En} : closed n (bkD ks es) = true := by
  rw [bkD, closed, closeds, closeds, closeds, clo_ks, closed, clo_ens]; rfl
end P

namespace P
open PySem PySem.Spec PyProof.Rows L2 Q G
variable {h : AH} {i j k : Int} {s t : Str} {b : Bool} {ds : List Q.D} {ks os : List Str}
/-! ### _law_same -/
mutual
/-- its parts, if it is plain -/
def sz : Q.D → Nat
  | .tup ds => szs ds + 1
  | .fro ds => szs ds + 1
  | .scr ds => 1
  | .ref _ => 1
  | .non => 1
  | .bl _ => 1
  | .int _ => 1
  | .str _ => 1
  | .exn _ _ _ _ _ => 1
def szs : List Q.D → Nat
  | [] => 0
  | d :: ds => sz d + szs ds
end
mutual
def pln : Q.D → Bool
  | .tup ds => plns ds
  | .fro ds => plns ds
  | .scr ds => false
  | .ref _ => false
  | .non => true
  | .bl _ => true
  | .int _ => true
  | .str _ => true
  | .exn _ _ _ _ _ => false
def plns : List Q.D → Bool
  | [] => true
  | d :: ds => pln d && plns ds
end
theorem sz_pos (d : Q.D) : 1 ≤ sz d := by cases d <;> simp [sz]
theorem szs_app : ∀ (as bs : List Q.D), szs (as ++ bs) = szs as + szs bs
  | [], bs => by simp [szs]
  | a :: as, bs => by rw [List.cons_append, szs, szs, szs_app as bs]; omega
theorem plns_app : ∀ (as bs : List Q.D), plns (as ++ bs) = (plns as && plns bs)
  | [], bs => by simp [plns]
  | a :: as, bs => by rw [List.cons_append, plns, plns, plns_app as bs, Bool.and_assoc]
theorem szs_len : ∀ (as : List Q.D), as.length ≤ szs as
  | [] => by simp [szs]
  | a :: as => by
    have := szs_len as
    have := sz_pos a
    rw [szs, List.length_cons]; omega
def dup (d : Q.D) : Q.D := .tup [d, d]
theorem range_dup {es : List Q.D} : (List.range es.length).map (fun i => match es[i]? with | some d => dup d | none => .non) = es.map dup := by
  apply List.ext_getElem?
  intro i
  by_cases hi : i < es.length
  · simp [hi]
  · simp [hi]
theorem dups_get {es : List Q.D} {i : Nat} : (es.map dup)[i]? = (es[i]?).map dup := by simp
@[simp] theorem run_dup {gs : List Q.D → AS → AH → Option (AS × AH)} {d : Q.D} {σ : AS} : gTupD 2 gs (dup d) σ h = gs [d, d] σ h := rfl
theorem r_law_same_go {a c : Q.D} (N : Nat) (hN : N ≤ 2000000) (ds0 : List Q.D) (h0 : szs ds0 < N) (hp : plns ds0 = true) : ∃ σ', forL (fun _ => True) (gSlot 3) b_n__law_same_1 (rangeD 0 N) [some a, some c, some (.ref h.length), none, none, none, none] (h ++ [.lst (ds0.map dup)]) = .rt (.bl true) (h ++ [.lst []]) ∧ σ' = (0 : Nat) := by
  refine ⟨0, ?_, rfl⟩
  refine forL_inv (R := fun o => o = .rt (.bl true) (h ++ [.lst []]))
    (fun ds σ h' => ∃ (stk : List Q.D) (x1 x2 x3 x4 : Option Q.D), szs stk < ds.length ∧ ds.length ≤ 2000000 ∧ plns stk = true ∧ σ = [some a, some c, some (.ref h.length), x1, x2, x3, x4] ∧ h' = h ++ [.lst (stk.map dup)])
    (fun σ h' ⟨stk, x1, x2, x3, x4, e1, _⟩ => by simp at e1) (fun d ds σ h' ⟨stk, x1, x2, x3, x4, e1, e2, e3, e4, e5⟩ => ?_) _ _ _ ⟨ds0, none, none, none, none, by simpa using h0, by simpa using hN, hp, rfl, rfl⟩
  subst e4 e5
  refine ⟨trivial, [some a, some c, some (.ref h.length), some d, x2, x3, x4], h ++ [.lst (stk.map dup)], rfl, ?_⟩
  rw [List.length_cons] at e1 e2
  rcases List.eq_nil_or_concat stk with rfl | ⟨init, e, rfl⟩
  · simp [b_n__law_same_1, len_ref last_list]
  · rw [List.concat_eq_append] at e1 e3 ⊢
    rw [szs_app, szs, szs] at e1
    rw [plns_app, plns, plns, Bool.and_true, Bool.and_eq_true] at e3
    have hpop : mPop (.ref h.length) [] (h ++ [.lst ((init ++ [e]).map dup)]) = some (dup e, h ++ [.lst (init.map dup)]) := by
      unfold mPop
      simp
    have hist : isT "list" (h ++ [.lst ((init ++ [e]).map dup)]) (.ref h.length) = true := by
      simp [isT, lsq]
    have hlen := len_ref (h := h ++ [.lst ((init ++ [e]).map dup)]) (n := h.length) last_list
    have hne : ¬ ((init.length : Int) + 1 = 0) := by omega
    simp only [List.map_append, List.map_cons, List.map_nil] at hpop hist hlen ⊢
    have hs := szs_len init
    have hse := sz_pos e
    have fin : ∀ o : Out, o = .nx [some a, some c, some (.ref h.length), some d, some e, some e, x4] (h ++ [.lst (init.map dup)]) → (match o with
      | .nx σ2 h2 => ∃ (stk : List Q.D) (x1 x2 x3 x4 : Option Q.D), szs stk < ds.length ∧ ds.length ≤ 2000000 ∧ plns stk = true ∧ σ2 = [some a, some c, some (.ref h.length), x1, x2, x3, x4] ∧ h2 = h ++ [.lst (stk.map dup)]
      | .ct σ2 h2 => ∃ (stk : List Q.D) (x1 x2 x3 x4 : Option Q.D), szs stk < ds.length ∧ ds.length ≤ 2000000 ∧ plns stk = true ∧ σ2 = [some a, some c, some (.ref h.length), x1, x2, x3, x4] ∧ h2 = h ++ [.lst (stk.map dup)]
      | .bk σ2 h2 => Out.nx σ2 h2 = .rt (.bl true) (h ++ [.lst []])
      | r => r = .rt (.bl true) (h ++ [.lst []])) := fun o eo => by
      rw [eo]
      exact ⟨init, some d, some e, some e, x4, by omega, by omega, e3.1, rfl, rfl⟩
    cases e with
    | ref _ => exact absurd e3.2 (by simp [pln])
    | scr _ => exact absurd e3.2 (by simp [pln])
    | exn _ _ _ _ _ => exact absurd e3.2 (by simp [pln])
    | non => exact fin _ (by simp [b_n__law_same_1, hlen, hne, hist, hpop, isNonD])
    | bl b => exact fin _ (by simp [b_n__law_same_1, hlen, hne, hist, hpop])
    | int b => exact fin _ (by simp [b_n__law_same_1, hlen, hne, hist, hpop])
    | str b => exact fin _ (by simp [b_n__law_same_1, hlen, hne, hist, hpop])
    | tup es =>
      rw [sz] at e1
      rw [pln] at e3
      have hl2 := szs_len es
      have hext : mExtend (.ref h.length) [.fro (es.map dup)] (h ++ [.lst (init.map dup)]) = some (.non, h ++ [.lst ((init ++ es).map dup)]) := by
        unfold mExtend
        dsimp only
        rw [last_list, show lchg (h ++ [.lst (init.map dup)]) (.fro (es.map dup)) = some (es.map dup) from rfl]
        dsimp only
        rw [if_pos (by simp; omega), last_set, List.map_append]
      have hist2 : isT "list" (h ++ [.lst (init.map dup)]) (.ref h.length) = true := by
        simp [isT, lsq]
      have hb : b_n__law_same_1 [some a, some c, some (.ref h.length), some d, x2, x3, x4] (h ++ [.lst (init.map dup ++ [dup (.tup es)])]) = .nx [some a, some c, some (.ref h.length), some d, some (.tup es), some (.tup es), x4] (h ++ [.lst ((init ++ es).map dup)]) := by
        have hr : rngK (.int (es.length : Int)) (h ++ [.lst (init.map dup)]) = .ok (rangeD 0 es.length, fun _ => True) (h ++ [.lst (init.map dup)]) := rngK_of (by omega) (by omega)
        simp -implicitDefEqProofs [b_n__law_same_1, hlen, hne, hist, hpop, hist2, hr]
        rw [rangeD, lc_enc (fun i : Nat => .int (0 + (i : Int))) (fun i => match es[i]? with | some d => dup d | none => .non) trivial]
        · rw [range_dup]
          have hlt : (es.length : Int) < 4611686018427387904 := by omega
          simp [hext, hlt]
        · intro i hi
          have hi' : i < es.length := List.mem_range.mp hi
          refine ⟨_, rfl, ?_⟩
          have ha : atI es (i : Int) = some es[i] := atI_n (List.getElem?_eq_getElem hi')
          simp [wipeA, ha, hi']
          rfl
        · simp
          omega
      rw [hb]
      exact ⟨init ++ es, some d, some (.tup es), some (.tup es), x4, by rw [szs_app]; omega, by omega, by rw [plns_app, e3.1, e3.2]; rfl, rfl, rfl⟩
    | fro es =>
      rw [sz] at e1
      rw [pln] at e3
      have hl2 := szs_len es
      have hext : mExtend (.ref h.length) [.fro (es.map dup)] (h ++ [.lst (init.map dup)]) = some (.non, h ++ [.lst ((init ++ es).map dup)]) := by
        unfold mExtend
        dsimp only
        rw [last_list, show lchg (h ++ [.lst (init.map dup)]) (.fro (es.map dup)) = some (es.map dup) from rfl]
        dsimp only
        rw [if_pos (by simp; omega), last_set, List.map_append]
      have hist2 : isT "list" (h ++ [.lst (init.map dup)]) (.ref h.length) = true := by
        simp [isT, lsq]
      have hb : b_n__law_same_1 [some a, some c, some (.ref h.length), some d, x2, x3, x4] (h ++ [.lst (init.map dup ++ [dup (.fro es)])]) = .nx [some a, some c, some (.ref h.length), some d, some (.fro es), some (.fro es), x4] (h ++ [.lst ((init ++ es).map dup)]) := by
        have hr : rngK (.int (es.length : Int)) (h ++ [.lst (init.map dup)]) = .ok (rangeD 0 es.length, fun _ => True) (h ++ [.lst (init.map dup)]) := rngK_of (by omega) (by omega)
        simp -implicitDefEqProofs [b_n__law_same_1, hlen, hne, hist, hpop, hist2, hr]
        rw [rangeD, lc_enc (fun i : Nat => .int (0 + (i : Int))) (fun i => match es[i]? with | some d => dup d | none => .non) trivial]
        · rw [range_dup]
          have hlt : (es.length : Int) < 4611686018427387904 := by omega
          simp [hext, hlt]
        · intro i hi
          have hi' : i < es.length := List.mem_range.mp hi
          refine ⟨_, rfl, ?_⟩
          have ha : atI es (i : Int) = some es[i] := atI_n (List.getElem?_eq_getElem hi')
          simp [wipeA, ha, hi']
          rfl
        · simp
          omega
      rw [hb]
      exact ⟨init ++ es, some d, some (.fro es), some (.fro es), x4, by rw [szs_app]; omega, by omega, by rw [plns_app, e3.1, e3.2]; rfl, rfl, rfl⟩
theorem r_law_same {d : Q.D} (h0 : sz d < 2000000) (hp : pln d = true) : f_n__law_same [d, d] h = .ok (.bl true) h := by
  obtain ⟨N, hr, hN⟩ : ∃ N : Nat, (∀ g, rngK (.int 2000000) g = .ok (rangeD 0 N, fun _ => True) g) ∧ N = 2000000 := ⟨Int.toNat 2000000, fun g => rngK_of (by decide) (by decide), rfl⟩
  obtain ⟨_, e, _⟩ := r_law_same_go (h := h) (a := d) (c := d) N (by omega) [d] (by rw [szs, szs]; omega) (by simpa [plns] using hp)
  rw [e_n__law_same]
  simp only [List.map_cons, List.map_nil] at e
  have e' : forL (fun _ => True) (gSlot 3) b_n__law_same_1 (rangeD 0 N) [some d, some d, some (.ref h.length), none, none, none, none] (h ++ [.lst [.tup [d, d]]]) = .rt (.bl true) (h ++ [.lst []]) := e
  clear hN
  simp -implicitDefEqProofs [m_n__law_same, hr, e']
  exact trim_drop rfl okT_app rfl
end P

namespace P
open PySem PySem.Spec PyProof.Rows L2 Q G
variable {h g : AH} {i j k : Int} {s t : Str} {b : Bool} {ds : List Q.D} {ks os : List Str}
/-! ### the stream -/
def So (cells : List Int) (c k : Int) : O := .lst [.fro (cells.map .int), .int c, .int k]
def Ok (N : Nat) (o : O) : Prop := ∃ cells c k, o = So cells c k ∧ 0 ≤ c ∧ c < 10 ^ 62 ∧ 0 ≤ k ∧ k + N ≤ 1000000000
theorem Ok.mono {N M : Nat} {o : O} (h : Ok N o) (l : M ≤ N) : Ok M o := by
  obtain ⟨cells, c, k, e, a1, a2, a3, a4⟩ := h
  exact ⟨cells, c, k, e, a1, a2, a3, by omega⟩
theorem small_pow {i : Int} (h0 : 0 ≤ i) (h1 : i < 10 ^ 70) : i.natAbs < 2 ^ 4000 := by
  have h2 : i.natAbs < 2 ^ 250 := by omega
  exact Nat.lt_of_lt_of_le h2 (Nat.pow_le_pow_right (by omega) (by omega))
theorem mul_ok (h0 : 0 ≤ i) (h1 : i < 10 ^ 70) (h2 : 0 ≤ j) (h3 : j < 10 ^ 70) : dMul (.int i) (.int j) h = some (.int (i * j), h) := if_pos ⟨small_pow h0 h1, small_pow h2 h3⟩
theorem div_ok (h2 : 0 < j) (h3 : j < 10 ^ 70) : dDiv (.int i) (.int j) h = some (.int (i / j), h) := if_pos ⟨h2, small_pow (by omega) h3⟩
theorem mod_ok (h2 : 0 < j) : dMod (.int i) (.int j) h = some (.int (i % j), h) := if_pos h2
theorem pow_ok {n : Nat} (h1 : n ≤ 1000) : dPow (.int 10) (.int n) h = some (.int (10 ^ n), h) := by
  have : dPow (.int 10) (.int n) h = some (.int (10 ^ (n : Int).toNat), h) := if_pos ⟨by omega, by omega, by decide⟩
  rw [this, Int.toNat_natCast]
theorem ix_so {cells : List Int} {c k : Int} {n : Int} : dIx (.ref 0) (.int n) (So cells c k :: g) = (atI [Q.D.fro (cells.map .int), .int c, .int k] n).map fun d => (d, So cells c k :: g) := ix_ref rfl
theorem set_so1 {cells : List Int} {c k : Int} {v : Q.D} : dSet (.ref 0) (.int 1) v (So cells c k :: g) = some (.lst [.fro (cells.map .int), v, .int k] :: g) := rfl
theorem set_so2 {cells : List Int} {c k : Int} {v : Q.D} : dSet (.ref 0) (.int 2) v (So cells c k :: g) = some (.lst [.fro (cells.map .int), .int c, v] :: g) := rfl
theorem eq_so {cells : List Int} {c k : Int} : O.lst [.fro (cells.map .int), .int c, .int k] = So cells c k := rfl
/-- numbers mixed -/
def mix (x k : Int) : Int := let y := (x * 48271 + k * 69621 + 11) % 2147483647
  (y * 16807 + 13) % 2147483647 * 65537 + y
theorem mix_lo {x k : Int} : 0 ≤ mix x k := by
  unfold mix
  have h1 := Int.emod_nonneg (x * 48271 + k * 69621 + 11) (b := 2147483647) (by omega)
  have h2 := Int.emod_nonneg ((x * 48271 + k * 69621 + 11) % 2147483647 * 16807 + 13) (b := 2147483647) (by omega)
  dsimp only
  omega
theorem mix_hi {x k : Int} : mix x k < 10 ^ 62 := by
  unfold mix
  have h1 := Int.emod_lt_of_pos (x * 48271 + k * 69621 + 11) (b := 2147483647) (by omega)
  have h2 := Int.emod_lt_of_pos ((x * 48271 + k * 69621 + 11) % 2147483647 * 16807 + 13) (b := 2147483647) (by omega)
  dsimp only
  omega
theorem r_next {N : Nat} {o : O} {m : Int} (O : Ok (N + 1) o) (hm : 0 < m) (hm2 : m < 10 ^ 70) : ∃ r o', f_n__law_next [.ref 0, .int m] (o :: g) = .ok (.int r) (o' :: g) ∧ 0 ≤ r ∧ r < m ∧ Ok N o' := by
  obtain ⟨cells, c, k, rfl, a1, a2, a3, a4⟩ := O
  rw [e_n__law_next]
  have fin : ∀ c' k' : Int, 0 ≤ c' → c' < 10 ^ 62 → 0 ≤ k' → k' + (N : Int) ≤ 1000000000 → ∃ r o', (Res.ok (.int (c' % m)) (So cells (c' / m) k' :: g) : Res Q.D) = .ok (.int r) (o' :: g) ∧ 0 ≤ r ∧ r < m ∧ Ok N o' := fun c' k' b1 b2 b3 b4 => by
    refine ⟨c' % m, So cells (c' / m) k', rfl, Int.emod_nonneg _ (by omega), Int.emod_lt_of_pos _ hm, cells, c' / m, k', rfl, Int.ediv_nonneg b1 (by omega), ?_, b3, b4⟩
    have := Int.ediv_le_self m b1
    omega
  by_cases hc : c = 0
  · subst hc
    obtain ⟨P60, hP⟩ : ∃ P : Int, P = 10 ^ 60 := ⟨_, rfl⟩
    obtain ⟨P18, hQ⟩ : ∃ P : Int, P = 10 ^ 18 := ⟨_, rfl⟩
    have p60 : ∀ g, dPow (.int 10) (.int 60) g = some (.int P60, g) := fun g => hP ▸ pow_ok (n := 60) (by omega)
    have p18 : ∀ g, dPow (.int 10) (.int 18) g = some (.int P18, g) := fun g => hQ ▸ pow_ok (n := 18) (by omega)
    have pp : 0 < P60 := by omega
    have mk : ∀ g, dMul (.int k) (.int 69621) g = some (.int (k * 69621), g) := fun g => mul_ok a3 (by omega) (by omega) (by omega)
    have big : (0 : Int) < 2147483647 := by omega
    by_cases hl : k < cells.length
    · obtain ⟨d, ed, at1⟩ := atI_i (xs := cells.map Q.D.int) a3 (by simpa using hl)
      obtain ⟨x, hx, rfl⟩ : ∃ x, cells[k.toNat]? = some x ∧ d = .int x := by
        rw [List.getElem?_map] at ed
        obtain ⟨x, h1, h2⟩ := Option.map_eq_some_iff.mp ed
        exact ⟨x, h1, h2.symm⟩
      obtain ⟨z, hz⟩ : ∃ z : Int, z = (if x < 0 then -x else x) := ⟨_, rfl⟩
      have habs : ∀ g, gAbs [.int x] g = some (.int z, g) := fun g => hz ▸ abs_int
      obtain ⟨y, hy⟩ : ∃ y : Int, y = z % P60 := ⟨_, rfl⟩
      have hmod : ∀ g, dMod (.int z) (.int P60) g = some (.int y, g) := fun g => hy ▸ mod_ok pp
      have y0 : 0 ≤ y := hy ▸ Int.emod_nonneg _ (by omega)
      have y1 : y < 10 ^ 60 := by
        have := Int.emod_lt_of_pos z pp
        omega
      clear hy hz
      have my : ∀ g, dMul (.int y) (.int 48271) g = some (.int (y * 48271), g) := fun g => mul_ok y0 (by omega) (by omega) (by omega)
      by_cases hs : y < P18
      · obtain ⟨w, hw⟩ : ∃ w : Int, w = (y * 48271 + k * 69621 + 11) % 2147483647 := ⟨_, rfl⟩
        have hwm : ∀ g, dMod (.int (y * 48271 + k * 69621 + 11)) (.int 2147483647) g = some (.int w, g) := fun g => hw ▸ mod_ok big
        have w0 : 0 ≤ w := hw ▸ Int.emod_nonneg _ (by omega)
        have w1 : w < 2147483647 := hw ▸ Int.emod_lt_of_pos _ big
        clear hw
        obtain ⟨u, hu⟩ : ∃ u : Int, u = (w * 16807 + 13) % 2147483647 := ⟨_, rfl⟩
        have hum : ∀ g, dMod (.int (w * 16807 + 13)) (.int 2147483647) g = some (.int u, g) := fun g => hu ▸ mod_ok big
        have u0 : 0 ≤ u := hu ▸ Int.emod_nonneg _ (by omega)
        have u1 : u < 2147483647 := hu ▸ Int.emod_lt_of_pos _ big
        clear hu
        have mw : ∀ g, dMul (.int w) (.int 16807) g = some (.int (w * 16807), g) := fun g => mul_ok w0 (by omega) (by omega) (by omega)
        have mu : ∀ g, dMul (.int u) (.int 65537) g = some (.int (u * 65537), g) := fun g => mul_ok u0 (by omega) (by omega) (by omega)
        have e : trimR (So cells 0 k :: g) true (retOf (m_n__law_next [some (.ref 0), some (.int m), none, none, none] (So cells 0 k :: g))) = .ok (.int ((u * 65537 + w) % m)) (So cells ((u * 65537 + w) / m) (k + 1) :: g) := by
          simp -implicitDefEqProofs [-abs_int, -run_dInt, m_n__law_next, ix_so, mod_ok hm, div_ok hm hm2, gSubD, set_so1, set_so2, p60, p18, hl, at1, habs, hmod, hs, eq_so, my, mk, hwm, hum, mw, mu]
          exact trim_same rfl
        rw [e]
        exact fin (u * 65537 + w) (k + 1) (by omega) (by omega) (by omega) (by omega)
      · have e : trimR (So cells 0 k :: g) true (retOf (m_n__law_next [some (.ref 0), some (.int m), none, none, none] (So cells 0 k :: g))) = .ok (.int (y % m)) (So cells (y / m) (k + 1) :: g) := by
          simp -implicitDefEqProofs [-abs_int, -run_dInt, m_n__law_next, ix_so, mod_ok hm, div_ok hm hm2, gSubD, set_so1, set_so2, p60, p18, hl, at1, habs, hmod, hs, eq_so]
          exact trim_same rfl
        rw [e]
        exact fin y (k + 1) y0 (by omega) (by omega) (by omega)
    · obtain ⟨y, hy⟩ : ∃ y : Int, y = 7 + k := ⟨_, rfl⟩
      have hplus : ∀ g, dPlus (.int 7) (.int k) g = some (.int y, g) := fun g => hy ▸ plus_int
      have y0 : 0 ≤ y := by omega
      have y1 : y < 10 ^ 60 := by omega
      clear hy
      have my : ∀ g, dMul (.int y) (.int 48271) g = some (.int (y * 48271), g) := fun g => mul_ok y0 (by omega) (by omega) (by omega)
      by_cases hs : y < P18
      · obtain ⟨w, hw⟩ : ∃ w : Int, w = (y * 48271 + k * 69621 + 11) % 2147483647 := ⟨_, rfl⟩
        have hwm : ∀ g, dMod (.int (y * 48271 + k * 69621 + 11)) (.int 2147483647) g = some (.int w, g) := fun g => hw ▸ mod_ok big
        have w0 : 0 ≤ w := hw ▸ Int.emod_nonneg _ (by omega)
        have w1 : w < 2147483647 := hw ▸ Int.emod_lt_of_pos _ big
        clear hw
        obtain ⟨u, hu⟩ : ∃ u : Int, u = (w * 16807 + 13) % 2147483647 := ⟨_, rfl⟩
        have hum : ∀ g, dMod (.int (w * 16807 + 13)) (.int 2147483647) g = some (.int u, g) := fun g => hu ▸ mod_ok big
        have u0 : 0 ≤ u := hu ▸ Int.emod_nonneg _ (by omega)
        have u1 : u < 2147483647 := hu ▸ Int.emod_lt_of_pos _ big
        clear hu
        have mw : ∀ g, dMul (.int w) (.int 16807) g = some (.int (w * 16807), g) := fun g => mul_ok w0 (by omega) (by omega) (by omega)
        have mu : ∀ g, dMul (.int u) (.int 65537) g = some (.int (u * 65537), g) := fun g => mul_ok u0 (by omega) (by omega) (by omega)
        have e : trimR (So cells 0 k :: g) true (retOf (m_n__law_next [some (.ref 0), some (.int m), none, none, none] (So cells 0 k :: g))) = .ok (.int ((u * 65537 + w) % m)) (So cells ((u * 65537 + w) / m) (k + 1) :: g) := by
          simp -implicitDefEqProofs [-abs_int, -run_dInt, m_n__law_next, ix_so, mod_ok hm, div_ok hm hm2, gSubD, set_so1, set_so2, p60, p18, hl, hplus, hs, eq_so, my, mk, hwm, hum, mw, mu]
          exact trim_same rfl
        rw [e]
        exact fin (u * 65537 + w) (k + 1) (by omega) (by omega) (by omega) (by omega)
      · have e : trimR (So cells 0 k :: g) true (retOf (m_n__law_next [some (.ref 0), some (.int m), none, none, none] (So cells 0 k :: g))) = .ok (.int (y % m)) (So cells (y / m) (k + 1) :: g) := by
          simp -implicitDefEqProofs [-abs_int, -run_dInt, m_n__law_next, ix_so, mod_ok hm, div_ok hm hm2, gSubD, set_so1, set_so2, p60, p18, hl, hplus, hs, eq_so]
          exact trim_same rfl
        rw [e]
        exact fin y (k + 1) y0 (by omega) (by omega) (by omega)
  · have e : trimR (So cells c k :: g) true (retOf (m_n__law_next [some (.ref 0), some (.int m), none, none, none] (So cells c k :: g))) = .ok (.int (c % m)) (So cells (c / m) k :: g) := by
      simp -implicitDefEqProofs [m_n__law_next, ix_so, hc, mod_ok hm, div_ok hm hm2, gSubD, set_so1]
      exact trim_same rfl
    rw [e]
    exact fin c k a1 a2 a3 (by omega)
end P

namespace P
open PySem PySem.Spec PyProof.Rows L2 Q G
variable {h g : AH} {i j k : Int} {s t : Str} {b : Bool} {ds : List Q.D} {ks os : List Str} {N : Nat} {o : O}
theorem r_stream {ns : List Int} (hl : ns.length ≤ 63) : f_n__law_stream [.scr (ns.map .int)] [] = .ok (.ref 0) [So ns 0 0] := by
  rw [e_n__law_stream]
  simp -implicitDefEqProofs [m_n__law_stream]
  exact trim_keep rfl
theorem ok_start {ns : List Int} : Ok 1000000000 (So ns 0 0) := ⟨ns, 0, 0, rfl, by omega, by omega, by omega, by omega⟩
/-- rows that can be picked from -/
structure Rows (g : AH) (x : Q.D) (ds : List Q.D) : Prop where
  len : ∀ o, gLen [x] (o :: g) = some (.int ds.length, o :: g)
  ix : ∀ o i, dIx x (.int i) (o :: g) = (atI ds i).map fun d => (d, o :: g)
  pos : 0 < ds.length
  most : ds.length ≤ 1000000
theorem Rows.tup (h0 : 0 < ds.length) (h1 : ds.length ≤ 1000000) : Rows g (.tup ds) ds := ⟨fun _ => rfl, fun _ _ => rfl, h0, h1⟩
theorem Rows.fro (h0 : 0 < ds.length) (h1 : ds.length ≤ 1000000) : Rows g (.fro ds) ds := ⟨fun _ => rfl, fun _ _ => rfl, h0, h1⟩
theorem r_pick {x : Q.D} (R : Rows g x ds) (O : Ok (N + 1) o) : ∃ d o', f_n__law_pick [.ref 0, x] (o :: g) = .ok d (o' :: g) ∧ d ∈ ds ∧ Ok N o' := by
  have h0 := R.pos
  have h1 := R.most
  obtain ⟨r, o', e, r0, r1, O'⟩ := r_next (g := g) O (m := (ds.length : Int)) (by omega) (by omega)
  obtain ⟨d, ed, at1⟩ := atI_i (xs := ds) r0 r1
  refine ⟨d, o', ?_, List.mem_of_getElem? ed, O'⟩
  rw [e_n__law_pick]
  simp -implicitDefEqProofs [m_n__law_pick, R.len, e, R.ix, at1]
  exact trim_same rfl
theorem r_bit (O : Ok (N + 1) o) : ∃ b o', f_n__law_bit [.ref 0] (o :: g) = .ok (.bl b) (o' :: g) ∧ Ok N o' := by
  obtain ⟨r, o', e, r0, r1, O'⟩ := r_next (g := g) O (m := 2) (by omega) (by omega)
  refine ⟨decide (r = 1), o', ?_, O'⟩
  rw [e_n__law_bit]
  simp -implicitDefEqProofs [m_n__law_bit, e]
  exact trim_same rfl
theorem r_law_flip {t : Tm} : f_n__law_flip [tmD t] h = .ok (tmD (flp t)) h := by
  rw [e_n__law_flip]
  simp -implicitDefEqProofs [m_n__law_flip, flp]
  exact trim_same rfl
/-! ### sentences drawn -/
theorem r_sentence (hk : 0 < ks.length) (hk2 : ks.length ≤ 1000) (O : Ok (N + 8) o) : ∃ s o', f_n__law_sentence [.ref 0, ksD ks] (o :: g) = .ok (snD s) (o' :: g) ∧ Over ks s ∧ Ok N o' := by
  rw [e_n__law_sentence]
  obtain ⟨d1, o1, e1, m1, O1⟩ := r_pick (g := g) (ds := [.str "all", .str "some", .str "more", .str "many"]) (Rows.fro (by simp) (by simp)) O
  obtain ⟨w, hw, rfl⟩ : ∃ w ∈ WD, d1 = .str w := by
    simp only [List.mem_cons, List.not_mem_nil, or_false] at m1
    rcases m1 with rfl | rfl | rfl | rfl
    · exact ⟨_, by simp [WD], rfl⟩
    · exact ⟨_, by simp [WD], rfl⟩
    · exact ⟨_, by simp [WD], rfl⟩
    · exact ⟨_, by simp [WD], rfl⟩
  have RK : Rows g (ksD ks) (ks.map .str) := Rows.tup (by simpa using hk) (by simp; omega)
  obtain ⟨d2, o2, e2, m2, O2⟩ := r_pick RK O1
  obtain ⟨a, ha, rfl⟩ := List.mem_map.mp m2
  obtain ⟨a2, o3, e3, O3⟩ := r_bit (g := g) O2
  obtain ⟨d4, o4, e4, m4, O4⟩ := r_pick RK O3
  obtain ⟨c, hc, rfl⟩ := List.mem_map.mp m4
  obtain ⟨c2, o5, e5, O5⟩ := r_bit (g := g) O4
  obtain ⟨r, o6, e6, _, _, O6⟩ := r_next (g := g) O5 (m := 5) (by omega) (by omega)
  obtain ⟨c3, o7, e7, O7⟩ := r_bit (g := g) O6
  by_cases hr : r = 0
  · refine ⟨⟨w, (a, a2), (a, c3)⟩, o7, ?_, ⟨hw, ha, ha⟩, O7.mono (by omega)⟩
    simp -implicitDefEqProofs [m_n__law_sentence, e1, e2, e3, e4, e5, e6, e7, hr]
    exact trim_same rfl
  · refine ⟨⟨w, (a, a2), (c, c2)⟩, o6, ?_, ⟨hw, ha, hc⟩, O6.mono (by omega)⟩
    simp -implicitDefEqProofs [m_n__law_sentence, e1, e2, e3, e4, e5, e6, hr]
    exact trim_same rfl
end P

namespace P
open PySem PySem.Spec PyProof.Rows L2 Q G
variable {h g : AH} {i j k : Int} {s t : Str} {b : Bool} {ds : List Q.D} {ks os : List Str} {N : Nat} {o : O}
/-! ### kinds drawn -/
def lowB (c : Nat) : Bool := decide (97 ≤ c) && decide (c ≤ 122)
def digB (c : Nat) : Bool := decide (48 ≤ c) && decide (c ≤ 57)
theorem lowB_ok {c : Nat} (h : lowB c = true) : low c := by
  simp only [lowB, Bool.and_eq_true, decide_eq_true_eq] at h; exact h
theorem digB_ok {c : Nat} (h : digB c = true) : dig c := by
  simp only [digB, Bool.and_eq_true, decide_eq_true_eq] at h; exact h
def kindB (s : Str) : Bool := decide (s.cps.size ≤ 12) && (match s.cps.toList with
  | c :: _ => lowB c
  | [] => false) && s.cps.toList.all fun c => lowB c || digB c
theorem kindB_ok (h : kindB s = true) : Kind s := by
  unfold kindB at h
  rw [Bool.and_eq_true, Bool.and_eq_true] at h
  obtain ⟨⟨h1, h2⟩, h3⟩ := h
  refine ⟨of_decide_eq_true h1, ?_, fun c hc => ?_⟩
  · split at h2
    · rename_i c r e
      exact ⟨c, r, e, lowB_ok h2⟩
    · cases h2
  · have := List.all_eq_true.mp h3 c hc
    rw [Bool.or_eq_true] at this
    exact this.imp lowB_ok digB_ok
theorem cps_app {s t : Str} : (s ++ t).cps.toList = s.cps.toList ++ t.cps.toList := by
  show (s.cps ++ t.cps).toList = _
  simp
theorem size_app {s t : Str} : (s ++ t).cps.size = s.cps.size + t.cps.size := by
  rw [← Array.length_toList, cps_app, List.length_append, Array.length_toList, Array.length_toList]
def AZ : Str := "abcdefghijklmnopqrstuvwxyz"
def AZ9 : Str := "abcdefghijklmnopqrstuvwxyz0123456789"
theorem az_low : ∀ c ∈ AZ.cps.toList, low c := fun c hc => lowB_ok (List.all_eq_true.mp (show AZ.cps.toList.all lowB = true by decide +kernel) c hc)
theorem az9_ok : ∀ c ∈ AZ9.cps.toList, low c ∨ dig c := fun c hc => by
  have := List.all_eq_true.mp (show (AZ9.cps.toList.all fun c => lowB c || digB c) = true by decide +kernel) c hc
  rw [Bool.or_eq_true] at this
  exact this.imp lowB_ok digB_ok
theorem az_len : AZ.cps.toList.length = 26 := by decide +kernel
theorem az9_len : AZ9.cps.toList.length = 36 := by decide +kernel
theorem ix_az (h0 : 0 ≤ i) (h1 : i < 26) : ∃ c, low c ∧ ∀ h, dIx (.str "abcdefghijklmnopqrstuvwxyz") (.int i) h = some (.str ⟨#[c]⟩, h) := by
  obtain ⟨c, ec, at1⟩ := atI_i (xs := AZ.cps.toList) h0 (by rw [az_len]; omega)
  refine ⟨c, az_low c (List.mem_of_getElem? ec), fun h => ?_⟩
  show dIx (.str AZ) (.int i) h = _
  rw [ix_str'' (by decide +kernel), at1]
  rfl
theorem ix_az9 (h0 : 0 ≤ i) (h1 : i < 36) : ∃ c, (low c ∨ dig c) ∧ ∀ h, dIx (.str "abcdefghijklmnopqrstuvwxyz0123456789") (.int i) h = some (.str ⟨#[c]⟩, h) := by
  obtain ⟨c, ec, at1⟩ := atI_i (xs := AZ9.cps.toList) h0 (by rw [az9_len]; omega)
  refine ⟨c, az9_ok c (List.mem_of_getElem? ec), fun h => ?_⟩
  show dIx (.str AZ9) (.int i) h = _
  rw [ix_str'' (by decide +kernel), at1]
  rfl
theorem Kind.snoc (K : Kind s) {c : Nat} (hc : low c ∨ dig c) (hl : s.cps.size < 12) : Kind (s ++ ⟨#[c]⟩) := by
  obtain ⟨d, r, e, hd⟩ := K.fst
  refine ⟨by rw [size_app]; show s.cps.size + 1 ≤ 12; omega, ⟨d, r ++ [c], by rw [cps_app, e]; rfl, hd⟩, fun x hx => ?_⟩
  rw [cps_app] at hx
  rcases List.mem_append.mp hx with hx | hx
  · exact K.all x hx
  · rw [show x = c by simpa using hx]; exact hc
theorem Kind.one {c : Nat} (hc : low c) : Kind ⟨#[c]⟩ := ⟨by show 1 ≤ 12; omega, ⟨c, [], rfl, hc⟩, fun x hx => .inl (by rw [show x = c by simpa using hx]; exact hc)⟩
def TX : Str := "all some more many none half only not than equal world sort kinds plain a b z a0 az"
theorem tx_kinds : ∀ s ∈ Txt.split TX " ", Kind s := fun s hs => kindB_ok (List.all_eq_true.mp (show (Txt.split TX " ").all kindB = true by decide +kernel) s hs)
theorem tx_len : (Txt.split TX " ").length = 19 := by decide +kernel
theorem split_of {a b : Str} (hb : (b.length == 0) = false) (ha : a.length + 2 ≤ 16777216) : mSplit (.str a) [.str b] h = some (.fro ((Txt.split a b).map .str), h) := by
  unfold mSplit
  exact if_pos ⟨hb, ha⟩
theorem split_tx : mSplit (.str "all some more many none half only not than equal world sort kinds plain a b z a0 az") [.str " "] h = some (.fro ((Txt.split TX " ").map .str), h) := split_of (by decide +kernel) (by decide +kernel)
theorem r_kind (O : Ok (N + 14) o) : ∃ s o', f_n__law_kind [.ref 0] (o :: g) = .ok (.str s) (o' :: g) ∧ Kind s ∧ Ok N o' := by
  rw [e_n__law_kind]
  obtain ⟨r, o1, e1, _, _, O1⟩ := r_next (g := g) O (m := 5) (by omega) (by omega)
  by_cases hr : r = 0
  · obtain ⟨d, o2, e2, m2, O2⟩ := r_pick (g := g) (ds := (Txt.split TX " ").map .str) (Rows.fro (by rw [List.length_map, tx_len]; omega) (by rw [List.length_map, tx_len]; omega)) O1
    obtain ⟨s, hs, rfl⟩ := List.mem_map.mp m2
    refine ⟨s, o2, ?_, tx_kinds s hs, O2.mono (by omega)⟩
    have hi : ∀ h x, isT "str" h (.str x) = true := fun _ _ => rfl
    simp -implicitDefEqProofs [m_n__law_kind, e1, hr, split_tx, e2, hi]
    exact trim_same rfl
  · obtain ⟨r2, o2, e2, r20, r21, O2⟩ := r_next (g := g) O1 (m := 26) (by omega) (by omega)
    obtain ⟨c, hc, hix⟩ := ix_az r20 r21
    obtain ⟨d3, o3, e3, m3, O3⟩ := r_pick (g := g) (ds := [.int 0, .int 1, .int 2, .int 5, .int 11]) (Rows.fro (by simp) (by simp)) O2
    obtain ⟨n, hn, rfl⟩ : ∃ n : Nat, n ≤ 11 ∧ d3 = .int n := by
      simp only [List.mem_cons, List.not_mem_nil, or_false] at m3
      rcases m3 with rfl | rfl | rfl | rfl | rfl
      · exact ⟨0, by omega, rfl⟩
      · exact ⟨1, by omega, rfl⟩
      · exact ⟨2, by omega, rfl⟩
      · exact ⟨5, by omega, rfl⟩
      · exact ⟨11, by omega, rfl⟩
    have hr2 : ∀ g, rngK (.int (n : Int)) g = .ok (rangeD 0 n, fun _ => True) g := fun g => rngK_of (by omega) (by omega)
    obtain ⟨s, x, o4, e4, K4, O4⟩ := forL_inv (G := fun _ => True) (g := gSlot 2) (body := b_n__law_kind_1)
      (R := fun r => ∃ s x o', r = .nx [some (.ref 0), some (.str s), x, none] (o' :: g) ∧ Kind s ∧ Ok N o')
      (fun ds σ h' => ∃ s x o', σ = [some (.ref 0), some (.str s), x, none] ∧ h' = o' :: g ∧ Kind s ∧ s.cps.size + ds.length ≤ 12 ∧ Ok (N + ds.length) o')
      (fun σ h' ⟨s, x, o', e1, e2, K, l, O⟩ => ⟨trivial, s, x, o', by rw [e1, e2], K, O⟩)
      (fun d ds σ h' ⟨s, x, o', e1, e2, K, l, O⟩ => by
        subst e1 e2
        refine ⟨trivial, [some (.ref 0), some (.str s), some d, none], o' :: g, rfl, ?_⟩
        rw [List.length_cons] at l
        obtain ⟨r, o'', e, r0, r1, O''⟩ := r_next (g := g) (N := N + ds.length) O (m := 36) (by omega) (by omega)
        obtain ⟨c, hc, hix⟩ := ix_az9 r0 r1
        have hp : ∀ h, dPlus (.str s) (.str ⟨#[c]⟩) h = some (.str (s ++ ⟨#[c]⟩), h) := fun h => plus_str (by show s.cps.size + 1 ≤ _; omega)
        have hb : b_n__law_kind_1 [some (.ref 0), some (.str s), some d, none] (o' :: g) = .nx [some (.ref 0), some (.str (s ++ ⟨#[c]⟩)), some d, none] (o'' :: g) := by
          simp -implicitDefEqProofs [b_n__law_kind_1, e, hix, hp]
        rw [hb]
        exact ⟨_, _, o'', rfl, rfl, K.snoc hc (by omega), by rw [size_app]; show s.cps.size + 1 + ds.length ≤ 12; omega, O''⟩)
      (rangeD 0 n) [some (.ref 0), some (.str ⟨#[c]⟩), none, none] (o3 :: g) ⟨_, none, o3, rfl, rfl, Kind.one hc, by rw [rangeD_len]; show 1 + n ≤ 12; omega, O3.mono (by rw [rangeD_len]; omega)⟩
    refine ⟨s, o4, ?_, K4, O4⟩
    simp -implicitDefEqProofs [m_n__law_kind, e1, hr, e2, hix, e3, hr2, e4, -rngK_int]
    exact trim_same rfl
end P

namespace P
open PySem PySem.Spec PyProof.Rows L2 Q G
variable {h g : AH} {i j k : Int} {s t : Str} {b : Bool} {ds : List Q.D} {ks os : List Str} {N : Nat} {o : O}
/-! ### sorted texts -/
def leS (a b : Str) : Bool := !strLt b a
theorem leD_str {a b : Str} : leD (.str a) (.str b) = leS a b := by
  unfold leD leS
  rw [show pdG (.str a) = .str a from rfl, show pdG (.str b) = .str b from rfl, PySem.W.dataLt_str]
  rfl
theorem sortable_strs (hl : ks.length ≤ 16777216) : sortable (ks.map .str) = true := by
  unfold sortable
  simp only [Bool.and_eq_true, Bool.or_eq_true, List.all_eq_true, decide_eq_true_eq, List.length_map]
  refine ⟨⟨⟨⟨fun d hd => ?_, ?_⟩, .inr fun d hd => ?_⟩, hl⟩, fun d hd => ?_⟩
  · obtain ⟨s, _, rfl⟩ := List.mem_map.mp hd
    rfl
  · unfold alikeB
    rw [List.all_eq_true]
    intro p hp
    rw [List.all_eq_true]
    intro q hq
    rw [List.map_map] at hp hq
    obtain ⟨s, _, rfl⟩ := List.mem_map.mp hp
    obtain ⟨t, _, rfl⟩ := List.mem_map.mp hq
    show PySem.W.alike (.str s) (.str t) = true
    rw [PySem.W.alike]
  · rw [List.map_map] at hd
    obtain ⟨s, _, rfl⟩ := List.mem_map.mp hd
    rfl
  · obtain ⟨s, _, rfl⟩ := List.mem_map.mp hd
    show PyData.depth (.str s) ≤ 60
    simp [PyData.depth]
theorem sort_strs {n : Nat} (e : listAt h n = some (ks.map .str)) (hl : ks.length ≤ 16777216) : gSortF [.ref n] h = some (.fro ((ks.mergeSort leS).map .str), h) := by
  have e2 := listAt_some e
  unfold gSortF
  dsimp only
  rw [show lsq h (.ref n) = some (ks.map .str) from by unfold lsq; dsimp only; rw [e2]]
  dsimp only
  rw [if_pos (sortable_strs hl)]
  rw [← List.map_mergeSort (r := leS) (s := leD) (f := Q.D.str) (fun a _ b _ => leD_str.symm)]
theorem strLt_trans {a b c : Str} (h1 : strLt a b = true) (h2 : strLt b c = true) : strLt a c = true := decide_eq_true (List.lt_trans (of_decide_eq_true h1) (of_decide_eq_true h2))
theorem str_ext {a b : Str} (h : a.cps.toList = b.cps.toList) : a = b := by
  cases a; cases b
  simp only at h
  rw [Array.toList_inj.mp h]
theorem strLt_tri {a b : Str} (h1 : strLt a b = false) (h2 : strLt b a = false) : a = b := by
  refine str_ext (List.le_antisymm ?_ ?_)
  · exact List.not_lt.mp (of_decide_eq_false h2)
  · exact List.not_lt.mp (of_decide_eq_false h1)
theorem strLt_asymm {a b : Str} (h1 : strLt a b = true) (h2 : strLt b a = true) : False := List.lt_asymm (of_decide_eq_true h1) (of_decide_eq_true h2)
theorem asc_sort (nd : ks.Nodup) : Asc (ks.mergeSort leS) := by
  have hp : (ks.mergeSort leS).Pairwise fun a b => leS a b = true := List.pairwise_mergeSort (fun a b c h1 h2 => by
      unfold leS at *
      cases e : strLt c a with
      | false => rfl
      | true =>
        cases e2 : strLt b a with
        | true => rw [e2] at h1; cases h1
        | false =>
          cases e3 : strLt c b with
          | true => rw [e3] at h2; cases h2
          | false =>
            cases e4 : strLt a b with
            | true => rw [strLt_trans e e4] at e3; cases e3
            | false =>
              have := strLt_tri e4 e2
              subst this
              rw [e] at e3; cases e3)
    (fun a b => by
      unfold leS
      cases e : strLt b a with
      | false => rfl
      | true =>
        cases e2 : strLt a b with
        | false => rfl
        | true => exact (strLt_asymm e e2).elim) ks
  have hn : (ks.mergeSort leS).Nodup := (List.mergeSort_perm ks leS).nodup_iff.mpr nd
  refine (hp.and hn).imp fun {a b} hab => ?_
  obtain ⟨h1, h2⟩ := hab
  cases e : strLt a b with
  | true => rfl
  | false =>
    unfold leS at h1
    cases e2 : strLt b a with
    | true => rw [e2] at h1; cases h1
    | false => exact (h2 (strLt_tri e e2)).elim
end P

namespace P
open PySem PySem.Spec PyProof.Rows L2 Q G
variable {h g : AH} {i j k : Int} {s t : Str} {b : Bool} {ds : List Q.D} {ks os : List Str} {N : Nat} {o : O}
/-! ### kinds drawn: all of them -/
theorem sIx_some {l d : Nat} {n : Int} (h0 : 0 ≤ n) : HT.sIx l d (some n) = min n.toNat l := by
  have := HT.sIx_nat l d n.toNat
  rw [Int.toNat_of_nonneg h0] at this
  exact this
theorem cut_to {z : Str} {n : Int} (h0 : 0 ≤ n) : (cutS z none (some n)).cps.toList = z.cps.toList.take n.toNat := by
  have hl : z.cps.toList.length = z.length := Array.length_toList
  show ((z.cps.toList.drop (HT.sIx z.length 0 none)).take (HT.sIx z.length z.length (some n) - HT.sIx z.length 0 none)) = _
  rw [sIx_some h0, HT.sIx_none, List.drop_zero, Nat.sub_zero, ← hl]
  by_cases hn : n.toNat ≤ z.cps.toList.length
  · rw [Nat.min_eq_left hn]
  · rw [Nat.min_eq_right (by omega), List.take_length, List.take_of_length_le (by omega)]
theorem cut_from {z : Str} {n : Int} (h0 : 0 ≤ n) : (cutS z (some n) none).cps.toList = z.cps.toList.drop n.toNat := by
  have hl : z.cps.toList.length = z.length := Array.length_toList
  show ((z.cps.toList.drop (HT.sIx z.length 0 (some n))).take (HT.sIx z.length z.length none - HT.sIx z.length 0 (some n))) = _
  rw [sIx_some h0, HT.sIx_none, ← hl]
  by_cases hn : n.toNat ≤ z.cps.toList.length
  · rw [Nat.min_eq_left hn, List.take_of_length_le (by rw [List.length_drop]; omega)]
  · rw [Nat.min_eq_right (by omega), List.drop_length, List.drop_of_length_le (by omega), List.take_nil]
/-- a beginning of a kind -/
structure Stem (s : Str) : Prop where
  len : s.cps.size ≤ 10
  fst : ∃ c r, s.cps.toList = c :: r ∧ low c
  all : ∀ c ∈ s.cps.toList, low c ∨ dig c
theorem Kind.stem (K : Kind s) : Stem (cutS s none (some 10)) := by
  have e := cut_to (z := s) (n := 10) (by omega)
  obtain ⟨c, r, e1, hc⟩ := K.fst
  refine ⟨?_, ?_, fun x hx => ?_⟩
  · rw [← Array.length_toList, e, List.length_take]; show min 10 _ ≤ 10; omega
  · rw [e, e1]
    exact ⟨c, r.take 9, rfl, hc⟩
  · rw [e] at hx
    exact K.all x (List.mem_of_mem_take hx)
theorem size_of {s : Str} : s.cps.size = s.cps.toList.length := Array.length_toList.symm
theorem Stem.kind (S : Stem s) {n : Int} (h0 : 0 ≤ n) (h1 : n ≤ s.cps.size) {c d : Nat} (hc : low c) (hd : low d ∨ dig d) : Kind (((cutS s none (some n) ++ ⟨#[c]⟩) ++ ⟨#[d]⟩) ++ cutS s (some n) none) := by
  have e : (((cutS s none (some n) ++ ⟨#[c]⟩) ++ ⟨#[d]⟩) ++ cutS s (some n) none).cps.toList = s.cps.toList.take n.toNat ++ [c] ++ [d] ++ s.cps.toList.drop n.toNat := by
    rw [cps_app, cps_app, cps_app, cut_to h0, cut_from h0]
  have hl := S.len
  rw [size_of] at hl h1
  refine ⟨?_, ?_, fun x hx => ?_⟩
  · rw [size_of, e]
    simp only [List.length_append, List.length_take, List.length_drop, List.length_cons, List.length_nil]
    omega
  · rw [e]
    obtain ⟨a, r, ea, ha⟩ := S.fst
    rw [ea]
    cases hn : n.toNat with
    | zero => exact ⟨c, _, rfl, hc⟩
    | succ m => exact ⟨a, _, rfl, ha⟩
  · rw [e] at hx
    simp only [List.mem_append, List.mem_singleton] at hx
    rcases hx with ((hx | rfl) | rfl) | hx
    · exact S.all x (List.mem_of_mem_take hx)
    · exact .inl hc
    · exact hd
    · exact S.all x (List.mem_of_mem_drop hx)
theorem kind_a : Kind ("a" : Str) := kindB_ok (by decide +kernel)
theorem clo_ints {n : Nat} : ∀ ns : List Int, closeds n (ns.map Q.D.int) = true
  | [] => rfl
  | k :: ns => by rw [List.map_cons, closeds, clo_ints ns]; rfl
theorem ok_clo {n : Nat} (O : Ok N o) : closedO n o = true := by
  obtain ⟨cells, c, k, rfl, _⟩ := O
  show closeds n [.fro (cells.map .int), .int c, .int k] = true
  rw [closeds, closed, clo_ints]
  rfl
/-- what is forgotten behind the stream -/
theorem trim_str {o' : O} {x : AH} {d : Q.D} {bb : Bool} {N : Nat} (O : Ok N o') (hd : closed (g.length + 1) d = true) : trimR (o :: g) bb (.ok d (o' :: (g ++ x))) = .ok d (o' :: g) :=
  trim_drop (h := o :: g) (h1 := o' :: g) (g := x) rfl (fun y m => by
    rcases List.mem_cons.mp m with rfl | m
    · exact .inr (ok_clo O)
    · exact .inl (List.mem_cons_of_mem _ m)) hd
theorem la_last {o' : O} {xs : List Q.D} : Q.listAt (o' :: (g ++ [.lst xs])) (g.length + 1) = some xs := listAt_eq (by simp)
theorem app_last {o' : O} {xs : List Q.D} {d : Q.D} (hl : xs.length < 16777216) : mAppend (.ref (g.length + 1)) [d] (o' :: (g ++ [.lst xs])) = some (.non, o' :: (g ++ [.lst (xs ++ [d])])) := by
  unfold mAppend
  dsimp only
  rw [la_last]
  dsimp only
  rw [if_pos hl, List.set_cons_succ, last_set]
theorem isT_last {o' : O} {xs : List Q.D} : isT "list" (o' :: (g ++ [.lst xs])) (.ref (g.length + 1)) = true := by
  simp [isT, lsq]
/-! the numbered names -/
def azc (n : Int) : Nat := AZ.cps.toList.getD n.toNat 0
def azd (n : Int) : Nat := AZ9.cps.toList.getD n.toNat 0
theorem getD_inj {l : List Nat} (nd : l.Nodup) {i j : Nat} (hi : i < l.length) (hj : j < l.length) (e : l.getD i 0 = l.getD j 0) : i = j := by
  rw [List.getD_eq_getElem?_getD, List.getD_eq_getElem?_getD, List.getElem?_eq_getElem hi, List.getElem?_eq_getElem hj, Option.getD_some, Option.getD_some] at e
  exact (List.getElem_inj nd).mp e
theorem azc_inj {i j : Int} (i0 : 0 ≤ i) (i1 : i < 26) (j0 : 0 ≤ j) (j1 : j < 26) (e : azc i = azc j) : i = j := by
  have := getD_inj (l := AZ.cps.toList) (by decide +kernel) (by rw [az_len]; omega) (by rw [az_len]; omega) e
  omega
theorem azd_inj {i j : Int} (i0 : 0 ≤ i) (i1 : i < 36) (j0 : 0 ≤ j) (j1 : j < 36) (e : azd i = azd j) : i = j := by
  have := getD_inj (l := AZ9.cps.toList) (by decide +kernel) (by rw [az9_len]; omega) (by rw [az9_len]; omega) e
  omega
theorem ix_azc {i : Int} (h0 : 0 ≤ i) (h1 : i < 26) : low (azc i) ∧ ∀ h, dIx (.str "abcdefghijklmnopqrstuvwxyz") (.int i) h = some (.str ⟨#[azc i]⟩, h) := by
  have hl : i.toNat < AZ.cps.toList.length := by rw [az_len]; omega
  have e : AZ.cps.toList[i.toNat]? = some (azc i) := by rw [azc, List.getD_eq_getElem?_getD, List.getElem?_eq_getElem hl, Option.getD_some]
  refine ⟨az_low _ (List.mem_of_getElem? e), fun h => ?_⟩
  obtain ⟨c, ec, at1⟩ := atI_i (xs := AZ.cps.toList) h0 (by rw [az_len]; omega)
  rw [e] at ec
  cases ec
  show dIx (.str AZ) (.int i) h = _
  rw [ix_str'' (by decide +kernel), at1]
  rfl
theorem ix_azd {i : Int} (h0 : 0 ≤ i) (h1 : i < 36) : (low (azd i) ∨ dig (azd i)) ∧ ∀ h, dIx (.str "abcdefghijklmnopqrstuvwxyz0123456789") (.int i) h = some (.str ⟨#[azd i]⟩, h) := by
  have hl : i.toNat < AZ9.cps.toList.length := by rw [az9_len]; omega
  have e : AZ9.cps.toList[i.toNat]? = some (azd i) := by rw [azd, List.getD_eq_getElem?_getD, List.getElem?_eq_getElem hl, Option.getD_some]
  refine ⟨az9_ok _ (List.mem_of_getElem? e), fun h => ?_⟩
  obtain ⟨c, ec, at1⟩ := atI_i (xs := AZ9.cps.toList) h0 (by rw [az9_len]; omega)
  rw [e] at ec
  cases ec
  show dIx (.str AZ9) (.int i) h = _
  rw [ix_str'' (by decide +kernel), at1]
  rfl
def nmd (sa sb : Str) (n : Int) : Str := ((sa ++ ⟨#[azc (n / 36)]⟩) ++ ⟨#[azd (n % 36)]⟩) ++ sb
theorem nmd_inj {sa sb : Str} {n m : Int} (n0 : 0 ≤ n) (n1 : n < 936) (m0 : 0 ≤ m) (m1 : m < 936) (e : nmd sa sb n = nmd sa sb m) : n = m := by
  have e2 := congrArg (fun s : Str => s.cps.toList) e
  simp only [nmd, cps_app] at e2
  rw [List.append_left_inj] at e2
  have e3 := List.append_inj' e2 rfl
  have e4 := List.append_inj' e3.1 rfl
  have q1 : azc (n / 36) = azc (m / 36) := by simpa using e4.2
  have q2 : azd (n % 36) = azd (m % 36) := by simpa using e3.2
  have h1 := azc_inj (by omega) (by omega) (by omega) (by omega) q1
  have h2 := azd_inj (by omega) (by omega) (by omega) (by omega) q2
  omega
theorem len_cover {fs gs : List Str} (nd : gs.Nodup) (h : ∀ x ∈ gs, x ∈ fs) : gs.length ≤ fs.length := nd.length_le_of_subset h
/-- the numbered names from s on are there -/
def Cov (sa sb : Str) (fi : Int) (st : Nat) (fs : List Str) (i : Nat) : Prop := ∀ j : Nat, st ≤ j → j < i → nmd sa sb ((fi + (j : Int) * 7) % 936) ∈ fs
theorem cov_len {sa sb : Str} {fi : Int} {st : Nat} {fs : List Str} (h : Cov sa sb fi st fs 2000) (hs : st ≤ 93) : 31 ≤ fs.length := by
  have := len_cover (fs := fs) (gs := (List.range 31).map fun t => nmd sa sb ((fi + ((st + t : Nat) : Int) * 7) % 936)) ?_ ?_
  · simpa using this
  · refine List.Pairwise.map _ (R := fun a c => a < c ∧ c < 31) (fun a c hac e => ?_) ?_
    · have := nmd_inj (Int.emod_nonneg _ (by omega)) (Int.emod_lt_of_pos _ (by omega)) (Int.emod_nonneg _ (by omega)) (Int.emod_lt_of_pos _ (by omega)) e
      omega
    · exact List.Pairwise.imp_of_mem (fun {a c} ha hc hlt => ⟨hlt, List.mem_range.mp hc⟩) List.pairwise_lt_range
  · intro x hx
    obtain ⟨t, ht, rfl⟩ := List.mem_map.mp hx
    have := List.mem_range.mp ht
    exact h (st + t) (by omega) (by omega)
theorem rangeD_cons {lo : Int} {n : Nat} : rangeD lo (n + 1) = .int lo :: rangeD (lo + 1) n := by
  simp only [rangeD, List.range_succ_eq_map, List.map_cons, List.map_map]
  congr 1
  · simp
  · apply List.map_congr_left
    intro a _
    simp only [Function.comp]
    congr 1
    omega
/-- exactly so many kinds, ascending -/
theorem r_kindsN {many : Int} (m1 : 1 ≤ many) (m2 : many ≤ 31) (O : Ok (N + 40000) o) : ∃ ks o', f_n__law_kinds [.ref 0, .int many] (o :: g) = .ok (ksD ks) (o' :: g) ∧ (∀ k ∈ ks, Kind k) ∧ Asc ks ∧ (ks.length : Int) = many ∧ Ok N o' := by
  rw [e_n__law_kinds]
  obtain ⟨s0, o1, e1, K1, O1⟩ := r_kind (N := N + 39900) (g := g ++ [.lst []]) (O.mono (by omega))
  have S := K1.stem
  generalize hst : cutS s0 none (some 10) = st at S
  have hS := S.len
  obtain ⟨at', o2, e2, a0, a1, O2⟩ := r_next (N := N + 39800) (g := g ++ [.lst []]) (m := (st.cps.size : Int) + 1) (O1.mono (by omega)) (by omega) (by omega)
  obtain ⟨fi, o3, e3, f0, f1, O3⟩ := r_next (N := N + 39700) (g := g ++ [.lst []]) (m := 936) (O2.mono (by omega)) (by omega) (by omega)
  obtain ⟨cl, o4, e4, c0, c1, O4⟩ := r_next (N := N + 39600) (g := g ++ [.lst []]) (m := 2) (O3.mono (by omega)) (by omega) (by omega)
  obtain ⟨M, hr, hM⟩ : ∃ M : Nat, (∀ g, rngK (.int 2000) g = .ok (rangeD 0 M, fun _ => True) g) ∧ M = 2000 := ⟨Int.toNat 2000, fun g => rngK_of (by decide) (by decide), rfl⟩
  have n1 := g.length + 1
  obtain ⟨s, hs1, hs2, hs3⟩ : ∃ s : Nat, (cl = 1 → s = 0) ∧ (cl = 0 → (s : Int) = 3 * many) ∧ s ≤ 93 := by
    by_cases hc : cl = 1
    · exact ⟨0, fun _ => rfl, fun z => by omega, by omega⟩
    · exact ⟨(3 * many).toNat, fun z => absurd z hc, fun _ => by omega, by omega⟩
  obtain ⟨x7, x8, x9, fs, o5, e5, nd, kk, l1, O5⟩ := forL_inv (G := fun _ => True) (g := gSlot 7) (body := b_n__law_kinds_1)
    (R := fun r => ∃ (x7 x8 x9 : Option Q.D) (fs : List Str) (o' : Q.O), r = .nx [some (.ref 0), some (.int many), some (.ref (g.length + 1)), some (.str st), some (.int at'), some (.int fi), some (.int cl), x7, x8, x9] (o' :: (g ++ [.lst (fs.map .str)])) ∧ fs.Nodup ∧ (∀ k ∈ fs, Kind k) ∧ (fs.length : Int) = many ∧ Ok N o')
    (fun ds σ h' => ∃ (x7 x8 x9 : Option Q.D) (fs : List Str) (o' : Q.O), σ = [some (.ref 0), some (.int many), some (.ref (g.length + 1)), some (.str st), some (.int at'), some (.int fi), some (.int cl), x7, x8, x9] ∧ h' = o' :: (g ++ [.lst (fs.map .str)]) ∧ fs.Nodup ∧ (∀ k ∈ fs, Kind k) ∧ Cov (cutS st none (some at')) (cutS st (some at') none) fi s fs (M - ds.length) ∧ fs.length ≤ many ∧ Ok (N + 15 * ds.length) o' ∧ ds = rangeD ((M - ds.length : Nat) : Int) ds.length ∧ ds.length ≤ M)
    (fun σ h' ⟨x7, x8, x9, fs, o', e1, e2, nd, kk, l1, l2, O, _⟩ => ⟨trivial, x7, x8, x9, fs, o', by rw [e1, e2], nd, kk, by
      rw [List.length_nil, Nat.sub_zero, hM] at l1
      have := cov_len l1 hs3
      omega, O.mono (by omega)⟩)
    (fun d ds σ h' ⟨x7, x8, x9, fs, o', e1, e2, nd, kk, l1, l2, O, hd⟩ => by
      subst e1 e2
      rw [List.length_cons] at hd
      obtain ⟨hd, hdl⟩ := hd
      rw [rangeD_cons] at hd
      obtain ⟨i, hii, hi⟩ : ∃ i : Nat, i = M - (ds.length + 1) ∧ i < 2000 := ⟨_, rfl, by omega⟩
      rw [← hii] at hd
      have hds : ds = rangeD ((M - ds.length : Nat) : Int) ds.length := by
        have := (List.cons.inj hd).2
        rw [show ((M - ds.length : Nat) : Int) = (i : Int) + 1 by omega]
        exact this
      obtain rfl := (List.cons.inj hd).1
      refine ⟨trivial, [some (.ref 0), some (.int many), some (.ref (g.length + 1)), some (.str st), some (.int at'), some (.int fi), some (.int cl), some (.int i), x8, x9], o' :: (g ++ [.lst (fs.map .str)]), rfl, ?_⟩
      have hlen := len_ref (h := o' :: (g ++ [.lst (fs.map .str)])) (n := g.length + 1) la_last
      rw [List.length_map] at hlen
      by_cases hm : (fs.length : Int) = many
      · have hb : b_n__law_kinds_1 [some (.ref 0), some (.int many), some (.ref (g.length + 1)), some (.str st), some (.int at'), some (.int fi), some (.int cl), some (.int i), x8, x9] (o' :: (g ++ [.lst (fs.map .str)])) = .bk [some (.ref 0), some (.int many), some (.ref (g.length + 1)), some (.str st), some (.int at'), some (.int fi), some (.int cl), some (.int i), x8, x9] (o' :: (g ++ [.lst (fs.map .str)])) := by
          simp -implicitDefEqProofs [b_n__law_kinds_1, hlen, hm]
        rw [hb]
        exact ⟨some (.int i), x8, x9, fs, o', rfl, nd, kk, hm, O.mono (by omega)⟩
      · rw [List.length_cons] at O l1
        -- the name is put down if it is new
        have fin : ∀ (nm : Str) (o2 : Q.O) (x9' : Option Q.D) (r : Out), (s ≤ i → nm = nmd (cutS st none (some at')) (cutS st (some at') none) ((fi + (i : Int) * 7) % 936)) → Kind nm → Ok (N + 15 * ds.length) o2 →
            r = (if nm ∈ fs then .nx [some (.ref 0), some (.int many), some (.ref (g.length + 1)), some (.str st), some (.int at'), some (.int fi), some (.int cl), some (.int i), some (.str nm), x9'] (o2 :: (g ++ [.lst (fs.map .str)]))
              else .nx [some (.ref 0), some (.int many), some (.ref (g.length + 1)), some (.str st), some (.int at'), some (.int fi), some (.int cl), some (.int i), some (.str nm), x9'] (o2 :: (g ++ [.lst ((fs ++ [nm]).map .str)]))) →
            (match r with
              | .nx σ2 h2 => ∃ (x7 x8 x9 : Option Q.D) (fs : List Str) (o' : Q.O), σ2 = [some (.ref 0), some (.int many), some (.ref (g.length + 1)), some (.str st), some (.int at'), some (.int fi), some (.int cl), x7, x8, x9] ∧ h2 = o' :: (g ++ [.lst (fs.map .str)]) ∧ fs.Nodup ∧ (∀ k ∈ fs, Kind k) ∧ Cov (cutS st none (some at')) (cutS st (some at') none) fi s fs (M - ds.length) ∧ fs.length ≤ many ∧ Ok (N + 15 * ds.length) o' ∧ ds = rangeD ((M - ds.length : Nat) : Int) ds.length ∧ ds.length ≤ M
              | .ct σ2 h2 => ∃ (x7 x8 x9 : Option Q.D) (fs : List Str) (o' : Q.O), σ2 = [some (.ref 0), some (.int many), some (.ref (g.length + 1)), some (.str st), some (.int at'), some (.int fi), some (.int cl), x7, x8, x9] ∧ h2 = o' :: (g ++ [.lst (fs.map .str)]) ∧ fs.Nodup ∧ (∀ k ∈ fs, Kind k) ∧ Cov (cutS st none (some at')) (cutS st (some at') none) fi s fs (M - ds.length) ∧ fs.length ≤ many ∧ Ok (N + 15 * ds.length) o' ∧ ds = rangeD ((M - ds.length : Nat) : Int) ds.length ∧ ds.length ≤ M
              | .bk σ2 h2 => ∃ (x7 x8 x9 : Option Q.D) (fs : List Str) (o' : Q.O), Out.nx σ2 h2 = .nx [some (.ref 0), some (.int many), some (.ref (g.length + 1)), some (.str st), some (.int at'), some (.int fi), some (.int cl), x7, x8, x9] (o' :: (g ++ [.lst (fs.map .str)])) ∧ fs.Nodup ∧ (∀ k ∈ fs, Kind k) ∧ (fs.length : Int) = many ∧ Ok N o'
              | r => ∃ (x7 x8 x9 : Option Q.D) (fs : List Str) (o' : Q.O), r = .nx [some (.ref 0), some (.int many), some (.ref (g.length + 1)), some (.str st), some (.int at'), some (.int fi), some (.int cl), x7, x8, x9] (o' :: (g ++ [.lst (fs.map .str)])) ∧ fs.Nodup ∧ (∀ k ∈ fs, Kind k) ∧ (fs.length : Int) = many ∧ Ok N o') := fun nm o2 x9' r hcv kn O2 er => by
          have cov2 : ∀ fs', (∀ x ∈ fs, x ∈ fs') → nm ∈ fs' → Cov (cutS st none (some at')) (cutS st (some at') none) fi s fs' (M - ds.length) := fun fs' h1 h2 j j0 j1 => by
            by_cases hj : j = i
            · rw [hj, ← hcv (by omega)]; exact h2
            · exact h1 _ (l1 j j0 (by omega))
          by_cases hin : nm ∈ fs
          · rw [if_pos hin] at er
            subst er
            exact ⟨some (.int i), some (.str nm), x9', fs, o2, rfl, rfl, nd, kk, cov2 fs (fun _ h => h) hin, l2, O2, hds, by omega⟩
          · rw [if_neg hin] at er
            subst er
            refine ⟨some (.int i), some (.str nm), x9', fs ++ [nm], o2, rfl, rfl, ?_, fun k m => ?_, cov2 _ (fun _ h => List.mem_append_left _ h) (by simp), by rw [List.length_append, List.length_singleton]; omega, O2, hds, by omega⟩
            · rw [List.nodup_append]
              exact ⟨nd, by simp, fun a ha c hc => by rw [List.mem_singleton.mp hc]; exact fun z => hin (z ▸ ha)⟩
            · rcases List.mem_append.mp m with m | m
              · exact kk k m
              · rw [List.mem_singleton.mp m]; exact kn
        have hfs : (fs.map Q.D.str).length < 16777216 := by rw [List.length_map]; omega
        have m3 : ∀ g, dMul (.int 3) (.int many) g = some (.int (3 * many), g) := fun g => mul_ok (by omega) (by omega) (by omega) (by omega)
        have m7 : ∀ g, dMul (.int i) (.int 7) g = some (.int ((i : Int) * 7), g) := fun g => mul_ok (by omega) (by omega) (by omega) (by omega)
        by_cases hA : cl = 0 ∧ (i : Int) < 3 * many
        · obtain ⟨nm, o2, en, kn, O2⟩ := r_kind (N := N + 15 * ds.length) (g := g ++ [.lst (fs.map .str)]) (O.mono (by omega))
          refine fin nm o2 x9 _ (fun z => by have := hs2 hA.1; omega) kn O2 ?_
          obtain ⟨hA1, hA2⟩ := hA
          have hB : ¬ 3 * many ≤ (i : Int) := by omega
          by_cases hin : nm ∈ fs
          · simp -implicitDefEqProofs [b_n__law_kinds_1, hlen, hm, hA1, hA2, m3, en, in_ref (ks := fs) (n := g.length + 1) la_last, hin, hB, -run_dInt]
          · simp -implicitDefEqProofs [b_n__law_kinds_1, hlen, hm, hA1, hA2, m3, en, in_ref (ks := fs) (n := g.length + 1) la_last, hin, hB, app_last hfs, isT_last, -run_dInt]
        · have hB : (cl = 0 ∧ 3 * many ≤ (i : Int)) ∨ cl = 1 := by omega
          obtain ⟨num, hnum⟩ : ∃ num : Int, num = (fi + (i : Int) * 7) % 936 := ⟨_, rfl⟩
          have hmod : ∀ g, dMod (.int (fi + (i : Int) * 7)) (.int 936) g = some (.int num, g) := fun g => hnum ▸ mod_ok (by omega)
          have u0 : 0 ≤ num := hnum ▸ Int.emod_nonneg _ (by omega)
          have u1 : num < 936 := hnum ▸ Int.emod_lt_of_pos _ (by omega)
          have hdiv : ∀ g, dDiv (.int num) (.int 36) g = some (.int (num / 36), g) := fun g => div_ok (by omega) (by omega)
          have hmod2 : ∀ g, dMod (.int num) (.int 36) g = some (.int (num % 36), g) := fun g => mod_ok (by omega)
          obtain ⟨hc, hix⟩ := ix_azc (i := num / 36) (by omega) (by omega)
          obtain ⟨hc', hix'⟩ := ix_azd (i := num % 36) (by omega) (by omega)
          have hcv0 : nmd (cutS st none (some at')) (cutS st (some at') none) num = (((cutS st none (some at') ++ ⟨#[azc (num / 36)]⟩) ++ ⟨#[azd (num % 36)]⟩) ++ cutS st (some at') none) := rfl
          rw [hnum] at hcv0
          rw [← hnum] at hcv0
          generalize azc (num / 36) = c at *
          generalize azd (num % 36) = c' at *
          have kn := S.kind a0 (by omega) hc hc'
          have sl1 : ∀ g, dSl (.str st) none (some at') g = some (.str (cutS st none (some at')), g) := fun g => if_pos (by show st.cps.size ≤ _; omega)
          have sl2 : ∀ g, dSl (.str st) (some at') none g = some (.str (cutS st (some at') none), g) := fun g => if_pos (by show st.cps.size ≤ _; omega)
          have z1 := kn.len
          generalize cutS st none (some at') = sa at *
          generalize cutS st (some at') none = sb at *
          rw [size_app, size_app, size_app] at z1
          have p1 : ∀ h, dPlus (.str sa) (.str ⟨#[c]⟩) h = some (.str (sa ++ ⟨#[c]⟩), h) := fun h => plus_str (by show sa.cps.size + 1 ≤ _; omega)
          have p2 : ∀ h, dPlus (.str (sa ++ ⟨#[c]⟩)) (.str ⟨#[c']⟩) h = some (.str ((sa ++ ⟨#[c]⟩) ++ ⟨#[c']⟩), h) := fun h => plus_str (by show (sa ++ ⟨#[c]⟩ : Str).cps.size + 1 ≤ _; rw [size_app]; show sa.cps.size + 1 + 1 ≤ _; omega)
          have p3 : ∀ h, dPlus (.str ((sa ++ ⟨#[c]⟩) ++ ⟨#[c']⟩)) (.str sb) h = some (.str (((sa ++ ⟨#[c]⟩) ++ ⟨#[c']⟩) ++ sb), h) := fun h => plus_str (by show ((sa ++ ⟨#[c]⟩) ++ ⟨#[c']⟩ : Str).cps.size + sb.cps.size ≤ _; rw [size_app, size_app]; omega)
          generalize (((sa ++ ⟨#[c]⟩) ++ ⟨#[c']⟩) ++ sb : Str) = nm at *
          refine fin nm o' (some (.int num)) _ (fun _ => by rw [← hnum]; exact hcv0.symm) kn (O.mono (by omega)) ?_
          clear hnum hcv0
          rcases hB with ⟨q1, q2⟩ | q1
          · have q3 : ¬ (i : Int) < 3 * many := by omega
            by_cases hin : nm ∈ fs
            · simp -implicitDefEqProofs [b_n__law_kinds_1, hlen, hm, q1, q2, q3, m3, m7, hmod, hdiv, hmod2, hix, hix', sl1, sl2, p1, p2, p3, in_ref (ks := fs) (n := g.length + 1) la_last, hin, -run_dInt]
            · simp -implicitDefEqProofs [b_n__law_kinds_1, hlen, hm, q1, q2, q3, m3, m7, hmod, hdiv, hmod2, hix, hix', sl1, sl2, p1, p2, p3, in_ref (ks := fs) (n := g.length + 1) la_last, hin, app_last hfs, isT_last, -run_dInt]
          · by_cases hin : nm ∈ fs
            · simp -implicitDefEqProofs [b_n__law_kinds_1, hlen, hm, q1, m3, m7, hmod, hdiv, hmod2, hix, hix', sl1, sl2, p1, p2, p3, in_ref (ks := fs) (n := g.length + 1) la_last, hin, -run_dInt]
            · simp -implicitDefEqProofs [b_n__law_kinds_1, hlen, hm, q1, m3, m7, hmod, hdiv, hmod2, hix, hix', sl1, sl2, p1, p2, p3, in_ref (ks := fs) (n := g.length + 1) la_last, hin, app_last hfs, isT_last, -run_dInt])
    (rangeD 0 M) [some (.ref 0), some (.int many), some (.ref (g.length + 1)), some (.str st), some (.int at'), some (.int fi), some (.int cl), none, none, none] (o4 :: (g ++ [.lst []]))
    ⟨none, none, none, [], o4, rfl, rfl, List.nodup_nil, (fun _ m => nomatch m), (fun j _ j1 => by rw [rangeD_len] at j1; omega), by simp; omega, O4.mono (by rw [rangeD_len]; omega), by rw [rangeD_len, Nat.sub_self]; rfl, by rw [rangeD_len]; omega⟩
  have srt := sort_strs (h := o5 :: (g ++ [.lst (fs.map .str)])) (n := g.length + 1) (ks := fs) la_last (by omega)
  have pm := List.mergeSort_perm fs leS
  refine ⟨fs.mergeSort leS, o5, ?_, fun k m => kk k (pm.mem_iff.mp m), asc_sort nd, by rw [pm.length_eq]; exact l1, O5⟩
  have sl0 : ∀ g, dSl (.str s0) none (some 10) g = some (.str st, g) := fun g => hst ▸ if_pos (by have := K1.len; show s0.cps.size ≤ _; omega)
  have ln : ∀ g, gLen [.str st] g = some (.int (st.cps.size : Int), g) := fun g => len_str' (by show st.cps.size ≤ _; omega)
  simp -implicitDefEqProofs [m_n__law_kinds, e1, sl0, ln, e2, e3, e4, hr, e5, srt, -rngK_int]
  exact trim_str O5 clo_ks
theorem r_kinds {many : Int} (m1 : 1 ≤ many) (m2 : many ≤ 30) (O : Ok (N + 40000) o) : ∃ ks o', f_n__law_kinds [.ref 0, .int many] (o :: g) = .ok (ksD ks) (o' :: g) ∧ Kinds ks ∧ Ok N o' := by
  obtain ⟨ks, o', e, h1, h2, h3, O'⟩ := r_kindsN m1 (by omega) O
  exact ⟨ks, o', e, ⟨h1, h2, by omega, by omega⟩, O'⟩
end P

namespace P
open PySem PySem.Spec PyProof.Rows L2 Q G
variable {h g : AH} {i j k : Int} {s t : Str} {b : Bool} {ds : List Q.D} {ks os : List Str} {N : Nat} {o : O}
/-! ### the law's own translation -/
theorem lk_get : ∀ {ks : List Str} {ts : List Tm} {x : Str} {n : Nat}, ts.length = ks.length → ks.Nodup → ks[n]? = some x → ts[n]? = some (lk ks ts x)
  | [], _, _, _, _, _, e => by simp at e
  | k :: ks, [], _, _, l, _, _ => by cases l
  | k :: ks, t :: ts, x, 0, l, nd, e => by
    simp at e
    subst e
    simp [lk]
  | k :: ks, t :: ts, x, n + 1, l, nd, e => by
    rw [List.nodup_cons] at nd
    have e' : ks[n]? = some x := by simpa using e
    have ne : ¬ k = x := fun z => nd.1 (z ▸ List.mem_of_getElem? e')
    simp only [lk, ne, if_false]
    simpa using lk_get (by simpa using l) nd.2 e'
theorem Kinds.nodup (K : Kinds ks) : ks.Nodup := K.asc.imp fun {a b} hab e => by
  subst e
  exact List.lt_irrefl _ (of_decide_eq_true hab)
theorem filter_one {ks : List Str} {x : Str} (nd : ks.Nodup) {n : Nat} (e : ks[n]? = some x) : (List.range ks.length).filter (fun i => decide (ks[i]? = some x)) = [n] := by
  have hn := (List.getElem?_eq_some_iff.mp e).1
  have : ∀ m, m ≤ ks.length → (List.range m).filter (fun i => decide (ks[i]? = some x)) = if n < m then [n] else [] := by
    intro m
    induction m with
    | zero => intro _; simp
    | succ m ih =>
      intro hm
      rw [List.range_succ, List.filter_append, ih (by omega)]
      by_cases hmn : m = n
      · subst hmn
        simp [e]
      · have : ¬ ks[m]? = some x := fun z => hmn ((List.getElem?_inj (by omega) nd).mp (z.trans e.symm))
        simp [this]
        by_cases h1 : n < m
        · simp [h1, show n < m + 1 by omega]
        · simp [h1, show ¬ n < m + 1 by omega]
  rw [this _ (Nat.le_refl _), if_pos hn]
end P

namespace P
open PySem PySem.Spec PyProof.Rows L2 Q G
variable {h g : AH} {i j k : Int} {s t : Str} {b : Bool} {ds : List Q.D} {ks os : List Str} {N : Nat} {o : O}
/-! ### terms drawn -/
/-- what a comprehension that draws keeps -/
def Sh (g : AH) (P : O → Prop) (h : AH) : Prop := ∃ o, h = o :: g ∧ P o
theorem Rows.kinds (K : Kinds ks) : Rows g (ksD ks) (ks.map .str) := Rows.tup (by have := K.pos; rw [List.length_map]; omega) (by have := K.most; simp; omega)
theorem terms_of {ys : List Q.D} (h : ∀ y ∈ ys, ∃ t : Tm, y = tmD t ∧ t.1 ∈ os) : ∃ ts : List Tm, ys = ts.map tmD ∧ ∀ t ∈ ts, t.1 ∈ os := by
  induction ys with
  | nil => exact ⟨[], rfl, fun _ m => nomatch m⟩
  | cons y ys ih =>
    obtain ⟨t, rfl, ht⟩ := h y List.mem_cons_self
    obtain ⟨ts, rfl, hts⟩ := ih fun z hz => h z (List.mem_cons_of_mem _ hz)
    refine ⟨t :: ts, rfl, fun u hu => ?_⟩
    rcases List.mem_cons.mp hu with rfl | hu
    · exact ht
    · exact hts u hu
/-- a comprehension that draws: what holds of the heap by the turns that are left, and of each item -/
theorem lc_draw {G : AH → Prop} {g : MG} {m : M} {σ : AS} {J : Nat → AH → Prop} {T : Q.D → Prop} (hG : ∀ n h, J n h → G h) : ∀ (ds acc : List Q.D) (h : AH), J ds.length h → (∀ d ∈ ds, ∀ n h, J (n + 1) h → ∃ σ1 y h2, g d σ h = some (σ1, h) ∧ m σ1 h = .ok y h2 ∧ J n h2 ∧ T y) → acc.length + ds.length ≤ 16777216 →
    ∃ ys h', lcL G g tYesM m σ ds acc h = .ok (acc ++ ys) h' ∧ J 0 h' ∧ ys.length = ds.length ∧ ∀ y ∈ ys, T y
  | [], acc, h, j, _, _ => ⟨[], h, by rw [lcL, if_pos (hG _ h j)]; simp, j, rfl, by simp⟩
  | d :: ds, acc, h, j, hd, hl => by
    obtain ⟨σ1, y, h2, a, b, j2, ty⟩ := hd d List.mem_cons_self _ h j
    rw [List.length_cons] at hl
    obtain ⟨ys, h', e, j', l, tys⟩ := lc_draw hG ds (acc ++ [y]) h2 j2 (fun x hx => hd x (List.mem_cons_of_mem _ hx)) (by simp; omega)
    refine ⟨y :: ys, h', ?_, j', by rw [List.length_cons, List.length_cons, l], fun z hz => ?_⟩
    · rw [lcL, if_pos (hG _ h j), a]
      dsimp only
      rw [run_tYes]
      dsimp only
      rw [b]
      dsimp only
      rw [if_pos (by omega), e]
      simp
    · rcases List.mem_cons.mp hz with rfl | hz
      · exact ty
      · exact tys z hz
/-- the draws of a comprehension over the stream -/
theorem lc_terms {g : AH} {mg : MG} {m : M} {σ : AS} (ds : List Q.D) (c : Nat) {o : Q.O} (O : Ok (N + c * ds.length) o) (hl : ds.length ≤ 30)
    (hd : ∀ d ∈ ds, ∀ n o, Ok (N + c * (n + 1)) o → ∃ (σ1 : AS) (t : Tm) (o2 : Q.O), mg d σ (o :: g) = some (σ1, o :: g) ∧ m σ1 (o :: g) = .ok (tmD t) (o2 :: g) ∧ Ok (N + c * n) o2 ∧ t.1 ∈ os) :
    ∃ (ts : List Tm) (o' : Q.O), lcL (fun _ => True) mg tYesM m σ ds [] (o :: g) = .ok (ts.map tmD) (o' :: g) ∧ Ok N o' ∧ ts.length = ds.length ∧ ∀ t ∈ ts, t.1 ∈ os := by
  obtain ⟨ys, h', e, ⟨o', rfl, O'⟩, l, ty⟩ := lc_draw (G := fun _ => True) (J := fun n h => ∃ o, h = o :: g ∧ Ok (N + c * n) o) (T := fun y => ∃ t : Tm, y = tmD t ∧ t.1 ∈ os) (fun _ _ _ => trivial) ds [] (o :: g) ⟨o, rfl, O⟩
    (fun d hdm n h ⟨o1, eh, O1⟩ => by
      subst eh
      obtain ⟨σ1, t, o2, a, b, O2, ht⟩ := hd d hdm n o1 O1
      exact ⟨σ1, tmD t, o2 :: g, a, b, ⟨o2, rfl, O2⟩, t, rfl, ht⟩) (by simp; omega)
  obtain ⟨ts, rfl, hts⟩ := terms_of ty
  exact ⟨ts, o', by simpa using e, by simpa using O', by simpa using l, hts⟩
end P

namespace P
open PySem PySem.Spec PyProof.Rows L2 Q G
variable {h g : AH} {i j k : Int} {s t : Str} {b : Bool} {ds : List Q.D} {ks os : List Str} {N : Nat} {o : O}
/-! ### questions drawn -/
theorem rows_last {xs : List Q.D} (h0 : 0 < xs.length) (h1 : xs.length ≤ 1000000) : Rows (g ++ [.lst xs]) (.ref (g.length + 1)) xs :=
  ⟨fun o => len_ref la_last, fun o i => ix_ref la_last, h0, h1⟩
theorem tup_last {o' : O} {xs : List Q.D} : gTuple [.ref (g.length + 1)] (o' :: (g ++ [.lst xs])) = some (.tup xs, o' :: (g ++ [.lst xs])) := tuple_ref la_last
end P

namespace P
open PySem PySem.Spec PyProof.Rows L2 Q G
variable {h g : AH} {i j k : Int} {s t : Str} {b : Bool} {ds : List Q.D} {ks os : List Str} {N : Nat} {o : O}
/-! ### a list and a dict of what stands in it -/
section
variable {α : Type} [DecidableEq α] (E : KeyEnc α)
def H2 (h : AH) (fs : List Q.D) (as : List α) : AH := h ++ [.lst fs, .dt (E.set as)]
theorem h2_list {fs : List Q.D} {as : List α} : Q.listAt (H2 E h fs as) h.length = some fs := listAt_eq (by simp [H2])
theorem h2_obj {fs : List Q.D} {as : List α} : objAt (H2 E h fs as) (.ref (h.length + 1)) = some (.dt (E.set as)) := by
  show (h ++ [O.lst fs, .dt (E.set as)])[h.length + 1]? = _
  rw [List.getElem?_append_right (by omega)]
  simp
theorem h2_in {fs : List Q.D} {as : List α} {a : α} {neg : Bool} : dIn neg (E.enc a) (.ref (h.length + 1)) (H2 E h fs as) = some (.bl (neg != decide (a ∈ as)), H2 E h fs as) := in_set E (h2_obj E)
theorem h2_put {fs : List Q.D} {as : List α} {a : α} (hl : as.length < 16777216) : dSet (.ref (h.length + 1)) (E.enc a) (.bl true) (H2 E h fs as) = some (H2 E h fs (add as a)) := by
  have := set_set E (h := h ++ [.lst fs]) (as := as) (a := a) hl
  rw [List.length_append, List.length_singleton, List.append_assoc, List.append_assoc] at this
  exact this
theorem h2_app {fs : List Q.D} {as : List α} {d : Q.D} (hl : fs.length < 16777216) : mAppend (.ref h.length) [d] (H2 E h fs as) = some (.non, H2 E h (fs ++ [d]) as) := by
  unfold mAppend
  dsimp only
  rw [h2_list]
  dsimp only
  rw [if_pos hl]
  simp [H2]
theorem h2_isT {fs : List Q.D} {as : List α} : isT "list" (H2 E h fs as) (.ref h.length) = true := by
  have := listAt_some (h2_list E (h := h) (fs := fs) (as := as))
  simp [isT, lsq, this]
theorem h2_len {fs : List Q.D} {as : List α} : gLen [.ref h.length] (H2 E h fs as) = some (.int fs.length, H2 E h fs as) := len_ref (h2_list E)
end
section
variable {α : Type} [DecidableEq α] (E : KeyEnc α)
theorem trim_h2 {fs : List Q.D} {as : List α} (hd : closeds h.length fs = true) : trimR h true (.ok (.ref h.length) (H2 E h fs as)) = .ok (.fro fs) h :=
  trim_fro (h1 := h) (g := [.lst fs, .dt (E.set as)]) (k := 0) rfl okT_app rfl hd
end
end P

namespace P
open PySem PySem.Spec PyProof.Rows L2 Q G
variable {h g : AH} {i j k : Int} {s t : Str} {b : Bool} {ds : List Q.D} {ks os : List Str} {N : Nat} {o : O}
/-! ### numbered sentences -/
theorem ix_ks {n : Int} (h0 : 0 ≤ n) (h1 : n < ks.length) : ∃ k ∈ ks, ∀ h, dIx (ksD ks) (.int n) h = some (.str k, h) := by
  obtain ⟨d, ed, at1⟩ := atI_i (xs := ks.map Q.D.str) h0 (by rw [List.length_map]; exact h1)
  obtain ⟨k, hk, rfl⟩ := List.mem_map.mp (List.mem_of_getElem? ed)
  exact ⟨k, hk, fun h => by rw [ksD, ix_tup', at1]; rfl⟩
theorem ln_ks : gLen [ksD ks] h = some (.int ks.length, h) := by rw [ksD, len_tup', List.length_map]
/-- so many kinds as are ever drawn -/
structure Few (ks : List Str) : Prop where
  pos : 1 ≤ ks.length
  most : ks.length ≤ 31
theorem Kinds.few (K : Kinds ks) : Few ks := ⟨K.pos, by have := K.most; omega⟩
end P

namespace P
open PySem PySem.Spec PyProof.Rows L2 Q G
variable {h g : AH} {i j k : Int} {s t : Str} {b : Bool} {ds : List Q.D} {ks os : List Str} {N : Nat} {o : O} {ts : List Tm}
/-! ### translation goes with contraries and mirrors -/
@[simp] theorem flp_flp {t : Tm} : flp (flp t) = t := by simp [flp]
theorem tr_flp {t : Tm} : tr ks ts (flp t) = flp (tr ks ts t) := by
  unfold tr
  cases h : t.2 <;> simp [flp, h]
theorem cont_tr {s : Sen} : cont (trS ks ts s) = trS ks ts (cont s) := by
  unfold cont
  by_cases h1 : s.w = "all"
  · simp [trS, h1, tr_flp]
  · by_cases h2 : s.w = "some"
    · simp [trS, h1, h2, tr_flp]
    · by_cases h3 : s.w = "more" <;> simp [trS, h1, h2, h3]
theorem mir_tr {s : Sen} : mir (trS ks ts s) = trS ks ts (mir s) := by
  unfold mir
  by_cases h1 : s.w = "some" <;> simp [trS, h1, tr_flp]
theorem alw_tr {s : Sen} (h : alw s = true) : alw (trS ks ts s) = true := by
  unfold alw at *
  simp only [Bool.and_eq_true, decide_eq_true_eq] at h
  simp [trS, h.1, h.2]
theorem alw_cont {s : Sen} (h : alw (cont s) = true) : alw (trS ks ts s) = false := by
  unfold alw cont at *
  by_cases h1 : s.w = "all"
  · simp [h1] at h
  · by_cases h2 : s.w = "some"
    · simp [trS, h2]
    · by_cases h3 : s.w = "more"
      · simp [trS, h3]
      · simp [h1, h2, h3] at h
theorem its_tr {s : Sen} : its s = "open" ∨ its (trS ks ts s) = its s := by
  unfold its
  by_cases h1 : alw s = true
  · rw [if_pos h1, if_pos (alw_tr h1)]; exact .inr rfl
  · rw [if_neg h1]
    by_cases h2 : alw (cont s) = true
    · rw [if_pos h2, if_neg (by rw [alw_cont h2]; simp), cont_tr, if_pos (alw_tr h2)]; exact .inr rfl
    · rw [if_neg h2]; exact .inl rfl
end P

namespace P
open PySem PySem.Spec PyProof.Rows L2 Q G
variable {h g : AH} {i j k : Int} {s : Sen} {b : Bool} {ds : List Q.D} {ks os : List Str} {N : Nat} {o : O} {ts : List Tm}
theorem over_cont (O : Over ks s) : Over ks (cont s) := by
  unfold cont
  by_cases h1 : s.w = "all"
  · rw [if_pos h1]; exact ⟨show ("some" : Str) ∈ WD by decide, O.a, O.b⟩
  · rw [if_neg h1]
    by_cases h2 : s.w = "some"
    · rw [if_pos h2]; exact ⟨show ("all" : Str) ∈ WD by decide, O.a, O.b⟩
    · rw [if_neg h2]
      refine ⟨?_, O.b, O.a⟩
      show (if s.w = "more" then ("many" : Str) else "more") ∈ WD
      split <;> decide
theorem over_mir (O : Over ks s) : Over ks (mir s) := by
  unfold mir
  split
  · exact ⟨O.w, O.b, O.a⟩
  · exact ⟨O.w, O.b, O.a⟩
theorem sz_sn : sz (snD s) < 2000000 := by simp [snD, tmD, sz, szs]
theorem pln_sn : pln (snD s) = true := by simp [snD, tmD, pln, plns]
end P

namespace P
open PySem PySem.Spec PyProof.Rows L2 Q G
variable {h g : AH} {i j k : Int} {s : Sen} {b : Bool} {ds : List Q.D} {ks os : List Str} {N : Nat} {o : O} {ts ms : List Tm}
theorem lk_map {f : Tm → Tm} : ∀ {ks : List Str} {ts : List Tm} {x : Str}, x ∈ ks → ts.length = ks.length → lk ks (ts.map f) x = f (lk ks ts x)
  | [], _, _, m, _ => by cases m
  | k :: ks, [], _, _, l => by cases l
  | k :: ks, t :: ts, x, m, l => by
    rw [List.map_cons, lk, lk]
    by_cases e : k = x
    · rw [if_pos e, if_pos e]
    · rw [if_neg e, if_neg e]
      rcases List.mem_cons.mp m with z | z
      · exact absurd z.symm e
      · exact lk_map z (by simpa using l)
theorem tr_tr {t : Tm} (hl : ts.length = ks.length) (m : t.1 ∈ ks) : tr os ms (tr ks ts t) = tr ks (ts.map (tr os ms)) t := by
  unfold tr
  cases h : t.2 with
  | true => simp [lk_map m hl, tr]
  | false =>
    simp only [Bool.false_eq_true, if_false, lk_map m hl]
    exact tr_flp
theorem trS_trS (hl : ts.length = ks.length) (O : Over ks s) : trS os ms (trS ks ts s) = trS ks (ts.map (tr os ms)) s := by
  unfold trS
  rw [tr_tr hl O.a, tr_tr hl O.b]
theorem trQ_trQ {q : Qn} (hl : ts.length = ks.length) (O : OverQ ks q) : trQ os ms (trQ ks ts q) = trQ ks (ts.map (tr os ms)) q := by
  cases q with
  | one s => simp only [trQ]; rw [trS_trS hl O]
  | many ss =>
    simp only [trQ, List.map_map]
    congr 1
    exact List.map_congr_left fun s hs => trS_trS hl (O.2.2 s hs)
end P

namespace P
open PySem PySem.Spec PyProof.Rows L2 Q G
variable {h g : AH} {i j k : Int} {s : Sen} {b : Bool} {ds : List Q.D} {ks os : List Str} {N : Nat} {o : O} {ts ms : List Tm}
theorem szs_sns : ∀ ss : List Sen, szs (ss.map snD) = 8 * ss.length
  | [] => rfl
  | s :: ss => by
    rw [List.map_cons, szs, szs_sns ss, List.length_cons]
    simp [snD, tmD, sz, szs]
    omega
theorem plns_sns : ∀ ss : List Sen, plns (ss.map snD) = true
  | [] => rfl
  | s :: ss => by rw [List.map_cons, plns, pln_sn, plns_sns ss]; rfl
theorem sz_qn {q : Qn} (O : OverQ ks q) : sz (qnD q) < 2000000 := by
  cases q with
  | one s => exact sz_sn
  | many ss =>
    have := O.2.1
    rw [qnD, sz, szs_sns]
    omega
theorem pln_qn {q : Qn} : pln (qnD q) = true := by
  cases q with
  | one s => exact pln_sn
  | many ss => rw [qnD, pln]; exact plns_sns ss
theorem terms_map (T : Terms ks os ts) {xs : List Str} (M : Terms os xs ms) : Terms ks xs (ts.map (tr os ms)) := by
  refine ⟨by rw [List.length_map]; exact T.len, fun t ht => ?_⟩
  obtain ⟨u, hu, rfl⟩ := List.mem_map.mp ht
  exact tr_over M (T.ov u hu)
end P

namespace P
open PySem PySem.Spec PyProof.Rows L2 Q G
variable {h g : AH} {i j k : Int} {b : Bool} {ds : List Q.D} {ks os : List Str} {N : Nat} {o : O} {ts ms : List Tm}
/-! ### entries drawn -/
/-- what is found so far -/
structure Fnd (ks : List Str) (most : Int) (es : List En) : Prop where
  nd : es.Nodup
  ent : ∀ e ∈ es, Entry ks e
  len : es.length ≤ most
abbrev σe (most : Int) (ks : List Str) (n : Nat) (x5 x6 x7 x8 x9 x10 x11 : Option Q.D) : AS := [some (.ref 0), some (ksD ks), some (.int most), some (.ref n), some (.ref (n + 1)), x5, x6, x7, x8, x9, x10, x11]
theorem Fnd.add {most : Int} {es : List En} (F : Fnd ks most es) {e : En} (E : Entry ks e) (hn : e ∉ es) (hl : (es.length : Int) < most) : Fnd ks most (es ++ [e]) := by
  refine ⟨?_, fun x hx => ?_, by rw [List.length_append, List.length_singleton]; omega⟩
  · rw [List.nodup_append]
    exact ⟨F.nd, by simp, fun a ha c hc => by rw [List.mem_singleton.mp hc]; exact fun z => hn (z ▸ ha)⟩
  · rcases List.mem_append.mp hx with hx | hx
    · exact F.ent x hx
    · rw [List.mem_singleton.mp hx]; exact E
section
variable {es : List En} {e : En}
abbrev HH (g : AH) (o : O) (fs as : List En) : AH := o :: (g ++ [.lst (fs.map enD), .dt (EN.set as)])
theorem hh_in {neg : Bool} {fs as : List En} : dIn neg (enD e) (.ref (g.length + 2)) (HH g o fs as) = some (.bl (neg != decide (e ∈ as)), HH g o fs as) := (h2_in EN (h := o :: g) (a := e)).trans (by congr)
theorem hh_put {fs as : List En} (hn : e ∉ as) (hl : as.length < 16777216) : dSet (.ref (g.length + 2)) (enD e) (.bl true) (HH g o fs as) = some (HH g o fs (as ++ [e])) := by
  have := h2_put EN (h := o :: g) (fs := fs.map enD) (as := as) (a := e) hl
  unfold Q.add at this
  rw [if_neg hn] at this
  exact this
theorem hh_app {fs as : List En} (hl : fs.length < 16777216) : mAppend (.ref (g.length + 1)) [enD e] (HH g o fs as) = some (.non, HH g o (fs ++ [e]) as) := by
  have := h2_app EN (h := o :: g) (fs := fs.map enD) (as := as) (d := enD e) (by rw [List.length_map]; exact hl)
  rw [show fs.map enD ++ [enD e] = (fs ++ [e]).map enD by rw [List.map_append]; rfl] at this
  exact this
theorem hh_isT {fs as : List En} : isT "list" (HH g o fs as) (.ref (g.length + 1)) = true := h2_isT EN (h := o :: g)
theorem hh_len {fs as : List En} : gLen [.ref (g.length + 1)] (HH g o fs as) = some (.int fs.length, HH g o fs as) := by
  have := h2_len EN (h := o :: g) (fs := fs.map enD) (as := as)
  rw [List.length_map] at this
  exact this
end
end P

namespace P
open PySem PySem.Spec PyProof.Rows L2 Q G
variable {h g : AH} {i j k : Int} {b : Bool} {ds : List Q.D} {ks os : List Str} {N : Nat} {o : O} {ts ms : List Tm}
theorem cutD_from {xs : List Q.D} {n : Int} (h0 : 0 ≤ n) : cutD xs (some n) none = xs.drop n.toNat := by
  unfold Q.cutD
  rw [sIx_some h0, HT.sIx_none]
  by_cases hn : n.toNat ≤ xs.length
  · rw [Nat.min_eq_left hn, List.take_of_length_le (by rw [List.length_drop]; omega)]
  · rw [Nat.min_eq_right (by omega), List.drop_length, List.drop_of_length_le (by omega), List.take_nil]
theorem cutD_to {xs : List Q.D} {n : Int} (h0 : 0 ≤ n) : cutD xs none (some n) = xs.take n.toNat := by
  unfold Q.cutD
  rw [sIx_some h0, HT.sIx_none, List.drop_zero, Nat.sub_zero]
  by_cases hn : n.toNat ≤ xs.length
  · rw [Nat.min_eq_left hn]
  · rw [Nat.min_eq_right (by omega), List.take_length, List.take_of_length_le (by omega)]
theorem sl_ref {n : Nat} {xs : List Q.D} {lo hi : Option Int} (e : Q.listAt h n = some xs) : dSl (.ref n) lo hi h = some (.fro (Q.cutD xs lo hi), h) := by
  have e2 := listAt_some e
  simp [dSl, Q.lsq, e2]
theorem Fnd.turn {most : Int} {es : List En} (F : Fnd ks most es) (n : Nat) : Fnd ks most (es.drop n ++ es.take n) := by
  have p : (es.drop n ++ es.take n).Perm es := by
    have := List.perm_append_comm (l₁ := es.drop n) (l₂ := es.take n)
    rw [List.take_append_drop] at this
    exact this
  exact ⟨p.nodup_iff.mpr F.nd, fun e he => F.ent e (p.mem_iff.mp he), by rw [p.length_eq]; exact F.len⟩
end P

namespace P
open PySem PySem.Spec PyProof.Rows L2 Q G
variable {h g : AH} {i j k : Int} {b : Bool} {ds : List Q.D} {ks os : List Str} {N : Nat} {o : O} {s t u : Tm} {p q r : Sen}
/-! ### the order of terms and of sentences -/
def tmLt (t u : Tm) : Bool := if t.1 = u.1 then !t.2 && u.2 else strLt t.1 u.1
def snLt (p q : Sen) : Bool := if p.w = q.w then (if p.a = q.a then tmLt p.b q.b else tmLt p.a q.a) else strLt p.w q.w
theorem strLt_irr {x : Str} : strLt x x = false := by
  cases e : strLt x x with
  | false => rfl
  | true => exact (strLt_asymm e e).elim
theorem tmLt_irr : tmLt t t = false := by simp [tmLt]
theorem tmLt_asymm (h1 : tmLt t u = true) : tmLt u t = false := by
  unfold tmLt at *
  by_cases e : t.1 = u.1
  · rw [if_pos e] at h1
    rw [if_pos e.symm]
    cases h2 : t.2 <;> cases h3 : u.2 <;> simp_all
  · rw [if_neg e] at h1
    rw [if_neg (Ne.symm e)]
    cases h2 : strLt u.1 t.1 with
    | false => rfl
    | true => exact (strLt_asymm h1 h2).elim
theorem tmLt_tri (h1 : tmLt t u = false) (h2 : tmLt u t = false) : t = u := by
  unfold tmLt at *
  obtain ⟨t1, t2⟩ := t
  obtain ⟨u1, u2⟩ := u
  dsimp only at *
  by_cases e : t1 = u1
  · subst e
    cases t2 <;> cases u2 <;> simp_all
  · rw [if_neg e] at h1
    rw [if_neg (Ne.symm e)] at h2
    exact (e (strLt_tri h1 h2)).elim
theorem snLt_irr : snLt p p = false := by simp [snLt, tmLt_irr]
theorem snLt_asymm (h1 : snLt p q = true) : snLt q p = false := by
  unfold snLt at *
  by_cases e : p.w = q.w
  · rw [if_pos e] at h1
    rw [if_pos e.symm]
    by_cases e2 : p.a = q.a
    · rw [if_pos e2] at h1
      rw [if_pos e2.symm]
      exact tmLt_asymm h1
    · rw [if_neg e2] at h1
      rw [if_neg (Ne.symm e2)]
      exact tmLt_asymm h1
  · rw [if_neg e] at h1
    rw [if_neg (Ne.symm e)]
    cases h2 : strLt q.w p.w with
    | false => rfl
    | true => exact (strLt_asymm h1 h2).elim
theorem snLt_tri (h1 : snLt p q = false) (h2 : snLt q p = false) : p = q := by
  unfold snLt at *
  obtain ⟨p1, p2, p3⟩ := p
  obtain ⟨q1, q2, q3⟩ := q
  dsimp only at *
  by_cases e : p1 = q1
  · subst e
    rw [if_pos rfl] at h1 h2
    by_cases e2 : p2 = q2
    · subst e2
      rw [if_pos rfl] at h1 h2
      rw [tmLt_tri h1 h2]
    · rw [if_neg e2] at h1
      rw [if_neg (Ne.symm e2)] at h2
      exact (e2 (tmLt_tri h1 h2)).elim
  · rw [if_neg e] at h1
    rw [if_neg (Ne.symm e)] at h2
    exact (e (strLt_tri h1 h2)).elim
/-! ### as data -/
def tmP (t : Tm) : PyData := .tuple [.str t.1, .bool t.2]
def snP (p : Sen) : PyData := .tuple [.str p.w, tmP p.a, tmP p.b]
theorem pd_tmP : pd (tmD t) = some (tmP t) := rfl
theorem pd_snP : pd (snD p) = some (snP p) := rfl
theorem eqv_tmP : PyData.eqv (tmP t) (tmP u) = decide (t = u) := eqv_tm
theorem alike_tm : PySem.W.alike (tmP t) (tmP u) = true := by simp [tmP, PySem.W.alike, PySem.W.alikeAll]
theorem alike_sn : PySem.W.alike (snP p) (snP q) = true := by simp [snP, PySem.W.alike, PySem.W.alikeAll, alike_tm]
theorem data_tm : PySem.W.dataLt (tmP t) (tmP u) = tmLt t u := by
  unfold tmP
  rw [PySem.W.dataLt_pair (by simp [PySem.W.alike]) (by simp [PySem.W.alike]), PySem.W.dataLt_str, PySem.W.dataLt_bool]
  simp only [PyData.eqv, beq_iff_eq]
  unfold tmLt strLt
  by_cases e : t.1 = u.1
  · rw [if_pos e, if_pos e]
    cases t.2 <;> cases u.2 <;> rfl
  · rw [if_neg e, if_neg e]
theorem lex_nil : PyProof.Rows.lexLt itemOrd (PySem.W.keyToksAll []) (PySem.W.keyToksAll []) = false := PyProof.Rows.lex_irrefl _
theorem data_sn : PySem.W.dataLt (snP p) (snP q) = snLt p q := by
  unfold snP
  rw [PySem.W.dataLt_tuple, PySem.W.dataLt_cons (by simp [PySem.W.alike]), PySem.W.dataLt_cons alike_tm, PySem.W.dataLt_cons alike_tm, lex_nil, data_tm, data_tm, eqv_tmP, eqv_tmP, PySem.W.dataLt_str]
  simp only [PyData.eqv, beq_iff_eq, decide_eq_true_eq]
  unfold snLt
  by_cases e : p.w = q.w
  · rw [if_pos e, if_pos e]
    by_cases e2 : p.a = q.a
    · rw [if_pos e2, if_pos e2]
      by_cases e3 : p.b = q.b
      · rw [if_pos e3, e3, tmLt_irr]
      · rw [if_neg e3]
    · rw [if_neg e2, if_neg e2]
  · rw [if_neg e, if_neg e]
    rfl
@[simp] theorem le_sn : dLe (snD p) (snD q) h = some (.bl (!snLt q p), h) :=
  cmp_is (p := snP p) (q := snP q) rfl rfl (by unfold cOrd; rw [alike_sn]; rfl) (by simp [snP, tmP, PyData.depth, PyData.depthAll]) (by rw [data_sn])
@[simp] theorem min_sn : gMin2 [snD p, snD q] h = some (if snLt q p = true then snD q else snD p, h) := by
  unfold gMin2
  dsimp only
  rw [pd_snP, pd_snP]
  dsimp only
  rw [if_pos (by
    unfold ordP
    rw [alike_sn, alike_sn, alike_sn, alike_sn]
    simp [snP, tmP, notNone, PyData.depth, PyData.depthAll]), data_sn]
/-! ### plain -/
def pls (p : Sen) : Sen := if snLt (mir p) p = true then mir p else p
theorem r_plain_of : f_plain_of [snD p] h = .ok (snD (pls p)) h := by
  rw [e_plain_of]
  simp [m_plain_of, r_mirror_of]
  unfold pls
  split <;> simp [trim_same]
theorem r_plain (F : Free p) : f_plain [snD p] h = .ok (snD (pls p)) h := by
  rw [e_plain]
  simp [m_plain, r_check_free F, r_plain_of, trim_same]
theorem mir_mir : mir (mir p) = p := by
  unfold mir
  by_cases e : p.w = "some"
  · simp [e]
    rw [← e]
  · simp [e, flp_flp]
theorem cont_cont (hw : p.w ∈ WD) : cont (cont p) = p := by
  obtain ⟨w, a, b⟩ := p
  have : w = "all" ∨ w = "many" ∨ w = "more" ∨ w = "some" := by simpa [WD] using hw
  rcases this with rfl | rfl | rfl | rfl <;> simp [cont, flp_flp]
theorem pls_mir : pls (mir p) = pls p := by
  unfold pls
  rw [mir_mir]
  cases e1 : snLt (mir p) p with
  | true => rw [snLt_asymm e1]; simp
  | false =>
    cases e2 : snLt p (mir p) with
    | true => simp
    | false => simp [snLt_tri e1 e2]
end P

namespace P
open PySem PySem.Spec PyProof.Rows L2 Q G
variable {h g : AH} {i j k : Int} {b : Bool} {ds : List Q.D} {ks os : List Str} {N : Nat} {o : O} {s t u : Tm} {p q r : Sen}
/-! ### several clauses, and loops that append -/
section
variable {α : Type} {GG : AH → Prop} {gg : MG} {tt : MB} {inner : AS → List Q.D → AH → Res (List Q.D)} {σ : AS} {m : M} {body : MS}
theorem lcW_enc (enc : α → Q.D) (f : α → List Q.D) (hG : GG h) : ∀ (xs : List α) (acc : List Q.D), (∀ x ∈ xs, ∃ σ1, gg (enc x) σ h = some (σ1, h) ∧ tt σ1 h = .ok true h ∧ ∀ acc : List Q.D, acc.length + (f x).length ≤ 16777216 → inner σ1 acc h = .ok (acc ++ f x) h) →
    acc.length + (xs.flatMap f).length ≤ 16777216 → lcW GG gg tt inner σ (xs.map enc) acc h = .ok (acc ++ xs.flatMap f) h
  | [], acc, _, _ => by rw [List.map_nil, lcW, if_pos hG]; simp
  | x :: xs, acc, hd, hl => by
    obtain ⟨σ1, a, b, c⟩ := hd x List.mem_cons_self
    rw [List.flatMap_cons, List.length_append] at hl
    rw [List.map_cons, lcW, if_pos hG, a]
    dsimp only
    rw [b]
    dsimp only
    rw [c acc (by omega)]
    dsimp only
    rw [lcW_enc enc f hG xs _ (fun y hy => hd y (List.mem_cons_of_mem _ hy)) (by rw [List.length_append]; omega), List.flatMap_cons, List.append_assoc]
theorem lcN_one {y : Q.D} {acc : List Q.D} (e : m σ h = .ok y h) (hl : acc.length + [y].length ≤ 16777216) : lcN m [] σ acc h = .ok (acc ++ [y]) h := by
  rw [lcN, e]
  dsimp only
  rw [if_pos (by simp at hl; omega)]
theorem lcN_go {c : MC} {cs : List MC} {p : List Q.D × (AH → Prop)} {acc : List Q.D} (e : c.it σ h = .ok p h) : lcN m (c :: cs) σ acc h = lcW p.2 c.g c.t (lcN m cs) (wipeA σ c.vs) p.1 acc h := by
  rw [lcN, e]
theorem for_app {P : AS → Prop} (enc : α → Q.D) (f : α → List Q.D) : ∀ (xs : List α) (acc : List Q.D) (σ : AS), (∀ x ∈ xs, ∀ (σ : AS) (acc : List Q.D), P σ → acc.length + (f x).length ≤ 16777216 → ∃ σ1 σ2, gg (enc x) σ (h ++ [.lst acc]) = some (σ1, h ++ [.lst acc]) ∧ body σ1 (h ++ [.lst acc]) = .nx σ2 (h ++ [.lst (acc ++ f x)]) ∧ P σ2) →
    P σ → acc.length + (xs.flatMap f).length ≤ 16777216 → ∃ σ', forL (fun _ => True) gg body (xs.map enc) σ (h ++ [.lst acc]) = .nx σ' (h ++ [.lst (acc ++ xs.flatMap f)]) ∧ P σ'
  | [], acc, σ, _, hp, _ => ⟨σ, by rw [List.map_nil, forL_nil trivial]; simp, hp⟩
  | x :: xs, acc, σ, hd, hp, hl => by
    rw [List.flatMap_cons, List.length_append] at hl
    obtain ⟨σ1, σ2, a, b, c⟩ := hd x List.mem_cons_self σ acc hp (by omega)
    obtain ⟨σ', e, hp'⟩ := for_app enc f xs (acc ++ f x) σ2 (fun y hy => hd y (List.mem_cons_of_mem _ hy)) c (by rw [List.length_append]; omega)
    refine ⟨σ', ?_, hp'⟩
    rw [List.map_cons, forL_cons trivial a, b]
    dsimp only
    rw [e, List.flatMap_cons, List.append_assoc]
end
/-! ### the terms of kinds -/
def tms (ks : List Str) : List Tm := ks.flatMap fun k => [(k, false), (k, true)]
theorem tms_len : (tms ks).length = 2 * ks.length := by
  induction ks with
  | nil => rfl
  | cons k ks ih => simp only [tms, List.flatMap_cons, List.length_append, List.length_cons, List.length_nil] at *; omega
theorem tms_get : ∀ (ks : List Str) (n : Nat), (tms ks)[n]? = (ks[n / 2]?).map fun k => (k, decide (n % 2 = 1))
  | [], n => by simp [tms]
  | k :: ks, 0 => by simp [tms]
  | k :: ks, 1 => by simp [tms]
  | k :: ks, n + 2 => by
    have e : (n + 2) / 2 = n / 2 + 1 := by omega
    rw [e, List.getElem?_cons_succ, show (n + 2) % 2 = n % 2 from by omega, ← tms_get ks n]
    rfl
def BS : List Bool := [false, true]
theorem r_terms_among (hl : ks.length ≤ 1000) : f_terms_among [ksD ks] h = .ok (.tup ((tms ks).map tmD)) h := by
  rw [e_terms_among]
  simp [m_terms_among, eLcN, ksD]
  rw [lcW_enc (h := h) Q.D.str (fun k => [tmD (k, false), tmD (k, true)]) trivial ks [] (fun k hk => ⟨_, rfl, rfl, fun acc ha => by
    rw [lcN_go (p := (BS.map Q.D.bl, fun _ => True)) (by simp [BS])]
    refine Eq.trans (b := .ok (acc ++ BS.flatMap fun b => [tmD (k, b)]) h) (lcW_enc (h := h) (GG := fun _ => True) Q.D.bl (fun b => [tmD (k, b)]) trivial BS acc ?_ ?_) ?_
    · intro b hb
      refine ⟨_, rfl, rfl, fun acc ha => ?_⟩
      refine lcN_one (y := tmD (k, b)) ?_ ha
      simp [wipeA, tmD]
    · simp [BS] at ha ⊢; omega
    · simp [BS]⟩) (by
      have : (ks.flatMap fun k => [tmD (k, false), tmD (k, true)]).length = 2 * ks.length := by
        have := tms_len (ks := ks)
        rw [tms, ← List.length_map (f := tmD), List.map_flatMap] at this
        exact this
      rw [this]
      simp; omega)]
  rw [show (ks.flatMap fun k => [tmD (k, false), tmD (k, true)]) = (tms ks).map tmD from by rw [tms, List.map_flatMap]; rfl]
  simp [trim_same]
theorem p4000 : ((2 : Nat) < 2 ^ 4000) = True := eq_true (Nat.lt_of_le_of_lt (show 2 ≤ 2 ^ 1 by decide) (Nat.pow_lt_pow_right (by decide) (by decide)))
theorem n4000 {n : Nat} (hn : n < 2 ^ 100) : (n < 2 ^ 4000) = True := eq_true (Nat.lt_trans hn (Nat.pow_lt_pow_right (by decide) (by decide)))
theorem r_law_terms (hl : ks.length ≤ 1000) : f_n__law_terms [ksD ks] h = .ok (.fro ((tms ks).map tmD)) h := by
  rw [e_n__law_terms]
  have hb := n4000 (n := ks.length) (by omega)
  simp -implicitDefEqProofs [m_n__law_terms, ksD, p4000, hb, rngK_of (h := h) (j := 2 * (ks.length : Int)) (by omega) (by omega)]
  rw [lc_map (fun d => match d with | .int n => tmD (((tms ks)[n.toNat]?).getD ("", false)) | _ => .non) trivial _ (fun d hd => by
    obtain ⟨n, hn, rfl⟩ := mem_rangeD hd
    refine ⟨_, rfl, ?_⟩
    have hn2 : n / 2 < ks.length := by omega
    have e1 : atI (ks.map Q.D.str) ((n : Int) / 2) = some (.str ks[n / 2]) := by
      have := atI_n (xs := ks.map Q.D.str) (n := n / 2) (x := .str ks[n / 2]) (by simp [hn2])
      simpa using this
    have e2 : (tms ks)[n]? = some (ks[n / 2], decide (n % 2 = 1)) := by rw [tms_get, List.getElem?_eq_getElem hn2]; rfl
    have e3 : decide ((n : Int) % 2 = 1) = decide (n % 2 = 1) := by rw [Bool.eq_iff_iff]; simp; omega
    simp -implicitDefEqProofs [wipeA, p4000, e1, e2, e3, tmD]) (by simp; omega)]
  simp -implicitDefEqProofs [trim_same]
  refine List.ext_getElem? fun n => ?_
  rw [List.getElem?_map, List.getElem?_map]
  by_cases hn : n < 2 * ks.length
  · have e2 : n < (tms ks).length := by rw [tms_len]; exact hn
    rw [rangeD, List.getElem?_map, List.getElem?_range (by simp; omega), List.getElem?_eq_getElem e2]
    simp [List.getElem?_eq_getElem e2]
  · rw [List.getElem?_eq_none (by simp [rangeD]; omega), List.getElem?_eq_none (by rw [tms_len]; omega)]
    rfl
end P

namespace P
open PySem PySem.Spec PyProof.Rows L2 Q G
section
variable {α : Type} {G : AH → Prop} {g : MG} {t : MB} {m : M} {σ : AS} {h : AH}
theorem lc_fltA (e1 f : α → Q.D) (p : α → Bool) (hG : G h) : ∀ (xs : List α) (acc : List Q.D), (∀ x ∈ xs, ∃ σ1, g (e1 x) σ h = some (σ1, h) ∧ t σ1 h = .ok (p x) h ∧ (p x = true → m σ1 h = .ok (f x) h)) → acc.length + xs.length ≤ 16777216 → lcL G g t m σ (xs.map e1) acc h = .ok (acc ++ (xs.filter p).map f) h
  | [], acc, _, _ => by
    show lcL G g t m σ [] acc h = _
    rw [lcL, if_pos hG]; simp
  | x :: xs, acc, hd, hl => by
    obtain ⟨σ1, e2, e3, e4⟩ := hd x List.mem_cons_self
    rw [List.length_cons] at hl
    show lcL G g t m σ (e1 x :: xs.map e1) acc h = _
    rw [lcL, if_pos hG, e2]
    dsimp only
    rw [e3]
    by_cases hp : p x = true
    · rw [hp]
      dsimp only
      rw [e4 hp]
      dsimp only
      rw [if_pos (by omega), lc_fltA e1 f p hG xs _ (fun y hy => hd y (List.mem_cons_of_mem _ hy)) (by simp; omega), List.filter_cons_of_pos hp]
      simp
    · have hp' : p x = false := by simpa using hp
      rw [hp']
      dsimp only
      rw [lc_fltA e1 f p hG xs _ (fun y hy => hd y (List.mem_cons_of_mem _ hy)) (by omega), List.filter_cons_of_neg (by simpa using hp)]
theorem lc_flt (e1 f : α → Q.D) (p : α → Bool) (hG : G h) (xs : List α) (hd : ∀ x ∈ xs, ∃ σ1, g (e1 x) σ h = some (σ1, h) ∧ t σ1 h = .ok (p x) h ∧ (p x = true → m σ1 h = .ok (f x) h)) (hl : xs.length ≤ 16777216) : lcL G g t m σ (xs.map e1) [] h = .ok ((xs.filter p).map f) h := by
  rw [lc_fltA e1 f p hG xs [] hd (by simpa using hl), List.nil_append]
end
variable {h g : AH} {i j k : Int} {b : Bool} {ds : List Q.D} {ks os : List Str} {N : Nat} {o : O} {s t u : Tm} {p q r : Sen}
/-! ### all sentences of terms, and the plain ones -/
def good (p : Sen) : Bool := !snLt (mir p) p
def prs (T : List Tm) (w : Str) (a : Tm) : List Sen := T.map fun b => ⟨w, a, b⟩
def rws (T : List Tm) (w : Str) : List Sen := T.flatMap (prs T w)
def alls (T : List Tm) : List Sen := WD.flatMap (rws T)
def pln' (T : List Tm) : List Sen := (alls T).filter good
theorem prs_len {T : List Tm} {w : Str} {a : Tm} : (prs T w a).length = T.length := by simp [prs]
theorem fm_len {α β : Type} {f : α → List β} {n : Nat} (xs : List α) (hf : ∀ x ∈ xs, (f x).length ≤ n) : (xs.flatMap f).length ≤ xs.length * n := by
  induction xs with
  | nil => simp
  | cons x xs ih =>
    rw [List.flatMap_cons, List.length_append, List.length_cons, Nat.succ_mul]
    have := hf x List.mem_cons_self
    have := ih fun y hy => hf y (List.mem_cons_of_mem _ hy)
    omega
theorem rws_len {T : List Tm} {w : Str} : (rws T w).length ≤ T.length * T.length := fm_len T fun a _ => by rw [prs_len]; exact Nat.le_refl _
theorem alls_len {T : List Tm} : (alls T).length ≤ 4 * (T.length * T.length) := fm_len WD fun _ _ => rws_len
theorem fm_one {α β : Type} (f : α → β) (xs : List α) : (xs.flatMap fun x => [f x]) = xs.map f := by
  induction xs with
  | nil => rfl
  | cons x xs ih => rw [List.flatMap_cons, ih]; rfl
theorem r_plain_sentences_over (hl : ks.length ≤ 1000) : f_plain_sentences_over [ksD ks] h = .ok (.fro ((pln' (tms ks)).map snD)) h := by
  have hT : (tms ks).length ≤ 2000 := by rw [tms_len]; omega
  have hTT : (tms ks).length * (tms ks).length ≤ 4000000 := Nat.mul_le_mul hT hT
  have hA := alls_len (T := tms ks)
  rw [e_plain_sentences_over]
  simp -implicitDefEqProofs [m_plain_sentences_over, eLcN, r_terms_among hl, K_WORDS_eq]
  rw [lcW_enc (h := h) Q.D.str (fun w => (rws (tms ks) w).map snD) trivial WD [] (fun w hw => ⟨_, rfl, rfl, fun acc ha => by
    rw [lcN_go (p := ((tms ks).map tmD, fun _ => True)) (by simp [wipeA])]
    rw [rws, List.map_flatMap] at ha ⊢
    refine lcW_enc (h := h) (GG := fun _ => True) tmD (fun a => (prs (tms ks) w a).map snD) trivial (tms ks) acc ?_ ha
    intro a hm
    refine ⟨_, rfl, rfl, fun acc ha => ?_⟩
    rw [lcN_go (p := ((tms ks).map tmD, fun _ => True)) (by simp [wipeA])]
    have e : (prs (tms ks) w a).map snD = (tms ks).flatMap fun b => [snD ⟨w, a, b⟩] := by rw [fm_one, prs, List.map_map]; rfl
    rw [e] at ha ⊢
    refine lcW_enc (h := h) (GG := fun _ => True) tmD (fun b => [snD ⟨w, a, b⟩]) trivial (tms ks) acc ?_ ha
    intro b hb
    refine ⟨_, rfl, rfl, fun acc ha => ?_⟩
    refine lcN_one (y := snD ⟨w, a, b⟩) ?_ ha
    simp [wipeA, snD]⟩) (by
      rw [← List.map_flatMap, List.length_map]
      show 0 + (alls (tms ks)).length ≤ _
      omega)]
  rw [← List.map_flatMap]
  simp -implicitDefEqProofs
  rw [lc_flt snD snD good trivial (WD.flatMap fun w => rws (tms ks) w) (fun p hp => ⟨_, rfl, by simp [wipeA, r_mirror_of, good], fun _ => by simp [wipeA]⟩) (by
      show (alls (tms ks)).length ≤ _
      omega)]
  simp [trim_same]
  rfl
theorem r_plain_sentences (K : Kinds ks) : f_plain_sentences [ksD ks] h = .ok (.tup ((pln' (tms ks)).map snD)) h := by
  have := K.most
  rw [e_plain_sentences]
  simp -implicitDefEqProofs [m_plain_sentences, r_check_kinds K, r_plain_sentences_over (ks := ks) (by omega), trim_same]
end P

namespace P
open PySem PySem.Spec PyProof.Rows L2 Q G
variable {h g : AH} {i j k : Int} {b : Bool} {ds : List Q.D} {ks os : List Str} {N : Nat} {o : O} {s t u : Tm} {p q r : Sen}
theorem r_law_mirror : f_n__law_mirror [snD p] h = .ok (snD (mir p)) h := by
  rw [e_n__law_mirror]
  simp [m_n__law_mirror, snD]
  unfold mir
  by_cases h1 : p.w = "some" <;> simp [h1, r_law_flip, trim_same]
theorem isT_h {xs : List Q.D} : isT "list" (h ++ [.lst xs]) (.ref h.length) = true := by
  have e := listAt_some (last_list (h := h) (ds := xs))
  unfold isT lsq
  dsimp only
  rw [e]
  rfl
theorem app_h {xs : List Q.D} {d : Q.D} (hl : xs.length < 16777216) : mAppend (.ref h.length) [d] (h ++ [.lst xs]) = some (.non, h ++ [.lst (xs ++ [d])]) := by
  unfold mAppend
  simp [last_list, hl]
abbrev σpa (ks : List Str) (n : Nat) (x3 x4 x5 x6 : Option Q.D) : AS := [some (ksD ks), some (.fro ((tms ks).map tmD)), some (.ref n), x3, x4, x5, x6]
theorem pa_1 {w : Str} {a : Tm} {x6 x5 : Option Q.D} (acc : List Q.D) (hl : acc.length + ((prs (tms ks) w a).filter good).length ≤ 16777216) :
    ∃ σ', forL (fun _ => True) (gSlot 5) b_n__law_plain_all_1 ((tms ks).map tmD) (σpa ks h.length (some (.str w)) (some (tmD a)) x5 x6) (h ++ [.lst acc]) = .nx σ' (h ++ [.lst (acc ++ ((prs (tms ks) w a).filter good).map snD)]) ∧ ∃ y5 y6, σ' = σpa ks h.length (some (.str w)) (some (tmD a)) y5 y6 := by
  have e : ((prs (tms ks) w a).filter good).map snD = (tms ks).flatMap fun b => if good ⟨w, a, b⟩ = true then [snD ⟨w, a, b⟩] else [] := by
    rw [prs]
    induction tms ks with
    | nil => rfl
    | cons b bs ih =>
      rw [List.map_cons, List.flatMap_cons, ← ih, List.filter_cons]
      split <;> rfl
  rw [e]
  refine for_app (P := fun σ => ∃ y5 y6, σ = σpa ks h.length (some (.str w)) (some (tmD a)) y5 y6) tmD _ (tms ks) acc _ ?_ ⟨_, _, rfl⟩ (by rw [← e, List.length_map]; exact hl)
  rintro b hb σ acc ⟨y5, y6, rfl⟩ ha
  by_cases hg : good ⟨w, a, b⟩ = true
  · rw [if_pos hg] at ha ⊢
    have hg2 : snLt (mir ⟨w, a, b⟩) ⟨w, a, b⟩ = false := by unfold good at hg; simpa using hg
    refine ⟨σpa ks h.length (some (.str w)) (some (tmD a)) (some (tmD b)) y6, σpa ks h.length (some (.str w)) (some (tmD a)) (some (tmD b)) (some (snD ⟨w, a, b⟩)), rfl, ?_, ⟨_, _, rfl⟩⟩
    have e2 : Q.D.tup [.str w, tmD a, tmD b] = snD ⟨w, a, b⟩ := rfl
    simp [b_n__law_plain_all_1, e2, r_law_mirror, hg2, isT_h, app_h (h := h) (xs := acc) (d := snD ⟨w, a, b⟩) (by simp at ha; omega)]
  · rw [if_neg hg] at ha ⊢
    have hg2 : snLt (mir ⟨w, a, b⟩) ⟨w, a, b⟩ = true := by unfold good at hg; simpa using hg
    refine ⟨σpa ks h.length (some (.str w)) (some (tmD a)) (some (tmD b)) y6, σpa ks h.length (some (.str w)) (some (tmD a)) (some (tmD b)) (some (snD ⟨w, a, b⟩)), rfl, ?_, ⟨_, _, rfl⟩⟩
    have e2 : Q.D.tup [.str w, tmD a, tmD b] = snD ⟨w, a, b⟩ := rfl
    simp [b_n__law_plain_all_1, e2, r_law_mirror, hg2]
theorem pa_2 {w : Str} {x4 x5 x6 : Option Q.D} (acc : List Q.D) (hl : acc.length + (((rws (tms ks) w).filter good).map snD).length ≤ 16777216) :
    ∃ σ', forL (fun _ => True) (gSlot 4) b_n__law_plain_all_2 ((tms ks).map tmD) (σpa ks h.length (some (.str w)) x4 x5 x6) (h ++ [.lst acc]) = .nx σ' (h ++ [.lst (acc ++ ((rws (tms ks) w).filter good).map snD)]) ∧ ∃ y4 y5 y6, σ' = σpa ks h.length (some (.str w)) y4 y5 y6 := by
  have e : ((rws (tms ks) w).filter good).map snD = (tms ks).flatMap fun a => ((prs (tms ks) w a).filter good).map snD := by rw [rws, List.filter_flatMap, List.map_flatMap]
  rw [e] at hl ⊢
  refine for_app (P := fun σ => ∃ y4 y5 y6, σ = σpa ks h.length (some (.str w)) y4 y5 y6) tmD _ (tms ks) acc _ ?_ ⟨_, _, _, rfl⟩ hl
  rintro a hm σ acc ⟨y4, y5, y6, rfl⟩ ha
  obtain ⟨σ', e1, z5, z6, rfl⟩ := pa_1 (h := h) (ks := ks) (w := w) (a := a) (x5 := y5) (x6 := y6) acc (by simpa using ha)
  refine ⟨σpa ks h.length (some (.str w)) (some (tmD a)) y5 y6, σpa ks h.length (some (.str w)) (some (tmD a)) z5 z6, rfl, ?_, ⟨_, _, _, rfl⟩⟩
  simp [b_n__law_plain_all_2, e1]
theorem r_law_plain_all (hl : ks.length ≤ 1000) : f_n__law_plain_all [ksD ks] h = .ok (.fro ((pln' (tms ks)).map snD)) h := by
  have hT : (tms ks).length ≤ 2000 := by rw [tms_len]; omega
  have hTT : (tms ks).length * (tms ks).length ≤ 4000000 := Nat.mul_le_mul hT hT
  have hA := alls_len (T := tms ks)
  have e : (pln' (tms ks)).map snD = WD.flatMap fun w => ((rws (tms ks) w).filter good).map snD := by rw [pln', alls, List.filter_flatMap, List.map_flatMap]
  have hp : ((pln' (tms ks)).map snD).length ≤ 16777216 := by
    rw [List.length_map]
    have := List.length_filter_le good (alls (tms ks))
    show (List.filter good (alls (tms ks))).length ≤ _
    omega
  obtain ⟨σ', e1, y3, y4, y5, y6, rfl⟩ := for_app (h := h) (gg := gSlot 3) (body := b_n__law_plain_all_3) (P := fun σ => ∃ y3 y4 y5 y6, σ = σpa ks h.length y3 y4 y5 y6) Q.D.str (fun w => ((rws (tms ks) w).filter good).map snD) WD [] (σpa ks h.length none none none none)
    (by
      rintro w hw σ acc ⟨y3, y4, y5, y6, rfl⟩ ha
      obtain ⟨σ', e1, z4, z5, z6, rfl⟩ := pa_2 (h := h) (ks := ks) (w := w) (x4 := y4) (x5 := y5) (x6 := y6) acc ha
      refine ⟨σpa ks h.length (some (.str w)) y4 y5 y6, σpa ks h.length (some (.str w)) z4 z5 z6, rfl, ?_, ⟨_, _, _, _, rfl⟩⟩
      simp [b_n__law_plain_all_3, e1]) ⟨_, _, _, _, rfl⟩ (by rw [← e]; simpa using hp)
  rw [e_n__law_plain_all]
  have e2 : [Q.D.str "all", .str "many", .str "more", .str "some"] = WD.map .str := rfl
  simp -implicitDefEqProofs [m_n__law_plain_all, r_law_terms hl, e2, show WD.length ≤ 16777216 from by decide]
  rw [e1, List.nil_append, ← e]
  simp -implicitDefEqProofs
  refine trim_fro (h1 := h) (g := [.lst ((pln' (tms ks)).map snD)]) (k := 0) rfl okT_app rfl ?_
  have : ∀ (n : Nat) (xs : List Sen), closeds n (xs.map snD) = true := fun n xs => by
    induction xs with
    | nil => rfl
    | cons x xs ih => rw [List.map_cons, closeds, clo_sn, ih]; rfl
  exact this _ _
end P

namespace P
open PySem PySem.Spec PyProof.Rows L2 Q G
variable {h g : AH} {i j k : Int} {b : Bool} {ds : List Q.D} {ks os : List Str} {N : Nat} {o : O} {s t u : Tm} {p q r : Sen}
/-! ### how many plain sentences -/
def Up (T : List Tm) : Prop := T.Pairwise fun a b => tmLt a b = true
def cnt (T U : List Tm) : Nat := (T.map fun a => (U.filter fun b => !tmLt b a).length).sum
theorem mem_tms {t : Tm} : t ∈ tms ks ↔ t.1 ∈ ks := by
  obtain ⟨x, b⟩ := t
  simp only [tms, List.mem_flatMap, List.mem_cons, List.not_mem_nil, or_false, Prod.mk.injEq]
  constructor
  · rintro ⟨k, hk, (⟨rfl, _⟩ | ⟨rfl, _⟩)⟩ <;> exact hk
  · intro hk
    cases b
    · exact ⟨x, hk, .inl ⟨rfl, rfl⟩⟩
    · exact ⟨x, hk, .inr ⟨rfl, rfl⟩⟩
theorem up_tms : ∀ {ks : List Str}, Asc ks → Up (tms ks)
  | [], _ => List.Pairwise.nil
  | k :: ks, ha => by
    unfold Asc at ha
    rw [List.pairwise_cons] at ha
    have ih := up_tms (ks := ks) ha.2
    unfold Up at *
    show List.Pairwise _ ((k, false) :: (k, true) :: tms ks)
    have hlt : ∀ (b : Bool) (u : Tm), u ∈ tms ks → tmLt (k, b) u = true := fun b u hu => by
      have h1 := ha.1 _ (mem_tms.mp hu)
      unfold tmLt
      rw [if_neg (fun e => by
        have e : k = u.1 := e
        rw [← e, strLt_irr] at h1; cases h1)]
      exact h1
    rw [List.pairwise_cons, List.pairwise_cons]
    refine ⟨fun u hu => ?_, fun u hu => hlt _ u hu, ih⟩
    rcases List.mem_cons.mp hu with rfl | hu
    · simp [tmLt]
    · exact hlt _ u hu
theorem cnt_up : ∀ {T : List Tm}, Up T → 2 * cnt T T = T.length * (T.length + 1)
  | [], _ => rfl
  | t :: T, hu => by
    unfold Up at hu
    rw [List.pairwise_cons] at hu
    have ih := cnt_up (T := T) hu.2
    have e1 : ((t :: T).filter fun b => !tmLt b t).length = T.length + 1 := by
      rw [List.filter_eq_self.mpr]
      · rfl
      · intro b hb
        rcases List.mem_cons.mp hb with rfl | hb
        · rw [tmLt_irr]; rfl
        · rw [tmLt_asymm (hu.1 b hb)]; rfl
    have e2 : (T.map fun a => ((t :: T).filter fun b => !tmLt b a).length) = T.map fun a => (T.filter fun b => !tmLt b a).length := List.map_congr_left fun a ha => by
      rw [List.filter_cons_of_neg (by rw [hu.1 a ha]; decide)]
    have e3 : cnt (t :: T) (t :: T) = T.length + 1 + cnt T T := by
      unfold cnt
      rw [List.map_cons, List.sum_cons, e1, e2]
    rw [e3, List.length_cons, Nat.mul_add, ih]
    generalize T.length = n
    rw [show (n + 1) * (n + 1 + 1) = (n + 1) * n + (n + 1) * 2 from by rw [← Nat.mul_add]]
    rw [Nat.mul_comm (n + 1) n]
    omega
theorem flp_perm : ∀ (ks : List Str), ((tms ks).map flp).Perm (tms ks)
  | [] => .nil
  | k :: ks => by
    show List.Perm ((k, true) :: (k, false) :: (tms ks).map flp) ((k, false) :: (k, true) :: tms ks)
    exact (List.Perm.swap _ _ _).trans (((flp_perm ks).cons _).cons _)
theorem good_some {a b : Tm} : good ⟨"some", a, b⟩ = !tmLt b a := by
  unfold good mir
  rw [if_pos rfl]
  unfold snLt
  rw [if_pos rfl]
  dsimp only
  by_cases e : b = a
  · rw [if_pos e, e]
  · rw [if_neg e]
theorem good_else {w : Str} {a b : Tm} (hw : w ≠ "some") : good ⟨w, a, b⟩ = !tmLt (flp b) a := by
  unfold good mir
  rw [if_neg hw]
  unfold snLt
  rw [if_pos rfl]
  dsimp only
  by_cases e : flp b = a
  · rw [if_pos e, ← e, flp_flp, tmLt_irr, tmLt_irr]
  · rw [if_neg e]
theorem fm_sum {α β : Type} (f : α → List β) : ∀ xs : List α, (xs.flatMap f).length = (xs.map fun x => (f x).length).sum
  | [] => rfl
  | x :: xs => by rw [List.flatMap_cons, List.length_append, fm_sum f xs, List.map_cons, List.sum_cons]
theorem prs_good {T : List Tm} {w : Str} {a : Tm} : ((prs T w a).filter good).length = (T.filter fun b => good ⟨w, a, b⟩).length := by
  rw [prs, List.filter_map, List.length_map]
  rfl
theorem rws_good (T : List Tm) (w : Str) : ((rws T w).filter good).length = (T.map fun a => (T.filter fun b => good ⟨w, a, b⟩).length).sum := by
  rw [rws, List.filter_flatMap, fm_sum]
  simp only [prs_good]
theorem word_cnt (hw : s ∈ tms ks ∨ True) {w : Str} : ((rws (tms ks) w).filter good).length = cnt (tms ks) (tms ks) := by
  rw [rws_good]
  unfold cnt
  by_cases e : w = "some"
  · subst e
    simp only [good_some]
  · simp only [good_else e]
    refine congrArg _ (List.map_congr_left fun a _ => ?_)
    have h1 : (List.filter (fun b => !tmLt (flp b) a) (tms ks)).length = (List.filter (fun b => !tmLt b a) ((tms ks).map flp)).length := by
      rw [List.filter_map, List.length_map]
      rfl
    rw [h1]
    exact ((flp_perm ks).filter _).length_eq
theorem pln_len (ha : Asc ks) : (pln' (tms ks)).length = 4 * ks.length * (2 * ks.length + 1) := by
  have h1 := cnt_up (up_tms ha)
  rw [tms_len] at h1
  have e : (pln' (tms ks)).length = 4 * cnt (tms ks) (tms ks) := by
    rw [pln', alls, List.filter_flatMap, fm_sum]
    simp only [word_cnt (s := (("" : Str), false)) (.inr trivial)]
    simp [WD]
    omega
  rw [e]
  generalize cnt (tms ks) (tms ks) = c at *
  generalize ks.length = m at *
  have h2 : 2 * m * (2 * m + 1) = 2 * (m * (2 * m + 1)) := by rw [Nat.mul_assoc]
  have h3 : 4 * m * (2 * m + 1) = 4 * (m * (2 * m + 1)) := by rw [Nat.mul_assoc]
  omega
end P

namespace P
open PySem PySem.Spec PyProof.Rows L2 Q G
variable {h g : AH} {i j k : Int} {b : Bool} {ds : List Q.D} {ks os : List Str} {N : Nat} {o : O} {s t u : Tm} {p q r : Sen}
/-! ### the forms of a sentence -/
theorem in_fro {x : Str} : dIn false (.str x) (.fro (ks.map .str)) h = some (.bl (decide (x ∈ ks)), h) := by
  show dInS false (.str x) (.fro (ks.map .str)) h = _
  unfold dInS
  rw [show pd (.str x) = some (.str x) from rfl, show pdH h (.fro (ks.map .str)) = some (.list (ks.map .str)) from by
    show (pds (ks.map .str)).map PyData.list = _
    rw [pds_strs]; rfl]
  dsimp only
  rw [depth_strs, if_pos (by omega), any_strs, Bool.false_bne]
theorem in_two {w x y : Str} : dIn false (.str w) (.fro [.str x, .str y]) h = some (.bl (decide (w ∈ [x, y])), h) := in_fro (ks := [x, y])
theorem r_law_contrary : f_n__law_contrary [snD p] h = .ok (snD (cont p)) h := by
  rw [e_n__law_contrary]
  simp [m_n__law_contrary, snD]
  unfold cont
  by_cases h1 : p.w = "all"
  · simp [h1, r_law_flip, trim_same]
  · by_cases h2 : p.w = "some"
    · simp [h1, h2, r_law_flip, trim_same]
    · by_cases h3 : p.w = "more" <;> simp [h1, h2, h3, trim_same]
theorem word_cases (hw : p.w ∈ WD) : p.w = "all" ∨ p.w = "many" ∨ p.w = "more" ∨ p.w = "some" := by simpa [WD] using hw
theorem flp_eq : (flp s = flp t) = (s = t) := by
  refine propext ⟨fun e => ?_, fun e => by rw [e]⟩
  have := congrArg flp e
  rwa [flp_flp, flp_flp] at this
theorem flp_sw : (s = flp t) = (t = flp s) := propext ⟨fun e => by rw [e, flp_flp], fun e => by rw [e, flp_flp]⟩
theorem ne_flp {a : Tm} : (a = flp a) = False := eq_false fun e => by
  have := congrArg Prod.snd e
  simp [flp] at this
theorem its_all {a b : Tm} : its ⟨"all", a, b⟩ = if a = b then "always" else "open" := by
  by_cases e : a = b <;> simp [its, alw, cont, e]
theorem its_many {a b : Tm} : its ⟨"many", a, b⟩ = if a = b then "always" else "open" := by
  by_cases e : a = b <;> simp [its, alw, cont, e]
theorem its_more {a b : Tm} : its ⟨"more", a, b⟩ = if a = b then "never" else "open" := by
  by_cases e : a = b
  · simp [its, alw, cont, e]
  · simp [its, alw, cont, e, Ne.symm e]
theorem its_some {a b : Tm} : its ⟨"some", a, b⟩ = if a = flp b then "never" else "open" := by
  by_cases e : a = flp b <;> simp [its, alw, cont, e]
theorem r_law_alone (hw : p.w ∈ WD) : f_n__law_alone [snD p] h = .ok (.str (its p)) h := by
  rw [e_n__law_alone]
  obtain ⟨w, a, b⟩ := p
  rcases word_cases hw with hw | hw | hw | hw
  all_goals
    dsimp only at hw
    subst hw
  · rw [its_all]
    by_cases e1 : a = b <;> simp [m_n__law_alone, in_two, e1, trim_same]
  · rw [its_many]
    by_cases e1 : a = b <;> simp [m_n__law_alone, in_two, e1, trim_same]
  · rw [its_more]
    by_cases e1 : a = b <;> simp [m_n__law_alone, in_two, e1, trim_same]
  · rw [its_some]
    by_cases e1 : a = b
    · subst e1
      simp [m_n__law_alone, in_two, ne_flp, r_law_flip, trim_same]
    · by_cases e2 : a = flp b <;> simp [m_n__law_alone, in_two, e1, e2, r_law_flip, trim_same]
theorem its_mir (hw : p.w ∈ WD) : its (mir p) = its p := by
  obtain ⟨w, a, b⟩ := p
  rcases word_cases hw with hw | hw | hw | hw
  all_goals
    dsimp only at hw
    subst hw
  · simp [mir, its_all, flp_eq, eq_comm]
  · simp [mir, its_many, flp_eq, eq_comm]
  · simp [mir, its_more, flp_eq, eq_comm]
  · simp only [mir, its_some, if_true]
    by_cases e : a = flp b
    · rw [if_pos e, if_pos (flp_sw ▸ e)]
    · rw [if_neg e, if_neg (fun z => e (flp_sw ▸ z))]
theorem free_mir (F : Free p) : Free (mir p) := by
  unfold mir
  split
  · exact ⟨F.w, F.b, F.a⟩
  · exact ⟨F.w, F.b, F.a⟩
theorem cont_w (hw : p.w ∈ WD) : (cont p).w ∈ WD := by
  obtain ⟨w, a, b⟩ := p
  rcases word_cases hw with hw | hw | hw | hw
  all_goals
    dsimp only at hw
    subst hw
    simp [cont, WD]
theorem free_cont (F : Free p) : Free (cont p) := by
  refine ⟨cont_w F.w, ?_, ?_⟩
  · unfold cont
    split
    · exact F.a
    · split
      · exact F.a
      · exact F.b
  · unfold cont
    split
    · exact F.b
    · split
      · exact F.b
      · exact F.a
theorem free_pls (F : Free p) : Free (pls p) := by
  unfold pls
  split
  · exact free_mir F
  · exact F
theorem r_law_forms (F : Free p) : f_n__law_forms [snD p] h = .ok (.bl true) h := by
  have FC := free_cont F
  have FM := free_mir F
  have s1 : ∀ a b c : Sen, f_n__law_same [.tup [snD a, snD b, snD c], .tup [snD a, snD b, snD c]] h = .ok (.bl true) h := fun a b c => r_law_same (by simp [snD, tmD, sz, szs]) (by simp [snD, tmD, pln, plns])
  have s2 : ∀ x : Str, f_n__law_same [.str x, .str x] h = .ok (.bl true) h := fun x => r_law_same (by simp [sz]) (by simp [pln])
  have hm := pls_mir (p := p)
  rw [e_n__law_forms]
  cases hh : snLt (mir p) p with
  | true =>
    have hp : pls p = mir p := by unfold pls; rw [hh]; rfl
    rw [hp] at hm
    simp -implicitDefEqProofs [m_n__law_forms, r_law_mirror, hh, r_contrary F, r_contrary FC, r_mirror F, r_mirror FM, r_plain F, r_plain FM, r_law_contrary, cont_cont F.w, mir_mir, hm, hp, s1, s2, r_by_itself F, r_by_itself FM, r_by_itself FC, r_law_alone F.w, r_law_alone FC.w, its_mir F.w, trim_same]
  | false =>
    have hp : pls p = p := by unfold pls; rw [hh]; rfl
    rw [hp] at hm
    simp -implicitDefEqProofs [m_n__law_forms, r_law_mirror, hh, r_contrary F, r_contrary FC, r_mirror F, r_mirror FM, r_plain F, r_plain FM, r_law_contrary, cont_cont F.w, mir_mir, hm, hp, s1, s2, r_by_itself F, r_by_itself FM, r_by_itself FC, r_law_alone F.w, r_law_alone FC.w, its_mir F.w, trim_same]
end P

namespace P
open PySem PySem.Spec PyProof.Rows L2 Q G
variable {h g : AH} {i j k : Int} {b : Bool} {ds : List Q.D} {ks os xs ys : List Str} {N : Nat} {o : O} {s t u : Tm} {p q r : Sen}
/-! ### the order of tuples of texts -/
def ksLt : List Str → List Str → Bool
  | [], [] => false
  | [], _ :: _ => true
  | _ :: _, [] => false
  | x :: xs, y :: ys => if x = y then ksLt xs ys else strLt x y
def ksP (xs : List Str) : PyData := .tuple (xs.map .str)
theorem pd_ks : pd (ksD xs) = some (ksP xs) := by
  show (pds (xs.map .str)).map PyData.tuple = _
  rw [pds_strs]; rfl
theorem ksLt_eq : ∀ xs ys : List Str, PySem.W.listLt xs ys = ksLt xs ys
  | [], [] => rfl
  | [], _ :: _ => rfl
  | _ :: _, [] => rfl
  | x :: xs, y :: ys => by
    rw [PySem.W.listLt, ksLt, ksLt_eq xs ys]
    rfl
theorem data_ks : PySem.W.dataLt (ksP xs) (ksP ys) = ksLt xs ys := by
  rw [← ksLt_eq]
  exact (PySem.W.dataLt_tuple _ _).trans (PySem.W.lexAll_map (α := Str) xs ys)
theorem alike_ks : PySem.W.alike (ksP xs) (ksP ys) = true := by
  unfold ksP
  simp only [PySem.W.alike]
  exact PySem.W.alikeAll_map (α := Str) xs ys
theorem dep_ks : (ksP xs).depth = 1 := by rw [ksP, PyData.depth, depth_strs]
theorem lt_ks : dLt (ksD xs) (ksD ys) h = some (.bl (ksLt xs ys), h) :=
  cmp_is (p := ksP xs) (q := ksP ys) pd_ks pd_ks (by unfold cOrd; rw [alike_ks]; rfl) (by rw [dep_ks]; omega) data_ks
theorem eqv_ks : PyData.eqv (ksP xs) (ksP ys) = decide (xs = ys) := by
  unfold ksP
  simp only [PyData.eqv]
  exact eqv_strs _ _
theorem ksLt_irr : ∀ {xs : List Str}, ksLt xs xs = false
  | [] => rfl
  | x :: xs => by rw [ksLt, if_pos rfl, ksLt_irr]
theorem ksLt_asymm : ∀ {xs ys : List Str}, ksLt xs ys = true → ksLt ys xs = false
  | [], [], h => rfl
  | [], _ :: _, _ => rfl
  | _ :: _, [], h => by cases h
  | x :: xs, y :: ys, h => by
    rw [ksLt] at h ⊢
    by_cases e : x = y
    · rw [if_pos e] at h
      rw [if_pos e.symm]
      exact ksLt_asymm h
    · rw [if_neg e] at h
      rw [if_neg (Ne.symm e)]
      cases h2 : strLt y x with
      | false => rfl
      | true => exact (strLt_asymm h h2).elim
theorem ksLt_tri : ∀ {xs ys : List Str}, ksLt xs ys = false → ksLt ys xs = false → xs = ys
  | [], [], _, _ => rfl
  | [], _ :: _, h, _ => by cases h
  | _ :: _, [], _, h => by cases h
  | x :: xs, y :: ys, h1, h2 => by
    rw [ksLt] at h1 h2
    by_cases e : x = y
    · rw [if_pos e] at h1
      rw [if_pos e.symm] at h2
      rw [e, ksLt_tri h1 h2]
    · rw [if_neg e] at h1
      rw [if_neg (Ne.symm e)] at h2
      exact (e (strLt_tri h1 h2)).elim
theorem ksLt_trans : ∀ {xs ys zs : List Str}, ksLt xs ys = true → ksLt ys zs = true → ksLt xs zs = true
  | _, [], [], _, h => by cases h
  | [], [], _ :: _, h, _ => by cases h
  | _ :: _, [], _, h, _ => by cases h
  | _, _ :: _, [], _, h => by cases h
  | [], _ :: _, _ :: _, _, _ => rfl
  | x :: xs, y :: ys, z :: zs, h1, h2 => by
    rw [ksLt] at h1 h2 ⊢
    by_cases e : x = y
    · subst e
      rw [if_pos rfl] at h1
      by_cases e2 : x = z
      · rw [if_pos e2] at h2 ⊢
        exact ksLt_trans h1 h2
      · rw [if_neg e2] at h2 ⊢
        exact h2
    · rw [if_neg e] at h1
      by_cases e2 : y = z
      · subst e2
        rw [if_neg e]
        exact h1
      · rw [if_neg e2] at h2
        have h3 := strLt_trans h1 h2
        rw [if_neg (fun e3 => by rw [e3, strLt_irr] at h3; cases h3)]
        exact h3
/-! ### worlds -/
abbrev Srt := List Str × Int
def soD (p : Srt) : Q.D := .tup [ksD p.1, .int p.2]
def wdD (w : List Srt) : Q.D := .tup (w.map soD)
structure World (ks : List Str) (w : List Srt) : Prop where
  pos : 1 ≤ w.length
  most : w.length ≤ 4000
  sub : ∀ p ∈ w, ∀ x ∈ p.1, x ∈ ks
  asc : ∀ p ∈ w, Asc p.1
  num : ∀ p ∈ w, 1 ≤ p.2 ∧ p.2 ≤ 1152921504606846976
  srt : w.Pairwise fun p q => ksLt p.1 q.1 = true
theorem Asc.nodup (ha : Asc xs) : xs.Nodup := ha.imp fun {a b} hab e => by rw [e, strLt_irr] at hab; cases hab
theorem World.few {w : List Srt} (W : World ks w) {p : Srt} (hp : p ∈ w) : p.1.length ≤ ks.length := (W.asc p hp).nodup.length_le_of_subset (W.sub p hp)
/-- which kinds are known -/
def knw (ks : List Str) : List (Key × Q.D) := ks.map fun k => (.inr k, .bl true)
theorem knw_get {x : Str} : ∀ {ks : List Str}, (dkGet (knw ks) (.inr x)).isSome = decide (x ∈ ks)
  | [] => rfl
  | k :: ks => by
    have ih := knw_get (x := x) (ks := ks)
    unfold dkGet knw at *
    rw [List.map_cons, List.find?_cons]
    by_cases e : k = x
    · subst e; simp
    · have e2 : (Sum.inr k : Key) ≠ .inr x := fun z => e (Sum.inr.inj z)
      simp only [e2, decide_false]
      rw [ih, Bool.eq_iff_iff]
      simp [Ne.symm e]
theorem dcL_keys {G : AH → Prop} {σ : AS} {g : MG} {mk mv : M} {v : Q.D} (hG : G h) : ∀ (xs acc : List Str), (acc ++ xs).Nodup → acc.length + xs.length ≤ 16777216 → (∀ x ∈ xs, ∃ σ1, g (.str x) σ h = some (σ1, h) ∧ mk σ1 h = .ok (.str x) h ∧ mv σ1 h = .ok v h) →
    dcL G g tYesM mk mv σ (xs.map .str) (acc.map fun k => ((.inr k : Key), v)) h = .ok ((acc ++ xs).map fun k => ((.inr k : Key), v)) h
  | [], acc, _, _, _ => by rw [List.map_nil, dcL, if_pos hG]; simp
  | x :: xs, acc, nd, hl, hd => by
    obtain ⟨σ1, a, b, c⟩ := hd x List.mem_cons_self
    rw [List.length_cons] at hl
    have hx : x ∉ acc := fun m => by
      rw [List.nodup_append] at nd
      exact nd.2.2 x m x List.mem_cons_self rfl
    have hp : dkPut (acc.map fun k => ((.inr k : Key), v)) (.inr x) v = (acc ++ [x]).map fun k => ((.inr k : Key), v) := by
      unfold dkPut
      rw [if_neg (by
        rw [List.any_eq_true]
        rintro ⟨y, hy, e⟩
        obtain ⟨z, hz, rfl⟩ := List.mem_map.mp hy
        have e := of_decide_eq_true e
        exact hx (Sum.inr.inj e ▸ hz))]
      simp
    rw [List.map_cons, dcL, if_pos hG, a]
    dsimp only
    rw [run_tYes]
    dsimp only
    rw [b]
    dsimp only
    rw [c]
    dsimp only
    rw [show keyD (.str x) = some (.inr x) from rfl]
    dsimp only
    rw [if_pos (by simp; omega), hp, dcL_keys hG xs (acc ++ [x]) (by simpa using nd) (by simp; omega) (fun y hy => hd y (List.mem_cons_of_mem _ hy))]
    simp
end P

namespace P
open PySem PySem.Spec PyProof.Rows L2 Q G
variable {h g : AH} {i j k : Int} {b : Bool} {ds : List Q.D} {ks os xs ys : List Str} {N : Nat} {o : O} {s t u : Tm} {p q r : Sen}
theorem len_dk {n : Nat} {kvs : List (Key × Q.D)} (e : objAt h (.ref n) = some (.dk kvs)) : gLen [.ref n] h = some (.int kvs.length, h) := by
  unfold gLen
  dsimp only
  rw [e]
theorem in_dk {n : Nat} {x : Str} (e : objAt h (.ref n) = some (.dk (knw ks))) : dIn false (.str x) (.ref n) h = some (.bl (decide (x ∈ ks)), h) := by
  unfold dIn
  rw [e]
  dsimp only
  rw [show keyD (.str x) = some (.inr x) from rfl]
  dsimp only
  rw [knw_get]
  cases decide (x ∈ ks) <;> rfl
/-- a sort of things, over kinds -/
structure Sort' (ks : List Str) (p : Srt) : Prop where
  sub : ∀ x ∈ p.1, x ∈ ks
  asc : Asc p.1
  num : 1 ≤ p.2 ∧ p.2 ≤ 1152921504606846976
theorem World.sort {w : List Srt} (W : World ks w) {p : Srt} (hp : p ∈ w) : Sort' ks p := ⟨W.sub p hp, W.asc p hp, W.num p hp⟩
theorem r_is_sort_over {n : Nat} {p : Srt} (e : objAt h (.ref n) = some (.dk (knw ks))) (hk : ks.length ≤ 1000) (S : Sort' ks p) : f_is_sort_over [.ref n, soD p] h = .ok (.bl true) h := by
  have hl : p.1.length ≤ ks.length := S.asc.nodup.length_le_of_subset S.sub
  obtain ⟨n1, n2⟩ := S.num
  have t1 : f_is_tuple_of [soD p, .int 2, .int 2] h = .ok (.bl true) h := by rw [soD, r_is_tuple_of]; rfl
  have t2 : f_is_tuple_of [ksD p.1, .int 0, .int ks.length] h = .ok (.bl true) h := by
    rw [ksD, r_is_tuple_of]
    simp
    omega
  have i0 : dIx (soD p) (.int 0) h = some (ksD p.1, h) := by simp [soD]
  have i1 : dIx (soD p) (.int 1) h = some (.int p.2, h) := by simp [soD]
  have l1 : gLen [.ref n] h = some (.int ks.length, h) := by rw [len_dk e]; simp [knw]
  have hb : -(2 ^ 62 : Int) ≤ (p.1.length : Int) - 1 ∧ (p.1.length : Int) - 1 < 2 ^ 62 := by omega
  have f1 : f_is_from_to [.int p.2, .int 1, .int 1152921504606846976] h = .ok (.bl true) h := by
    rw [r_is_from_to, decide_eq_true n1, decide_eq_true n2]; rfl
  have a1 : ∀ σ : AS, lcL (fun _ => True) (gSlot 4) tYesM (eAnd (eIsi "str" (eVar 4)) (eOp (dIn false) (eVar 4) (eVar 0))) [some (.ref n), some (soD p), some (ksD p.1), none, none] (p.1.map .str) [] h = .ok (List.replicate p.1.length (.bl true)) h := fun σ => by
    rw [lc_all trivial _ (fun d hd => by
      obtain ⟨x, hx, rfl⟩ := List.mem_map.mp hd
      exact ⟨_, rfl, by simp [in_dk e, S.sub x hx]⟩) (by simp; omega), List.length_map]
  rw [e_is_sort_over]
  simp -implicitDefEqProofs [m_is_sort_over, t1, t2, i0, i1, l1, f1, K_MOST_NUMBER, ln_ks, rngK_of hb.1 hb.2]
  rw [show seqK (ksD p.1) h = .ok (p.1.map .str, fun _ => True) h from rfl]
  simp -implicitDefEqProofs [wipeA, a1 [], ln_ks, rngK_of hb.1 hb.2]
  rw [lc_all trivial]
  · simp [trim_same]
  · intro d hd
    obtain ⟨i, hi, rfl⟩ := mem_rangeD hd
    refine ⟨_, rfl, ?_⟩
    have h1 : i < p.1.length := by omega
    have h2 : i + 1 < p.1.length := by omega
    have a1 : atI (p.1.map D.str) (i : Int) = some (.str p.1[i]) := atI_n (by simp [h1])
    have a2 : atI (p.1.map D.str) ((i : Int) + 1) = some (.str p.1[i + 1]) := by
      have := atI_n (xs := p.1.map D.str) (n := i + 1) (x := .str p.1[i + 1]) (by simp [h2])
      simpa using this
    have lt : strLt p.1[i] p.1[i + 1] = true := List.pairwise_iff_getElem.mp S.asc i (i + 1) h1 h2 (by omega)
    simp [ksD, a1, a2, lt]
  · simp
    omega
theorem last_dk {kvs : List (Key × Q.D)} : objAt (h ++ [.dk kvs]) (.ref h.length) = some (.dk kvs) := last_obj
theorem r_is_world_over {w : List Srt} (hk : ks.length ≤ 1000) (nd : ks.Nodup) (W : World ks w) : f_is_world_over [ksD ks, wdD w] h = .ok (.bl true) h := by
  have h1 := W.pos
  have h2 := W.most
  have t1 : ∀ h : AH, f_is_tuple_of [wdD w, .int 1, .int 4000] h = .ok (.bl true) h := fun h => by
    rw [wdD, r_is_tuple_of]
    simp
    omega
  have l1 : ∀ h : AH, gLen [wdD w] h = some (.int w.length, h) := fun h => by rw [wdD, len_tup', List.length_map]
  have hb : -(2 ^ 62 : Int) ≤ (w.length : Int) - 1 ∧ (w.length : Int) - 1 < 2 ^ 62 := by omega
  have d1 : dcL (fun _ => True) (gSlot 3) tYesM (eVar 3) (eC (.bl true)) [some (ksD ks), some (wdD w), none, none, none, none] (ks.map .str) [] h = .ok (knw ks) h :=
    dcL_keys (v := .bl true) trivial ks [] (by simpa using nd) (by simp; omega) fun x hx => ⟨_, rfl, rfl, rfl⟩
  rw [e_is_world_over]
  simp -implicitDefEqProofs [m_is_world_over]
  rw [show seqK (ksD ks) h = .ok (ks.map .str, fun _ => True) h from rfl]
  simp -implicitDefEqProofs [wipeA, d1, t1, K_MOST_SORTS]
  rw [show ∀ h : AH, seqK (wdD w) h = .ok (w.map soD, fun _ => True) h from fun _ => rfl]
  simp -implicitDefEqProofs [wipeA]
  rw [lc_all trivial (w.map soD) (fun d hd => by
      obtain ⟨p, hp, rfl⟩ := List.mem_map.mp hd
      exact ⟨_, rfl, by simp [r_is_sort_over last_dk hk (W.sort hp)]⟩) (by simp; omega)]
  simp -implicitDefEqProofs [l1, rngK_of hb.1 hb.2, wipeA]
  rw [lc_all trivial]
  · simp -implicitDefEqProofs
    exact trim_drop rfl okT_app rfl
  · intro d hd
    obtain ⟨i, hi, rfl⟩ := mem_rangeD hd
    refine ⟨_, rfl, ?_⟩
    have h1 : i < w.length := by omega
    have h2 : i + 1 < w.length := by omega
    have a1 : ∀ h : AH, dIx (wdD w) (.int i) h = some (soD w[i], h) := fun h => by
      have : atI (w.map soD) (i : Int) = some (soD w[i]) := atI_n (by simp [h1])
      rw [wdD, ix_tup', this]; rfl
    have a2 : ∀ h : AH, dIx (wdD w) (.int ((i : Int) + 1)) h = some (soD w[i + 1], h) := fun h => by
      have : atI (w.map soD) ((i : Int) + 1) = some (soD w[i + 1]) := by
        have := atI_n (xs := w.map soD) (n := i + 1) (x := soD w[i + 1]) (by simp [h2])
        simpa using this
      rw [wdD, ix_tup', this]; rfl
    have i0 : ∀ (p : Srt) (h : AH), dIx (soD p) (.int 0) h = some (ksD p.1, h) := fun p h => by simp [soD]
    have lt : ksLt w[i].1 w[i + 1].1 = true := List.pairwise_iff_getElem.mp W.srt i (i + 1) h1 h2 (by omega)
    simp [a1, a2, i0, lt_ks, lt]
  · simp
    omega
theorem r_check_world {w : List Srt} (K : Kinds ks) (W : World ks w) {x : Q.D} : f_check_world [ksD ks, wdD w, x] h = .ok .non h := by
  have := K.most
  rw [e_check_world]
  simp [m_check_world, r_is_world_over (h := h) (by omega) K.nodup W, trim_same]
end P

namespace P
open PySem PySem.Spec PyProof.Rows L2 Q G
variable {h g : AH} {i j k : Int} {b : Bool} {ds : List Q.D} {ks os xs ys : List Str} {N : Nat} {o : O} {s t u : Tm} {p q r : Sen}
/-! ### bits -/
theorem and_nat (x y : Nat) : Builtin.bitAnd (x : Int) (y : Int) = ((x &&& y : Nat) : Int) := by
  unfold Builtin.bitAnd
  rw [decide_eq_true (Int.natCast_nonneg x), decide_eq_true (Int.natCast_nonneg y)]
  simp
theorem or_nat (x y : Nat) : Builtin.bitOr (x : Int) (y : Int) = ((x ||| y : Nat) : Int) := by
  rw [bitOr_nn (Int.natCast_nonneg _) (Int.natCast_nonneg _)]
  simp
theorem two_nat (n : Nat) : (2 : Int) ^ n = ((2 ^ n : Nat) : Int) := by
  rw [Int.natCast_pow]; rfl
theorem whole_or {m n : Nat} (hm : m < 2 ^ n) : (2 ^ n - 1) ||| m = 2 ^ n - 1 := by
  refine Nat.eq_of_testBit_eq fun i => ?_
  rw [Nat.testBit_or, Nat.testBit_two_pow_sub_one]
  by_cases hi : i < n
  · simp [hi]
  · have : m.testBit i = false := Nat.testBit_lt_two_pow (Nat.lt_of_lt_of_le hm (Nat.pow_le_pow_right (by decide) (by omega)))
    simp [hi, this]
theorem xor_whole {m n : Nat} (hm : m < 2 ^ n) : Builtin.bitXor ((2 : Int) ^ n - 1) (m : Int) = ((2 ^ n - (m + 1) : Nat) : Int) := by
  have hp : 0 < 2 ^ n := Nat.two_pow_pos n
  have e : (2 : Int) ^ n - 1 = ((2 ^ n - 1 : Nat) : Int) := by rw [two_nat]; omega
  rw [e]
  unfold Builtin.bitXor
  rw [and_nat, or_nat, whole_or hm, Nat.and_comm, Nat.and_two_pow_sub_one_eq_mod, Nat.mod_eq_of_lt hm]
  omega
/-- whether a sort has a term -/
def hasT (p : Srt) (t : Tm) : Bool := decide (t.1 ∈ p.1) == t.2
def mgo (k : Str) : Nat → List Srt → Nat → Nat
  | _, [], acc => acc
  | t, p :: w, acc => mgo k (t + 1) w (if k ∈ p.1 then acc ||| 2 ^ t else acc)
def hasK (k : Str) (o : Option Srt) : Bool := match o with
  | some p => decide (k ∈ p.1)
  | none => false
theorem mgo_bit {k : Str} {i : Nat} : ∀ (w : List Srt) (t acc : Nat), (mgo k t w acc).testBit i = (acc.testBit i || (decide (t ≤ i) && hasK k (w[i - t]?)))
  | [], t, acc => by simp [mgo, hasK]
  | p :: w, t, acc => by
    rw [mgo, mgo_bit w]
    have e : (if k ∈ p.1 then acc ||| 2 ^ t else acc).testBit i = (acc.testBit i || (decide (k ∈ p.1) && decide (t = i))) := by
      by_cases hk : k ∈ p.1
      · rw [if_pos hk, Nat.testBit_or, Nat.testBit_two_pow]; simp [hk]
      · rw [if_neg hk]; simp [hk]
    rw [e]
    by_cases h1 : i < t
    · have a1 : ¬ t + 1 ≤ i := by omega
      have a2 : ¬ t ≤ i := by omega
      have a3 : ¬ t = i := by omega
      simp [a1, a2, a3]
    · by_cases h2 : i = t
      · subst h2
        have a1 : ¬ i + 1 ≤ i := by omega
        simp [a1, hasK]
      · have a1 : t + 1 ≤ i := by omega
        have a2 : t ≤ i := by omega
        have a3 : ¬ t = i := by omega
        have a4 : i - t = (i - (t + 1)) + 1 := by omega
        rw [a4, List.getElem?_cons_succ]
        simp [a1, a2, a3]
theorem mgo_lt {k : Str} {w : List Srt} : mgo k 0 w 0 < 2 ^ w.length := by
  refine Nat.lt_pow_two_of_testBit _ fun i hi => ?_
  rw [mgo_bit, List.getElem?_eq_none (by omega)]
  simp [hasK]
/-- the mask of a term -/
def tmk (w : List Srt) (t : Tm) : Nat := if t.2 = true then mgo t.1 0 w 0 else 2 ^ w.length - (mgo t.1 0 w 0 + 1)
def hasO (t : Tm) (o : Option Srt) : Bool := match o with
  | some p => hasT p t
  | none => false
theorem tmk_bit {w : List Srt} {t : Tm} {i : Nat} : (tmk w t).testBit i = hasO t (w[i]?) := by
  obtain ⟨x, b⟩ := t
  unfold tmk
  cases b with
  | true =>
    rw [if_pos rfl, mgo_bit]
    cases e : w[i]? with
    | none => simp [hasK, hasO, e]
    | some p => simp [hasK, hasO, hasT, e]
  | false =>
    rw [if_neg (show ¬ (x, false).2 = true from Bool.false_ne_true), Nat.testBit_two_pow_sub_succ mgo_lt, mgo_bit]
    cases e : w[i]? with
    | none =>
      have := List.getElem?_eq_none_iff.mp e
      simp [hasO, show ¬ i < w.length by omega]
    | some p =>
      have hi := (List.getElem?_eq_some_iff.mp e).1
      simp [hasK, hasO, hasT, e, hi]
/-- whether two terms meet -/
def meetB (w : List Srt) (a b : Tm) : Bool := w.any fun p => hasT p a && hasT p b
theorem meet_mask {w : List Srt} {a b : Tm} : (!decide (Builtin.bitAnd (tmk w a : Int) (tmk w b : Int) = 0)) = meetB w a b := by
  rw [and_nat, Bool.eq_iff_iff]
  unfold meetB
  rw [List.any_eq_true]
  simp only [Bool.not_eq_true', decide_eq_false_iff_not]
  constructor
  · intro hne
    have h0 : (tmk w a &&& tmk w b) ≠ 0 := fun z => hne (by rw [z]; rfl)
    obtain ⟨i, hi⟩ := Nat.exists_testBit_of_ne_zero h0
    rw [Nat.testBit_and, tmk_bit, tmk_bit] at hi
    cases e : w[i]? with
    | none => rw [e] at hi; exact absurd hi (by simp [hasO])
    | some p =>
      rw [e] at hi
      exact ⟨p, List.mem_of_getElem? e, hi⟩
  · rintro ⟨p, hp, hh⟩ z
    obtain ⟨i, e⟩ := List.getElem?_of_mem hp
    have h0 : (tmk w a &&& tmk w b) = 0 := by exact_mod_cast z
    have : (tmk w a &&& tmk w b).testBit i = true := by
      rw [Nat.testBit_and, tmk_bit, tmk_bit, e]
      exact hh
    rw [h0] at this
    simp at this
/-- the number of things of a term -/
def cntT (w : List Srt) (t : Tm) : Int := (w.map fun p => if hasT p t = true then p.2 else 0).sum
def allT (w : List Srt) : Int := (w.map fun p => p.2).sum
def sgo (k : Str) : List Srt → Int → Int
  | [], acc => acc
  | p :: w, acc => sgo k w (if k ∈ p.1 then acc + p.2 else acc)
theorem sgo_add {k : Str} : ∀ (w : List Srt) (acc : Int), sgo k w acc = acc + cntT w (k, true)
  | [], acc => by simp [sgo, cntT]
  | p :: w, acc => by
    rw [sgo, sgo_add w]
    unfold cntT
    rw [List.map_cons, List.sum_cons]
    by_cases hk : k ∈ p.1
    · simp [hasT, hk]; omega
    · simp [hasT, hk]
theorem cnt_flp : ∀ (w : List Srt) (k : Str), cntT w (k, false) = allT w - cntT w (k, true)
  | [], k => by simp [cntT, allT]
  | p :: w, k => by
    have ih := cnt_flp w k
    unfold cntT allT at *
    rw [List.map_cons, List.sum_cons, List.map_cons, List.sum_cons, List.map_cons, List.sum_cons, ih]
    by_cases hk : k ∈ p.1
    · simp [hasT, hk]; omega
    · simp [hasT, hk]; omega
/-- whether a sentence holds -/
def kp (w : List Srt) (p : Sen) : Bool := if p.w = "all" then !meetB w p.a (flp p.b) else if p.w = "some" then meetB w p.a p.b else if p.w = "more" then decide (cntT w p.b < cntT w p.a) else decide (cntT w p.b ≤ cntT w p.a)
theorem hasT_flp {p : Srt} {t : Tm} : hasT p (flp t) = !hasT p t := by
  unfold hasT flp
  cases decide (t.1 ∈ p.1) <;> cases t.2 <;> rfl
theorem meet_comm {w : List Srt} {a b : Tm} : meetB w a b = meetB w b a := by
  unfold meetB
  refine congrArg _ (funext fun p => Bool.and_comm _ _)
theorem cnt_flp2 {w : List Srt} {t : Tm} : cntT w (flp t) = allT w - cntT w t := by
  obtain ⟨x, b⟩ := t
  cases b with
  | true => exact cnt_flp w x
  | false =>
    show cntT w (x, true) = _
    rw [cnt_flp]
    omega
theorem kp_cont {w : List Srt} {p : Sen} (hw : p.w ∈ WD) : kp w (cont p) = !kp w p := by
  obtain ⟨x, a, b⟩ := p
  rcases word_cases hw with hw | hw | hw | hw
  all_goals
    dsimp only at hw
    subst hw
  · simp [kp, cont]
  · simp [kp, cont]
    rw [Bool.eq_iff_iff]
    simp
  · simp [kp, cont]
    rw [Bool.eq_iff_iff]
    simp
  · simp [kp, cont, flp_flp]
theorem kp_mir {w : List Srt} {p : Sen} (hw : p.w ∈ WD) : kp w (mir p) = kp w p := by
  obtain ⟨x, a, b⟩ := p
  rcases word_cases hw with hw | hw | hw | hw
  all_goals
    dsimp only at hw
    subst hw
  · simp [kp, mir, flp_flp]
    exact meet_comm
  · simp [kp, mir, cnt_flp2]
  · simp [kp, mir, cnt_flp2]
  · simp [kp, mir]
    exact meet_comm
theorem kp_pls {w : List Srt} {p : Sen} (hw : p.w ∈ WD) : kp w (pls p) = kp w p := by
  unfold pls
  split
  · exact kp_mir hw
  · rfl
end P

namespace P
open PySem PySem.Spec PyProof.Rows L2 Q G
variable {h g : AH} {i j k : Int} {b : Bool} {ds : List Q.D} {ks os xs ys : List Str} {N : Nat} {o : O} {s t u : Tm} {p q r : Sen}
/-! ### dicts of whole numbers by kinds -/
theorem app_at {l : AH} {i : Nat} : (h ++ l)[h.length + i]? = l[i]? := by
  rw [List.getElem?_append_right (by omega), Nat.add_sub_cancel_left]
theorem app_set {l : AH} {i : Nat} {o : O} : (h ++ l).set (h.length + i) o = h ++ l.set i o := by
  rw [List.set_append_right _ _ (by omega), Nat.add_sub_cancel_left]
def dkI (ks : List Str) (f : Str → Int) : List (Key × Q.D) := ks.map fun k => (.inr k, .int (f k))
def updS (f : Str → Int) (x : Str) (v : Int) : Str → Int := fun k => if k = x then v else f k
theorem dkI_get {f : Str → Int} {x : Str} (hx : x ∈ ks) : dkGet (dkI ks f) (.inr x) = some (.int (f x)) := by
  unfold dkGet dkI
  induction ks with
  | nil => cases hx
  | cons k ks ih =>
    rw [List.map_cons, List.find?_cons]
    by_cases e : k = x
    · subst e; simp
    · have e2 : (Sum.inr k : Key) ≠ .inr x := fun z => e (Sum.inr.inj z)
      simp only [e2, decide_false]
      exact ih ((List.mem_cons.mp hx).resolve_left fun z => e z.symm)
theorem dkI_put {f : Str → Int} {x : Str} {v : Int} (hx : x ∈ ks) : dkPut (dkI ks f) (.inr x) (.int v) = dkI ks (updS f x v) := by
  unfold dkPut
  rw [if_pos (by
    rw [List.any_eq_true]
    exact ⟨(.inr x, .int (f x)), List.mem_map_of_mem (f := fun k => ((.inr k : Key), Q.D.int (f k))) hx, by simp⟩)]
  unfold dkI
  rw [List.map_map]
  refine List.map_congr_left fun k _ => ?_
  show (if (Sum.inr k : Key) = .inr x then _ else _) = _
  unfold updS
  by_cases e : k = x
  · subst e; simp
  · rw [if_neg fun z => e (Sum.inr.inj z), if_neg e]
/-- the heap while a measure is made -/
abbrev HM (h : AH) (ks : List Str) (F : List (Str × Q.D)) (f z : Str → Int) (l : AH) : AH := h ++ ([.ins "Measure" F, .dk (dkI ks f), .dk (dkI ks z)] ++ l)
variable {F : List (Str × Q.D)} {f z : Str → Int} {l : AH} {x : Str}
theorem hm1 : objAt (HM h ks F f z l) (.ref (h.length + 1)) = some (.dk (dkI ks f)) := app_at
theorem hm2 : objAt (HM h ks F f z l) (.ref (h.length + 2)) = some (.dk (dkI ks z)) := app_at
theorem ix_dk {n : Nat} {kvs : List (Key × Q.D)} {d : Q.D} (e : objAt h (.ref n) = some (.dk kvs)) (e2 : dkGet kvs (.inr x) = some d) : dIx (.ref n) (.str x) h = some (d, h) := by
  unfold dIx
  rw [e]
  dsimp only
  rw [show keyD (.str x) = some (.inr x) from rfl]
  dsimp only
  rw [e2]; rfl
theorem ixk_dk {n : Nat} {kvs : List (Key × Q.D)} {d : Q.D} (e : objAt h (.ref n) = some (.dk kvs)) (e2 : dkGet kvs (.inr x) = some d) : dIxK (.ref n) (.str x) h = some (d, h) := by
  unfold dIxK
  rw [e]
  dsimp only
  rw [show keyD (.str x) = some (.inr x) from rfl]
  dsimp only
  rw [e2]; rfl
theorem hm_ix1 (hx : x ∈ ks) : dIx (.ref (h.length + 1)) (.str x) (HM h ks F f z l) = some (.int (f x), HM h ks F f z l) := ix_dk hm1 (dkI_get hx)
theorem hm_ix2 (hx : x ∈ ks) : dIx (.ref (h.length + 2)) (.str x) (HM h ks F f z l) = some (.int (z x), HM h ks F f z l) := ix_dk hm2 (dkI_get hx)
theorem hm_ixk2 (hx : x ∈ ks) : dIxK (.ref (h.length + 2)) (.str x) (HM h ks F f z l) = some (.int (z x), HM h ks F f z l) := ixk_dk hm2 (dkI_get hx)
theorem set_dk {n : Nat} {kvs : List (Key × Q.D)} {d : Q.D} (e : h[n]? = some (.dk kvs)) (hl : kvs.length < 16777216) : dSet (.ref n) (.str x) d h = some (h.set n (.dk (dkPut kvs (.inr x) d))) := by
  unfold dSet
  dsimp only
  rw [e]
  dsimp only
  rw [show keyD (.str x) = some (.inr x) from rfl]
  dsimp only
  rw [if_pos hl]
theorem hm_set1 {v : Int} (hx : x ∈ ks) (hl : ks.length ≤ 1000) : dSet (.ref (h.length + 1)) (.str x) (.int v) (HM h ks F f z l) = some (HM h ks F (updS f x v) z l) := by
  rw [set_dk (kvs := dkI ks f) app_at (by simp [dkI]; omega), dkI_put hx, app_set]
  rfl
theorem hm_set2 {v : Int} (hx : x ∈ ks) (hl : ks.length ≤ 1000) : dSet (.ref (h.length + 2)) (.str x) (.int v) (HM h ks F f z l) = some (HM h ks F f (updS z x v) l) := by
  rw [set_dk (kvs := dkI ks z) app_at (by simp [dkI]; omega), dkI_put hx, app_set]
  rfl
abbrev σm (h : AH) (ks : List Str) (w : List Srt) (W : Int) (y6 y7 y8 y9 y10 : Option Q.D) : AS := [some (.ref h.length), some (ksD ks), some (wdD w), some (.int W), some (.ref (h.length + 1)), some (.ref (h.length + 2)), y6, y7, y8, y9, y10]
theorem m_1 {w : List Srt} {W : Int} {y9 y10 : Option Q.D} {p : Srt} {t : Nat} (ht : t ≤ 4000) (hx : x ∈ ks) (hl : ks.length ≤ 1000) :
    b_Measure____init___1 (σm h ks w W (some (.str x)) (some (.int t)) (some (soD p)) y9 y10) (HM h ks F f z l) = .nx (σm h ks w W (some (.str x)) (some (.int t)) (some (soD p)) y9 y10) (HM h ks F (updS f x (Builtin.bitOr (f x) (1 * 2 ^ t))) (updS z x (z x + p.2)) l) := by
  have h1 : (0 : Int) ≤ t ∧ (t : Int) ≤ 1000000 ∧ (1 : Int).natAbs < 2 ^ 64 := ⟨by omega, by omega, by decide⟩
  have i1 : ∀ h : AH, dIx (soD p) (.int 1) h = some (.int p.2, h) := fun h => by simp [soD]
  have s1 : dShl (.int 1) (.int t) (HM h ks F f z l) = some (.int (1 * 2 ^ t), HM h ks F f z l) := by
    exact (if_pos h1).trans (by simp)
  simp only [b_Measure____init___1, run_sCons, run_sAsg, run_eOp, run_eVar0, run_eVarS, Res.bind, hm_ix1 hx, lif, run_eC, s1]
  simp -implicitDefEqProofs only [run_sCons, run_dInt, if_true, lif, Res.andS, gSubD, run_eVar0, run_eVarS, hm_set1 hx hl, Option.map, stO, seq_nx, run_sAugS, hm_ixk2 hx, run_eOp, Res.bind, i1, run_eC, augV_int, hm_set2 hx hl, Q.stH, run_sNil]
end P

namespace P
open PySem PySem.Spec PyProof.Rows L2 Q G
variable {h g : AH} {i j k : Int} {b : Bool} {ds : List Q.D} {ks os xs ys : List Str} {N : Nat} {o : O} {s t u : Tm} {p q r : Sen}
variable {F : List (Str × Q.D)} {f z : Str → Int} {l : AH} {x : Str} {w : List Srt} {W : Int} {y6 y7 y8 y9 y10 : Option Q.D}
/-! ### Measure: the two loops over the world -/
theorem m_2 {p : Srt} {t : Nat} (ht : t ≤ 4000) (hl : ks.length ≤ 1000) : ∀ (xs : List Str) (f z : Str → Int) (y6 : Option Q.D), xs.Nodup → (∀ x ∈ xs, x ∈ ks) →
    ∃ y, forL (fun _ => True) (gSlot 6) b_Measure____init___1 (xs.map .str) (σm h ks w W y6 (some (.int t)) (some (soD p)) y9 y10) (HM h ks F f z l) = .nx (σm h ks w W y (some (.int t)) (some (soD p)) y9 y10) (HM h ks F (fun k => if k ∈ xs then Builtin.bitOr (f k) (1 * 2 ^ t) else f k) (fun k => if k ∈ xs then z k + p.2 else z k) l)
  | [], f, z, y6, _, _ => ⟨y6, by rw [List.map_nil, forL_nil trivial]; simp⟩
  | x :: xs, f, z, y6, nd, hs => by
    rw [List.nodup_cons] at nd
    obtain ⟨y, e⟩ := m_2 ht hl xs (updS f x (Builtin.bitOr (f x) (1 * 2 ^ t))) (updS z x (z x + p.2)) (some (.str x)) nd.2 (fun u hu => hs u (List.mem_cons_of_mem _ hu))
    refine ⟨y, ?_⟩
    rw [List.map_cons, forL_cons trivial (σ1 := σm h ks w W (some (.str x)) (some (.int t)) (some (soD p)) y9 y10) (h1 := HM h ks F f z l) rfl, m_1 ht (hs x List.mem_cons_self) hl]
    dsimp only
    rw [e]
    have e1 : (fun k => if k ∈ xs then Builtin.bitOr (updS f x (Builtin.bitOr (f x) (1 * 2 ^ t)) k) (1 * 2 ^ t) else updS f x (Builtin.bitOr (f x) (1 * 2 ^ t)) k) = fun k => if k ∈ x :: xs then Builtin.bitOr (f k) (1 * 2 ^ t) else f k := funext fun k => by
      unfold updS
      by_cases ek : k = x
      · subst ek
        rw [if_neg nd.1, if_pos rfl, if_pos List.mem_cons_self]
      · rw [if_neg ek]
        simp [ek]
    have e2 : (fun k => if k ∈ xs then updS z x (z x + p.2) k + p.2 else updS z x (z x + p.2) k) = fun k => if k ∈ x :: xs then z k + p.2 else z k := funext fun k => by
      unfold updS
      by_cases ek : k = x
      · subst ek
        rw [if_neg nd.1, if_pos rfl, if_pos List.mem_cons_self]
      · rw [if_neg ek]
        simp [ek]
    rw [e1, e2]
def en : Nat → List Srt → List Q.D
  | _, [] => []
  | t, p :: w => .tup [.int t, soD p] :: en (t + 1) w
theorem en_get : ∀ (w : List Srt) (t i : Nat), (en t w)[i]? = (w[i]?).map fun p => .tup [.int ((t + i : Nat) : Int), soD p]
  | [], t, i => by simp [en]
  | p :: w, t, 0 => by simp [en]
  | p :: w, t, i + 1 => by
    rw [en, List.getElem?_cons_succ, en_get w, List.getElem?_cons_succ, show t + 1 + i = t + (i + 1) by omega]
theorem en_eq (w : List Srt) : enumD (w.map soD) = en 0 w := by
  refine List.ext_getElem? fun i => ?_
  rw [en_get]
  cases e : w[i]? with
  | none =>
    rw [List.getElem?_eq_none (by rw [enumD_len, List.length_map]; exact List.getElem?_eq_none_iff.mp e)]
    rfl
  | some p =>
    rw [enumD_get (d := soD p) (by rw [List.getElem?_map, e]; rfl)]
    simp
theorem m_3 (hl : ks.length ≤ 1000) : ∀ (v : List Srt) (t : Nat) (m : Str → Nat) (z : Str → Int) (y6 y7 y8 : Option Q.D), t + v.length ≤ 4000 → (∀ p ∈ v, Sort' ks p) →
    ∃ a b c, forL (fun _ => True) (gTupD 2 (gsCons (gSlot 7) (gsCons (gSlot 8) gsNil))) b_Measure____init___2 (en t v) (σm h ks w W y6 y7 y8 y9 y10) (HM h ks F (fun k => (m k : Int)) z l) = .nx (σm h ks w W a b c y9 y10) (HM h ks F (fun k => ((mgo k t v (m k) : Nat) : Int)) (fun k => sgo k v (z k)) l)
  | [], t, m, z, y6, y7, y8, _, _ => ⟨y6, y7, y8, by rw [en, forL_nil trivial]; rfl⟩
  | p :: v, t, m, z, y6, y7, y8, ht, hs => by
    rw [List.length_cons] at ht
    have S := hs p List.mem_cons_self
    obtain ⟨y, e⟩ := m_2 (h := h) (w := w) (W := W) (F := F) (l := l) (y9 := y9) (y10 := y10) (p := p) (t := t) (by omega) hl p.1 (fun k => (m k : Int)) z y6 S.asc.nodup S.sub
    have e1 : (fun k => if k ∈ p.1 then Builtin.bitOr (m k : Int) (1 * 2 ^ t) else (m k : Int)) = fun k => ((if k ∈ p.1 then m k ||| 2 ^ t else m k : Nat) : Int) := funext fun k => by
      rw [Int.one_mul, two_nat]
      split
      · rw [or_nat]
      · rfl
    rw [e1] at e
    obtain ⟨a, b, c, e3⟩ := m_3 hl v (t + 1) (fun k => if k ∈ p.1 then m k ||| 2 ^ t else m k) (fun k => if k ∈ p.1 then z k + p.2 else z k) y (some (.int t)) (some (soD p)) (by omega) (fun u hu => hs u (List.mem_cons_of_mem _ hu))
    refine ⟨a, b, c, ?_⟩
    have i0 : ∀ h : AH, dIx (soD p) (.int 0) h = some (ksD p.1, h) := fun h => by simp [soD]
    have b2 : b_Measure____init___2 (σm h ks w W y6 (some (.int t)) (some (soD p)) y9 y10) (HM h ks F (fun k => (m k : Int)) z l) = .nx (σm h ks w W y (some (.int t)) (some (soD p)) y9 y10) (HM h ks F (fun k => ((if k ∈ p.1 then m k ||| 2 ^ t else m k : Nat) : Int)) (fun k => if k ∈ p.1 then z k + p.2 else z k) l) := by
      simp only [b_Measure____init___2, run_sCons, run_sFor, run_iSeq, run_eOp, run_eVar0, run_eVarS, Res.bind, i0, lif, run_eC]
      rw [show ∀ h : AH, seqK (ksD p.1) h = .ok (p.1.map .str, fun _ => True) h from fun _ => rfl]
      simp only [Res.andS]
      rw [e]
      rfl
    rw [en, forL_cons trivial (σ1 := σm h ks w W y6 (some (.int t)) (some (soD p)) y9 y10) (h1 := HM h ks F (fun k => (m k : Int)) z l) rfl, b2]
    dsimp only
    rw [e3]
    rfl
end P

namespace P
open PySem PySem.Spec PyProof.Rows L2 Q G
variable {h g : AH} {i j k : Int} {b : Bool} {ds : List Q.D} {ks os xs ys : List Str} {N : Nat} {o : O} {s t u : Tm} {p q r : Sen}
variable {f z : Str → Int} {l : AH} {x : Str} {w : List Srt} {W : Int} {y6 y7 y8 y9 y10 : Option Q.D} {MT ST : List (Q.D × Q.D)}
/-! ### Measure: the tables of the terms -/
theorem len_dtPut {kvs : List (Q.D × Q.D)} {d v : Q.D} {k : NestedKey} : (dtPut kvs d k v).length ≤ kvs.length + 1 := by
  unfold dtPut
  split <;> simp
theorem set_dt {n : Nat} {kvs : List (Q.D × Q.D)} {t : Tm} {d : Q.D} (e : h[n]? = some (.dt kvs)) (hl : kvs.length < 16777216) : dSet (.ref n) (tmD t) d h = some (h.set n (.dt (dtPut kvs (tmD t) (tmK t) d))) := by
  unfold dSet
  dsimp only
  rw [e]
  dsimp only
  rw [tkey_tm]
  dsimp only
  rw [if_pos hl]
theorem ix_dt {n : Nat} {kvs : List (Q.D × Q.D)} {t : Tm} {d : Q.D} (e : objAt h (.ref n) = some (.dt kvs)) (e2 : dtGet kvs (tmK t) = some d) : dIx (.ref n) (tmD t) h = some (d, h) := by
  unfold dIx
  rw [e]
  dsimp only
  rw [tkey_tm]
  dsimp only
  rw [e2]; rfl
/-- the fields of a measure -/
def FM (h : AH) (w : List Srt) : List (Str × Q.D) := [("numbers", .fro (w.map fun p => .int p.2)), ("many", .int (allT w)), ("masks", .ref (h.length + 3)), ("sizes", .ref (h.length + 4))]
/-- the heap with a measure -/
abbrev HD (h : AH) (ks : List Str) (w : List Srt) (f z : Str → Int) (MT ST : List (Q.D × Q.D)) : AH := HM h ks (FM h w) f z [.dt MT, .dt ST]
theorem hd0 : (HD h ks w f z MT ST)[h.length]? = some (.ins "Measure" (FM h w)) := app_at (i := 0)
theorem at_masks : atV AT "masks" (.ref h.length) (HD h ks w f z MT ST) = .ok (.ref (h.length + 3)) (HD h ks w f z MT ST) := atV_of hd0 (by decide) rfl
theorem at_sizes : atV AT "sizes" (.ref h.length) (HD h ks w f z MT ST) = .ok (.ref (h.length + 4)) (HD h ks w f z MT ST) := atV_of hd0 (by decide) rfl
theorem at_many : atV AT "many" (.ref h.length) (HD h ks w f z MT ST) = .ok (.int (allT w)) (HD h ks w f z MT ST) := atV_of hd0 (by decide) rfl
theorem hd_set3 {t : Tm} {d : Q.D} (hl : MT.length < 16777216) : dSet (.ref (h.length + 3)) (tmD t) d (HD h ks w f z MT ST) = some (HD h ks w f z (dtPut MT (tmD t) (tmK t) d) ST) := by
  rw [set_dt (kvs := MT) app_at hl, app_set]
  rfl
theorem hd_set4 {t : Tm} {d : Q.D} (hl : ST.length < 16777216) : dSet (.ref (h.length + 4)) (tmD t) d (HD h ks w f z MT ST) = some (HD h ks w f z MT (dtPut ST (tmD t) (tmK t) d)) := by
  rw [set_dt (kvs := ST) app_at hl, app_set]
  rfl
def put2 (T : List (Q.D × Q.D)) (x : Str) (i j : Int) : List (Q.D × Q.D) := dtPut (dtPut T (tmD (x, true)) (tmK (x, true)) (.int i)) (tmD (x, false)) (tmK (x, false)) (.int j)
theorem put2_len {T : List (Q.D × Q.D)} {i j : Int} : (put2 T x i j).length ≤ T.length + 2 := by
  unfold put2
  have h1 := len_dtPut (kvs := T) (d := tmD (x, true)) (k := tmK (x, true)) (v := .int i)
  have h2 := len_dtPut (kvs := dtPut T (tmD (x, true)) (tmK (x, true)) (.int i)) (d := tmD (x, false)) (k := tmK (x, false)) (v := .int j)
  omega
theorem put2_get {T : List (Q.D × Q.D)} {i j : Int} {t : Tm} : dtGet (put2 T x i j) (tmK t) = if t.1 = x then some (.int (if t.2 = true then i else j)) else dtGet T (tmK t) := by
  unfold put2
  rw [dtGet_put (nk_tm _), dtGet_put (nk_tm _)]
  obtain ⟨y, c⟩ := t
  by_cases e : y = x
  · subst e
    rw [if_pos rfl]
    cases c with
    | true =>
      rw [if_neg (fun z => by have := tmK_inj z; simp at this), if_pos rfl]; rfl
    | false => rw [if_pos rfl]; rfl
  · rw [if_neg (fun z => e (congrArg Prod.fst (tmK_inj z))), if_neg (fun z => e (congrArg Prod.fst (tmK_inj z))), if_neg e]
theorem m_5 (hx : x ∈ ks) (hm : MT.length + 2 < 16777216) (hs : ST.length + 2 < 16777216) :
    b_Measure____init___3 (σm h ks w W (some (.str x)) y7 y8 y9 y10) (HD h ks w f z MT ST) = .nx (σm h ks w W (some (.str x)) y7 y8 y9 y10) (HD h ks w f z (put2 MT x (f x) (Builtin.bitXor W (f x))) (put2 ST x (z x) (allT w - z x))) := by
  have e1 : ∀ c : Bool, Q.D.tup [.str x, .bl c] = tmD (x, c) := fun _ => rfl
  have l1 := len_dtPut (kvs := MT) (d := tmD (x, true)) (k := tmK (x, true)) (v := .int (f x))
  have l2 := len_dtPut (kvs := ST) (d := tmD (x, true)) (k := tmK (x, true)) (v := .int (z x))
  have a1 : ∀ MT ST, dIx (.ref (h.length + 1)) (.str x) (HD h ks w f z MT ST) = some (.int (f x), HD h ks w f z MT ST) := fun _ _ => hm_ix1 hx
  have a2 : ∀ MT ST, dIx (.ref (h.length + 2)) (.str x) (HD h ks w f z MT ST) = some (.int (z x), HD h ks w f z MT ST) := fun _ _ => hm_ix2 hx
  have b1 : ∀ M', dSet (.ref (h.length + 4)) (tmD (x, true)) (.int (z x)) (HD h ks w f z M' ST) = some (HD h ks w f z M' (dtPut ST (tmD (x, true)) (tmK (x, true)) (.int (z x)))) := fun M' => hd_set4 (by omega)
  have b2 : ∀ M', dSet (.ref (h.length + 4)) (tmD (x, false)) (.int (allT w - z x)) (HD h ks w f z M' (dtPut ST (tmD (x, true)) (tmK (x, true)) (.int (z x)))) = some (HD h ks w f z M' (put2 ST x (z x) (allT w - z x))) := fun M' => hd_set4 (by omega)
  have b3 : dSet (.ref (h.length + 3)) (tmD (x, true)) (.int (f x)) (HD h ks w f z MT ST) = some (HD h ks w f z (dtPut MT (tmD (x, true)) (tmK (x, true)) (.int (f x))) ST) := hd_set3 (by omega)
  have b4 : dSet (.ref (h.length + 3)) (tmD (x, false)) (.int (Builtin.bitXor W (f x))) (HD h ks w f z (dtPut MT (tmD (x, true)) (tmK (x, true)) (.int (f x))) ST) = some (HD h ks w f z (put2 MT x (f x) (Builtin.bitXor W (f x))) ST) := hd_set3 (by omega)
  simp -implicitDefEqProofs only [b_Measure____init___3, run_sCons, run_sNil, run_sAsg, run_eOp, run_eVar0, run_eVarS, Res.bind, a1, lif, Res.andS, gSubD, run_eAt, at_masks, run_eTup, run_aCons, run_aNil, run_eC, List.length_cons, List.length_nil, Nat.zero_add, Nat.reduceAdd, Nat.reduceLeDiff, if_true, e1,
    b1, b2, b3, b4, Option.map, stO, seq_nx, run_dInt, a2, at_sizes, at_many]
theorem m_6 : ∀ (xs : List Str) (MT ST : List (Q.D × Q.D)) (y6 : Option Q.D), (∀ x ∈ xs, x ∈ ks) → MT.length + 2 * xs.length < 16777216 → ST.length + 2 * xs.length < 16777216 →
    ∃ y M' S', forL (fun _ => True) (gSlot 6) b_Measure____init___3 (xs.map .str) (σm h ks w W y6 y7 y8 y9 y10) (HD h ks w f z MT ST) = .nx (σm h ks w W y y7 y8 y9 y10) (HD h ks w f z M' S') ∧
      (∀ t : Tm, dtGet M' (tmK t) = if t.1 ∈ xs then some (.int (if t.2 = true then f t.1 else Builtin.bitXor W (f t.1))) else dtGet MT (tmK t)) ∧
      ∀ t : Tm, dtGet S' (tmK t) = if t.1 ∈ xs then some (.int (if t.2 = true then z t.1 else allT w - z t.1)) else dtGet ST (tmK t)
  | [], MT, ST, y6, _, _, _ => ⟨y6, MT, ST, by rw [List.map_nil, forL_nil trivial], fun t => by simp, fun t => by simp⟩
  | x :: xs, MT, ST, y6, hs, hm, hs2 => by
    rw [List.length_cons] at hm hs2
    have l1 := put2_len (x := x) (T := MT) (i := f x) (j := Builtin.bitXor W (f x))
    have l2 := put2_len (x := x) (T := ST) (i := z x) (j := allT w - z x)
    obtain ⟨y, M', S', e, g1, g2⟩ := m_6 xs (put2 MT x (f x) (Builtin.bitXor W (f x))) (put2 ST x (z x) (allT w - z x)) (some (.str x)) (fun u hu => hs u (List.mem_cons_of_mem _ hu)) (by omega) (by omega)
    refine ⟨y, M', S', ?_, fun t => ?_, fun t => ?_⟩
    · rw [List.map_cons, forL_cons trivial (σ1 := σm h ks w W (some (.str x)) y7 y8 y9 y10) (h1 := HD h ks w f z MT ST) rfl, m_5 (hs x List.mem_cons_self) (by omega) (by omega)]
      exact e
    · rw [g1, put2_get]
      by_cases e1 : t.1 = x
      · subst e1
        rw [if_pos List.mem_cons_self, if_pos rfl]
        split <;> rfl
      · rw [if_neg e1]
        simp [e1]
    · rw [g2, put2_get]
      by_cases e1 : t.1 = x
      · subst e1
        rw [if_pos List.mem_cons_self, if_pos rfl]
        split <;> rfl
      · rw [if_neg e1]
        simp [e1]
end P

namespace P
open PySem PySem.Spec PyProof.Rows L2 Q G
variable {h g : AH} {i j k : Int} {b : Bool} {ds : List Q.D} {ks os xs ys : List Str} {N : Nat} {o : O} {s t u : Tm} {p q r : Sen}
variable {f z : Str → Int} {l : AH} {x : Str} {w : List Srt} {W : Int} {y6 y7 y8 y9 y10 : Option Q.D} {MT ST : List (Q.D × Q.D)}
/-! ### Measure made -/
/-- nothing refers beyond the heap -/
def Cl (h : AH) : Prop := ∀ o ∈ h, closedO h.length o = true
theorem sum_ints (xs : List Int) : gSum [.fro (xs.map .int)] h = some (.int xs.sum, h) := by
  unfold gSum lsq
  dsimp only
  rw [asInts_map]
theorem trim_ins {F : List (Str × Q.D)} {l : AH} (C : Cl h) (n3 : Nat) (hn : h.length < n3) (hF : (("masks" : Str), Q.D.ref n3) ∈ F) (hl : l ≠ []) : trimR (h ++ [.ins "Measure" []]) true (.ok .non (h ++ ([.ins "Measure" F] ++ l))) = .ok .non (h ++ ([.ins "Measure" F] ++ l)) := by
  have hb : closed (h.length + 1) (.ref n3) = false := by
    rw [closed]
    exact decide_eq_false (by omega)
  have hc : ∀ m, m ≤ h.length + 1 → closedO m (.ins "Measure" F) = false := fun m hm => by
    show (F.all fun p => closed m p.2) = false
    rw [List.all_eq_false]
    refine ⟨(("masks" : Str), Q.D.ref n3), hF, ?_⟩
    show ¬ closed m (.ref n3) = true
    rw [closed]
    simp; omega
  have ll : 0 < l.length := List.length_pos_iff.mpr hl
  rw [trimR_ok, if_neg (by simp; omega), if_neg (fun hh => by
    have := hh.1 (.ins "Measure" F) (by
      rw [show (h ++ [O.ins "Measure" []]).length = (h ++ [O.ins "Measure" F]).length from by simp, ← List.append_assoc, List.take_left]
      simp)
    rcases this with m | m
    · rcases List.mem_append.mp m with m | m
      · have c1 := C _ m
        rw [hc _ (by omega)] at c1
        cases c1
      · rw [List.mem_singleton] at m
        have : F = [] := by injection m
        rw [this] at hF
        cases hF
    · rw [hc _ (by simp)] at m
      cases m)]
  rfl
theorem w_nums : (w.map fun p => Q.D.int p.2) = (w.map fun p => p.2).map .int := by rw [List.map_map]; rfl
theorem r_init (C : Cl h) (hk : ks.length ≤ 1000) (nd : ks.Nodup) (WW : World ks w) : ∃ f z MT ST, f_Measure____init__ [.ref h.length, ksD ks, wdD w] (h ++ [.ins "Measure" []]) = .ok .non (HD h ks w f z MT ST) ∧
    ∀ t : Tm, t.1 ∈ ks → dtGet MT (tmK t) = some (.int (tmk w t)) ∧ dtGet ST (tmK t) = some (.int (cntT w t)) := by
  have hw := WW.most
  have l0 : lcL (fun _ => True) (gTupD 2 (gsCons (gSlot 9) (gsCons (gSlot 10) gsNil))) tYesM (eVar 10) [some (.ref h.length), some (ksD ks), some (wdD w), none, none, none, none, none, none, none, none] (w.map soD) [] (h ++ [.ins "Measure" []]) = .ok (w.map fun p => .int p.2) (h ++ [.ins "Measure" []]) :=
    lc_enc soD (fun p => Q.D.int p.2) trivial w (fun p hp => ⟨_, rfl, rfl⟩) (by omega)
  have sq : ∀ h : AH, seqK (wdD w) h = .ok (w.map soD, fun _ => True) h := fun _ => rfl
  have sk : ∀ h : AH, seqK (ksD ks) h = .ok (ks.map .str, fun _ => True) h := fun _ => rfl
  have sn : ∀ h : AH, enV (wdD w) h = .ok (en 0 w, fun _ => True) h := fun h => by
    rw [wdD, enV_tup, en_eq]
  have p1 : ∀ (f : Str) (F F' : List (Str × Q.D)) (y : Q.D) (σ : AS) (l : AH), f ∈ AT "Measure" → F.length < 1000 → putD f y F = F' → putV AT f y (.ref h.length) σ (h ++ .ins "Measure" F :: l) = .nx σ (h ++ .ins "Measure" F' :: l) := fun f F F' y σ l hf hl e => by
    rw [putV_of (c := "Measure") (fs := F) (by simp) hf hl, e]
    simp
  have a1 : ∀ (F : List (Str × Q.D)) (f : Str) (v : Q.D) (l : AH), f ∈ AT "Measure" → F.lookup f = some v → atV AT f (.ref h.length) (h ++ .ins "Measure" F :: l) = .ok v (h ++ .ins "Measure" F :: l) := fun F f v l hf hv => atV_of (c := "Measure") (fs := F) (by simp) hf hv
  have lw : ∀ h : AH, gLen [wdD w] h = some (.int w.length, h) := fun h => by rw [wdD, len_tup', List.length_map]
  have s1 : ∀ h : AH, dShl (.int 1) (.int w.length) h = some (.int (1 * 2 ^ w.length), h) := fun h => by
    exact (if_pos (show (0 : Int) ≤ w.length ∧ (w.length : Int) ≤ 1000000 ∧ (1 : Int).natAbs < 2 ^ 64 from ⟨by omega, by omega, by decide⟩)).trans (by simp)
  have s2 : ∀ (i : Int) (h : AH), dSub (.int i) (.int 1) h = some (.int (i - 1), h) := fun i h => by simp
  have d0 : ∀ (a0 a1 a2 a3 : Q.D) (y4 y5 : Option Q.D) (h : AH), dcL (fun _ => True) (gSlot 6) tYesM (eVar 6) (eC (.int 0)) [some a0, some a1, some a2, some a3, y4, y5, none, none, none, none, none] (ks.map .str) [] h = .ok (dkI ks fun _ => 0) h := fun a0 a1 a2 a3 y4 y5 h =>
    dcL_keys (v := .int 0) trivial ks [] (by simpa using nd) (by simp; omega) fun x hx => ⟨_, rfl, rfl, rfl⟩
  let NS : Q.D := .fro (w.map fun p => .int p.2)
  let F1 : List (Str × Q.D) := [("numbers", NS)]
  let F2 : List (Str × Q.D) := [("numbers", NS), ("many", .int (allT w))]
  let F3 : List (Str × Q.D) := [("numbers", NS), ("many", .int (allT w)), ("masks", .ref (h.length + 3))]
  have q1 : ∀ σ, putV AT "numbers" NS (.ref h.length) σ (h ++ [.ins "Measure" []]) = .nx σ (h ++ [.ins "Measure" F1]) := fun σ => p1 _ _ _ _ _ [] (by decide) (by decide) rfl
  have a1' := a1 F1 "numbers" NS [] (by decide) rfl
  have q2 : ∀ σ, putV AT "many" (.int (allT w)) (.ref h.length) σ (h ++ [.ins "Measure" F1]) = .nx σ (h ++ [.ins "Measure" F2]) := fun σ => p1 _ _ _ _ _ [] (by decide) (by simp [F1]) rfl
  have q3 : ∀ σ f z, putV AT "masks" (.ref (h.length + 3)) (.ref h.length) σ (h ++ [.ins "Measure" F2, .dk (dkI ks f), .dk (dkI ks z), .dt []]) = .nx σ (h ++ [.ins "Measure" F3, .dk (dkI ks f), .dk (dkI ks z), .dt []]) := fun σ f z => p1 _ _ _ _ _ _ (by decide) (by simp [F2]) rfl
  have q4 : ∀ σ f z, putV AT "sizes" (.ref (h.length + 4)) (.ref h.length) σ (h ++ [.ins "Measure" F3, .dk (dkI ks f), .dk (dkI ks z), .dt [], .dt []]) = .nx σ (HD h ks w f z [] []) := fun σ f z => p1 _ _ _ _ _ _ (by decide) (by simp [F3]) rfl
  have su : ∀ h : AH, gSum [NS] h = some (.int (allT w), h) := fun h => by
    show gSum [.fro (w.map fun p => .int p.2)] h = _
    rw [w_nums, sum_ints]; rfl
  let f0 : Str → Int := fun k => ((mgo k 0 w 0 : Nat) : Int)
  let z0 : Str → Int := fun k => sgo k w 0
  obtain ⟨b6, b7, b8, e3⟩ := m_3 (h := h) (ks := ks) (F := F2) (l := []) (w := w) (W := 1 * 2 ^ w.length - 1) (y9 := none) (y10 := none) hk w 0 (fun _ => 0) (fun _ => 0) none none none (by omega) (fun p hp => WW.sort hp)
  have e3' : forL (fun _ => True) (gTupD 2 (gsCons (gSlot 7) (gsCons (gSlot 8) gsNil))) b_Measure____init___2 (en 0 w) [some (.ref h.length), some (ksD ks), some (wdD w), some (.int (1 * 2 ^ w.length - 1)), some (.ref (h.length + 1)), some (.ref (h.length + 2)), none, none, none, none, none] (h ++ [.ins "Measure" F2, .dk (dkI ks fun _ => 0), .dk (dkI ks fun _ => 0)]) = .nx (σm h ks w (1 * 2 ^ w.length - 1) b6 b7 b8 none none) (h ++ [.ins "Measure" F2, .dk (dkI ks f0), .dk (dkI ks z0)]) := e3
  obtain ⟨c6, MT, ST, e4, g1, g2⟩ := m_6 (h := h) (ks := ks) (w := w) (W := 1 * 2 ^ w.length - 1) (f := f0) (z := z0) (y7 := b7) (y8 := b8) (y9 := none) (y10 := none) ks [] [] b6 (fun x hx => hx) (by simp; omega) (by simp; omega)
  refine ⟨f0, z0, MT, ST, ?_, fun t ht => ⟨?_, ?_⟩⟩
  · rw [e_Measure____init__]
    simp -implicitDefEqProofs -zetaDelta only [m_Measure____init__, run_sCons, run_sAtt, run_eLc, run_iSeq, run_eVar0, run_eVarS, Res.bind, sq, wipeA, List.set, l0, Res.andS]
    rw [q1]
    simp -implicitDefEqProofs -zetaDelta only [seq_nx, run_sCons, run_sAtt, run_eCall, run_aCons, run_aNil, run_eAt, run_eVar0, Res.bind, a1', su, lif, Res.andS]
    rw [q2]
    simp -implicitDefEqProofs -zetaDelta only [seq_nx, run_sCons, run_sAsg, run_eOp, run_eC, run_eCall, run_aCons, run_aNil, run_eVar0, run_eVarS, Res.bind, lw, lif, s1, s2, Res.andS, run_gSlot, List.set, stO, run_eDc, run_iSeq, sk, wipeA, d0, List.length_append, List.length_cons, List.length_nil, Nat.zero_add, List.append_assoc, List.cons_append, List.nil_append, Nat.add_assoc, Nat.reduceAdd, run_sFor, run_iEn, sn]
    rw [e3']
    simp -implicitDefEqProofs -zetaDelta only [seq_nx, run_sCons, run_sAtt, run_eNewT, run_eVar0, Res.bind, Res.andS, List.length_append, List.length_cons, List.length_nil, Nat.zero_add, List.append_assoc, List.cons_append, List.nil_append, Nat.add_assoc, Nat.reduceAdd]
    rw [q3]
    simp -implicitDefEqProofs -zetaDelta only [seq_nx, run_sCons, run_sAtt, run_eNewT, run_eVar0, Res.bind, Res.andS, List.length_append, List.length_cons, List.length_nil, Nat.zero_add, List.append_assoc, List.cons_append, List.nil_append, Nat.add_assoc, Nat.reduceAdd]
    rw [q4]
    simp -implicitDefEqProofs -zetaDelta only [seq_nx, run_sCons, run_sFor, run_iSeq, run_eVar0, run_eVarS, Res.bind, sk, Res.andS]
    rw [e4]
    simp -implicitDefEqProofs -zetaDelta only [seq_nx, run_sNil, retOf_nx]
    exact trim_ins (F := FM h w) (l := [.dk (dkI ks f0), .dk (dkI ks z0), .dt MT, .dt ST]) C (h.length + 3) (by omega) (by simp [FM]) (by simp)
  · rw [g1, if_pos ht]
    obtain ⟨x, b⟩ := t
    cases b with
    | true => rfl
    | false =>
      show some (Q.D.int (Builtin.bitXor (1 * 2 ^ w.length - 1) ((mgo x 0 w 0 : Nat) : Int))) = _
      rw [Int.one_mul, xor_whole mgo_lt]
      rfl
  · rw [g2, if_pos ht]
    obtain ⟨x, b⟩ := t
    cases b with
    | true =>
      show some (Q.D.int (sgo x w 0)) = _
      rw [sgo_add, Int.zero_add]
    | false =>
      show some (Q.D.int (allT w - sgo x w 0)) = _
      rw [sgo_add, Int.zero_add, cnt_flp]
end P

namespace P
open PySem PySem.Spec PyProof.Rows L2 Q G
variable {h g : AH} {i j k : Int} {b : Bool} {ds : List Q.D} {ks os xs ys : List Str} {N : Nat} {o : O} {s t u : Tm} {p q r : Sen}
variable {f z : Str → Int} {l : AH} {x : Str} {w : List Srt} {W : Int} {y6 y7 y8 y9 y10 : Option Q.D} {MT ST : List (Q.D × Q.D)}
/-! ### Measure asked -/
/-- the tables tell of the world -/
def MTab (ks : List Str) (w : List Srt) (MT ST : List (Q.D × Q.D)) : Prop := ∀ t : Tm, t.1 ∈ ks → dtGet MT (tmK t) = some (.int (tmk w t)) ∧ dtGet ST (tmK t) = some (.int (cntT w t))
theorem hd3 : objAt (HD h ks w f z MT ST) (.ref (h.length + 3)) = some (.dt MT) := app_at
theorem hd4 : objAt (HD h ks w f z MT ST) (.ref (h.length + 4)) = some (.dt ST) := app_at
theorem mask_of {t : Tm} (T : MTab ks w MT ST) (ht : t.1 ∈ ks) : dIx (.ref (h.length + 3)) (tmD t) (HD h ks w f z MT ST) = some (.int (tmk w t), HD h ks w f z MT ST) := ix_dt hd3 (T t ht).1
theorem size_of' {t : Tm} (T : MTab ks w MT ST) (ht : t.1 ∈ ks) : dIx (.ref (h.length + 4)) (tmD t) (HD h ks w f z MT ST) = some (.int (cntT w t), HD h ks w f z MT ST) := ix_dt hd4 (T t ht).2
theorem r_meets {a b : Tm} (T : MTab ks w MT ST) (ha : a.1 ∈ ks) (hb : b.1 ∈ ks) : f_Measure__meets [.ref h.length, tmD a, tmD b] (HD h ks w f z MT ST) = .ok (.bl (meetB w a b)) (HD h ks w f z MT ST) := by
  rw [e_Measure__meets]
  simp -implicitDefEqProofs only [m_Measure__meets, run_sCons, run_sNil, run_sRet, run_eOp, run_eAt, run_eVar0, run_eVarS, Res.bind, at_masks, mask_of T ha, mask_of T hb, lif, run_eC, run_dInt, if_true, Q.ne_int, Res.andS, seq_rt, retOf_rt, meet_mask]
  exact trim_same rfl
theorem me_meets {a b : Tm} {r : ML} {σ : AS} (T : MTab ks w MT ST) (ha : a.1 ∈ ks) (hb : b.1 ∈ ks) (e : r σ (HD h ks w f z MT ST) = .ok [tmD a, tmD b] (HD h ks w f z MT ST)) : meK "Measure" "meets" f_Measure__meets [] r σ (.ref h.length) (HD h ks w f z MT ST) = .ok (.bl (meetB w a b)) (HD h ks w f z MT ST) := by
  rw [meK_of hd0 rfl, e]
  exact r_meets T ha hb
theorem r_keeps (T : MTab ks w MT ST) (O : Over ks p) : f_Measure__keeps [.ref h.length, snD p] (HD h ks w f z MT ST) = .ok (.bl (kp w p)) (HD h ks w f z MT ST) := by
  have hf : (flp p.b).1 ∈ ks := O.b
  rw [e_Measure__keeps]
  simp -implicitDefEqProofs only [m_Measure__keeps, run_sCons, run_sNil, run_sAsg, run_eVar0, run_eVarS, Res.andS, snD, run_gTupD, List.length_cons, List.length_nil, Nat.zero_add, Nat.reduceAdd, if_true, run_gsCons, run_gsNil, List.set, stO, seq_nx, run_sIf, run_mB, run_eOp, Res.bind, run_eC, Q.eq_str, lif, asB, run_sRet, run_eNot, run_eMe, run_eAt, at_sizes, size_of' T O.a, size_of' T O.b, Q.gt_int', Q.ge_int']
  by_cases h1 : p.w = "all"
  · have e1 : (aCons (eVar 3) (aCons (eFn f_flip [] (aCons (eVar 4) aNil)) aNil)) [some (.ref h.length), some (.tup [.str p.w, tmD p.a, tmD p.b]), some (.str p.w), some (tmD p.a), some (tmD p.b)] (HD h ks w f z MT ST) = .ok [tmD p.a, tmD (flp p.b)] (HD h ks w f z MT ST) := by
      simp -implicitDefEqProofs only [run_aCons, run_aNil, run_eVar0, run_eVarS, run_eFn, Res.bind, List.append_nil, r_flip]
    simp -implicitDefEqProofs only [h1, decide_true, if_true]
    rw [h1] at e1
    rw [me_meets T O.a hf e1]
    simp -implicitDefEqProofs only [Res.bind, dnot_bl, seq_rt, retOf_rt]
    rw [show kp w p = !meetB w p.a (flp p.b) from by unfold kp; rw [if_pos h1]]
    exact trim_same rfl
  · have d1 : decide (p.w = "all") = false := decide_eq_false h1
    by_cases h2 : p.w = "some"
    · have e1 : (aCons (eVar 3) (aCons (eVar 4) aNil)) [some (.ref h.length), some (.tup [.str p.w, tmD p.a, tmD p.b]), some (.str p.w), some (tmD p.a), some (tmD p.b)] (HD h ks w f z MT ST) = .ok [tmD p.a, tmD p.b] (HD h ks w f z MT ST) := by
        simp -implicitDefEqProofs only [run_aCons, run_aNil, run_eVar0, run_eVarS, Res.bind]
      have d2 : decide (p.w = "some") = true := decide_eq_true h2
      simp -implicitDefEqProofs only [d1, d2, if_true, if_false, Bool.false_eq_true, seq_nx, run_sCons, run_sNil, run_sIf, run_mB, run_eOp, run_eVar0, run_eVarS, Res.bind, run_eC, Q.eq_str, lif, asB, run_sRet, run_eNot, run_eMe, run_eAt, at_masks, at_sizes, size_of' T O.a, size_of' T O.b, Q.gt_int', Q.ge_int', Res.andS]
      rw [me_meets T O.a O.b e1]
      simp -implicitDefEqProofs only [Res.bind, seq_rt, retOf_rt]
      rw [show kp w p = meetB w p.a p.b from by unfold kp; rw [if_neg h1, if_pos h2]]
      exact trim_same rfl
    · have d2 : decide (p.w = "some") = false := decide_eq_false h2
      by_cases h3 : p.w = "more"
      · have d3 : decide (p.w = "more") = true := decide_eq_true h3
        simp -implicitDefEqProofs only [d1, d2, d3, if_true, if_false, Bool.false_eq_true, seq_nx, seq_rt, retOf_rt, run_sCons, run_sNil, run_sIf, run_mB, run_eOp, run_eVar0, run_eVarS, Res.bind, run_eC, Q.eq_str, lif, asB, run_sRet, run_eNot, run_eMe, run_eAt, at_masks, at_sizes, size_of' T O.a, size_of' T O.b, Q.gt_int', Q.ge_int', Res.andS]
        rw [show kp w p = decide (cntT w p.b < cntT w p.a) from by unfold kp; rw [if_neg h1, if_neg h2, if_pos h3]]
        exact trim_same rfl
      · have d3 : decide (p.w = "more") = false := decide_eq_false h3
        simp -implicitDefEqProofs only [d1, d2, d3, if_true, if_false, Bool.false_eq_true, seq_nx, seq_rt, retOf_rt, run_sCons, run_sNil, run_sIf, run_mB, run_eOp, run_eVar0, run_eVarS, Res.bind, run_eC, Q.eq_str, lif, asB, run_sRet, run_eNot, run_eMe, run_eAt, at_masks, at_sizes, size_of' T O.a, size_of' T O.b, Q.gt_int', Q.ge_int', Res.andS]
        rw [show kp w p = decide (cntT w p.b ≤ cntT w p.a) from by unfold kp; rw [if_neg h1, if_neg h2, if_neg h3]]
        exact trim_same rfl
theorem r_keeps_list {ss : List Sen} (T : MTab ks w MT ST) (hs : ∀ p ∈ ss, Over ks p) (hl : ss.length ≤ 16777216) : f_Measure__keeps_all [.ref h.length, .tup (ss.map snD)] (HD h ks w f z MT ST) = .ok (.bl (ss.all (kp w))) (HD h ks w f z MT ST) := by
  rw [e_Measure__keeps_all]
  simp -implicitDefEqProofs only [m_Measure__keeps_all, run_sCons, run_sRet, run_eCall, run_aCons, run_aNil, run_eLc, run_iSeq, run_eVar0, run_eVarS, Res.bind, seqK_tup, wipeA, List.set]
  rw [lc_enc snD (fun s => Q.D.bl (kp w s)) trivial ss (fun p hp => ⟨_, rfl, by
    simp -implicitDefEqProofs only [run_eMe, run_eVar0, run_eVarS, Res.bind, List.set]
    rw [meK_of hd0 rfl]
    simp -implicitDefEqProofs only [run_aCons, run_aNil, run_eVar0, run_eVarS, Res.bind, List.append_nil]
    exact r_keeps T (hs p hp)⟩) hl]
  have e : gAll [.fro (ss.map fun s => Q.D.bl (kp w s))] (HD h ks w f z MT ST) = some (.bl (ss.all (kp w)), HD h ks w f z MT ST) := by
    rw [show (ss.map fun s => Q.D.bl (kp w s)) = (ss.map (kp w)).map .bl from by rw [List.map_map]; rfl]
    refine bls_fro.trans ?_
    rw [List.all_map]
    rfl
  simp -implicitDefEqProofs only [Res.bind, e, lif, Res.andS, seq_rt, retOf_rt]
  exact trim_same rfl
theorem r_keeps_all {ss : List Sen} (C : Cl h) (hk : ks.length ≤ 1000) (nd : ks.Nodup) (WW : World ks w) (hs : ∀ p ∈ ss, Over ks p) (hl : ss.length ≤ 16777216) : f_keeps_all [ksD ks, wdD w, .tup (ss.map snD)] h = .ok (.bl (ss.all (kp w))) h := by
  obtain ⟨f, z, MT, ST, e, T⟩ := r_init C hk nd WW
  rw [e_keeps_all]
  simp -implicitDefEqProofs only [m_keeps_all, run_sCons, run_sRet, run_eMe, run_eMk, run_aCons, run_aNil, run_eVar0, run_eVarS, Res.bind, List.append_nil, e, mkV_ok]
  rw [meK_of hd0 rfl]
  simp -implicitDefEqProofs only [run_aCons, run_aNil, run_eVar0, run_eVarS, Res.bind, List.append_nil, r_keeps_list T hs hl, Res.andS, seq_rt, retOf_rt]
  exact trim_drop rfl okT_app rfl
theorem r_parts_one : f_parts_of [snD p] h = .ok (.tup [snD p]) h := by
  rw [e_parts_of]
  simp [m_parts_of, trim_same]
theorem r_holds (C : Cl h) (K : Kinds ks) (WW : World ks w) (O : Over ks p) : f_holds [ksD ks, wdD w, snD p] h = .ok (.bl (kp w p)) h := by
  have := K.most
  have q1 : ∀ x : Q.D, f_check_question [ksD ks, snD p, x] h = .ok .non h := fun x => r_check_question (q := .one p) (show OverQ ks (.one p) from O)
  have k1 := r_keeps_all (ss := [p]) C (show ks.length ≤ 1000 by omega) K.nodup WW (fun u hu => by rw [List.mem_singleton.mp hu]; exact O) (show 1 ≤ 16777216 by decide)
  rw [e_holds]
  simp -implicitDefEqProofs [m_holds, r_check_kinds K, r_check_world K WW, q1, r_parts_one]
  rw [show [snD p] = [p].map snD from rfl, k1]
  simp [trim_same]
end P

namespace P
open PySem PySem.Spec PyProof.Rows L2 Q G
variable {h g : AH} {i j k : Int} {b : Bool} {ds : List Q.D} {ks os xs ys : List Str} {N : Nat} {o : O} {s t u : Tm} {p q r : Sen}
variable {l : AH} {x y : Str} {w : List Srt}
/-! ### what holds in a drawn world -/
theorem r_law_says {a b : Bool} : f_n__law_says [.bl a, .bl b] h = .ok (.bl (a == b)) h := by
  rw [e_n__law_says]
  cases a <;> cases b <;> simp [m_n__law_says, trim_same]
theorem over_pls (O : Over ks p) : Over ks (pls p) := by
  unfold pls
  split
  · exact over_mir O
  · exact O
theorem r_law_held (C : Cl h) (K : Kinds ks) (WW : World ks w) (O : Over ks p) : f_n__law_held [ksD ks, wdD w, snD p] h = .ok (.bl true) h := by
  have F := O.free K.kind
  rw [e_n__law_held]
  simp -implicitDefEqProofs [m_n__law_held, r_holds C K WW O, r_holds C K WW (over_cont O), r_holds C K WW (over_mir O), r_holds C K WW (over_pls O), kp_cont O.w, kp_mir O.w, kp_pls O.w, r_contrary F, r_mirror F, r_plain F, r_law_says]
  cases kp w p <;> simp [trim_same]
/-! ### worlds with one thing -/
theorem pds_bls : ∀ bs : List Bool, pds (bs.map .bl) = some (bs.map .bool)
  | [] => rfl
  | k :: ks => by
    show (match pd (.bl k), pds (ks.map .bl) with | some k, some ks => some (k :: ks) | _, _ => none) = _
    rw [pds_bls ks]; rfl
theorem depth_bls : ∀ bs : List Bool, PyData.depthAll (bs.map .bool) = 0
  | [] => by simp [PyData.depthAll]
  | k :: ks => by
    show PyData.depthAll (.bool k :: ks.map .bool) = 0
    rw [PyData.depthAll, depth_bls ks]; simp [PyData.depth]
theorem any_bls {b : Bool} (bs : List Bool) : (bs.map PyData.bool).any (fun z => PyData.eqv z (.bool b)) = decide (b ∈ bs) := by
  induction bs with
  | nil => rfl
  | cons k ks ih =>
    rw [List.map_cons, List.any_cons, ih]
    simp only [PyData.eqv, List.mem_cons, Bool.decide_or]
    rw [beq_dec, show decide (k = b) = decide (b = k) from by rw [Bool.eq_iff_iff]; simp [eq_comm]]
theorem in_bls {b : Bool} {bs : List Bool} : dIn false (.bl b) (.fro (bs.map .bl)) h = some (.bl (decide (b ∈ bs)), h) := by
  show dInS false (.bl b) (.fro (bs.map .bl)) h = _
  unfold dInS
  rw [show pd (.bl b) = some (.bool b) from rfl, show pdH h (.fro (bs.map .bl)) = some (.list (bs.map .bool)) from by
    show (pds (bs.map .bl)).map PyData.list = _
    rw [pds_bls]; rfl]
  dsimp only
  rw [depth_bls, if_pos (by omega), any_bls, Bool.false_bne]
theorem sort_fro (hl : ks.length ≤ 16777216) : gSortF [.fro (ks.map .str)] h = some (.fro ((ks.mergeSort leS).map .str), h) := by
  unfold gSortF lsq
  dsimp only
  rw [if_pos (sortable_strs hl)]
  rw [← List.map_mergeSort (r := leS) (s := leD) (f := Q.D.str) (fun a _ b _ => leD_str.symm)]
def onesL (ks : List Str) : List (List Srt) := [[([], 1)], [(ks.take 1, 1)]] ++ if ks.length = 2 then [[(ks.drop 1, 1)], [(ks, 1)]] else []
theorem r_law_ones : f_n__law_ones [ksD ks] h = .ok (.fro ((onesL ks).map wdD)) h := by
  have c1 : dSl (ksD ks) none (some 1) h = some (ksD (ks.take 1), h) := by
    show some (Q.D.tup (Q.cutD (ks.map .str) none (some 1)), h) = _
    rw [cutD_to (by decide), ← List.map_take]; rfl
  have c2 : dSl (ksD ks) (some 1) none h = some (ksD (ks.drop 1), h) := by
    show some (Q.D.tup (Q.cutD (ks.map .str) (some 1) none), h) = _
    rw [cutD_from (by decide), ← List.map_drop]; rfl
  rw [e_n__law_ones]
  unfold onesL
  by_cases e : ks.length = 2
  · have e2 : (ks.length : Int) = 2 := by omega
    simp -implicitDefEqProofs [m_n__law_ones, c1, c2, ln_ks, e, e2, trim_same, plus_fro]
    exact ⟨rfl, rfl, rfl, rfl⟩
  · have e2 : ¬ (ks.length : Int) = 2 := by omega
    simp -implicitDefEqProofs [m_n__law_ones, c1, c2, ln_ks, e, e2, trim_same]
    exact ⟨rfl, rfl⟩
theorem world_one (hs : ∀ z ∈ xs, z ∈ ks) (ha : Asc xs) : World ks [(xs, 1)] where
  pos := by simp
  most := by simp
  sub := fun p hp => by rw [List.mem_singleton.mp hp]; exact hs
  asc := fun p hp => by rw [List.mem_singleton.mp hp]; exact ha
  num := fun p hp => by rw [List.mem_singleton.mp hp]; exact ⟨show (1 : Int) ≤ 1 by decide, show (1 : Int) ≤ 1152921504606846976 by decide⟩
  srt := List.pairwise_singleton _ _
theorem ones_world (ha : Asc ks) {w : List Srt} (hw : w ∈ onesL ks) : ∃ s : List Str, w = [(s, 1)] ∧ World ks w := by
  have h0 : World ks [([], 1)] := world_one (fun _ m => nomatch m) List.Pairwise.nil
  have h1 : World ks [(ks.take 1, 1)] := world_one (fun z hz => List.mem_of_mem_take hz) (ha.sublist (List.take_sublist _ _))
  have h2 : World ks [(ks.drop 1, 1)] := world_one (fun z hz => List.mem_of_mem_drop hz) (ha.sublist (List.drop_sublist _ _))
  have h3 : World ks [(ks, 1)] := world_one (fun z hz => hz) ha
  unfold onesL at hw
  rcases List.mem_append.mp hw with m | m
  · simp only [List.mem_cons, List.not_mem_nil, or_false] at m
    rcases m with rfl | rfl
    · exact ⟨_, rfl, h0⟩
    · exact ⟨_, rfl, h1⟩
  · split at m
    · simp only [List.mem_cons, List.not_mem_nil, or_false] at m
      rcases m with rfl | rfl
      · exact ⟨_, rfl, h2⟩
      · exact ⟨_, rfl, h3⟩
    · cases m
/-- what a sentence says of one thing -/
def one (w : Str) (a b : Bool) : Bool := if w = "all" then !(a && !b) else if w = "some" then a && b else if w = "more" then a && !b else a || !b
theorem kp_one {s : List Str} : kp [(s, 1)] p = one p.w (hasT (s, 1) p.a) (hasT (s, 1) p.b) := by
  unfold kp one meetB cntT
  simp only [List.any_cons, List.any_nil, Bool.or_false, hasT_flp, List.map_cons, List.map_nil, List.sum_cons, List.sum_nil]
  cases hasT (s, 1) p.a <;> cases hasT (s, 1) p.b <;> simp
theorem kp_alw (ha : alw p = true) : kp w p = true := by
  obtain ⟨v, a, b⟩ := p
  unfold alw at ha
  simp only [Bool.and_eq_true, Bool.or_eq_true, decide_eq_true_eq] at ha
  obtain ⟨rfl, rfl | rfl⟩ := ha
  · unfold kp meetB
    simp [hasT_flp]
  · simp [kp]
theorem kp_never (hw : p.w ∈ WD) (ha : alw (cont p) = true) : kp w p = false := by
  have := kp_alw (w := w) ha
  rw [kp_cont hw] at this
  simpa using this
end P

namespace P
open PySem PySem.Spec PyProof.Rows L2 Q G
variable {h g : AH} {i j k : Int} {b : Bool} {ds : List Q.D} {ks os xs ys : List Str} {N : Nat} {o : O} {s t u : Tm} {p q r : Sen}
variable {l : AH} {x y : Str} {w : List Srt}
/-! ### a sentence by the worlds with one thing -/
theorem ne_ao : (("always" : Str) = "open") = False := eq_false (by decide)
theorem ne_no : (("never" : Str) = "open") = False := eq_false (by decide)
theorem ne_na : (("never" : Str) = "always") = False := eq_false (by decide)
theorem open_1 {u : Str} (ha : p.a.1 = u) (hb : p.b.1 = u) (hw : p.w ∈ WD) (ho : its p = "open") : true ∈ (onesL [u]).map (fun w => kp w p) ∧ false ∈ (onesL [u]).map (fun w => kp w p) := by
  obtain ⟨v, ⟨a1, a2⟩, ⟨b1, b2⟩⟩ := p
  dsimp only at ha hb
  subst ha hb
  have e : (onesL [b1]).map (fun w => kp w ⟨v, (b1, a2), (b1, b2)⟩) = [one v (false == a2) (false == b2), one v (true == a2) (true == b2)] := by
    simp [onesL, kp_one, hasT]
  rw [e]
  rcases word_cases hw with hw | hw | hw | hw
  all_goals
    dsimp only at hw
    subst hw
  · rw [its_all] at ho
    cases a2 <;> cases b2 <;> simp [one, flp, ne_ao, ne_no] at ho ⊢
  · rw [its_many] at ho
    cases a2 <;> cases b2 <;> simp [one, flp, ne_ao, ne_no] at ho ⊢
  · rw [its_more] at ho
    cases a2 <;> cases b2 <;> simp [one, flp, ne_ao, ne_no] at ho ⊢
  · rw [its_some] at ho
    cases a2 <;> cases b2 <;> simp [one, flp, ne_ao, ne_no] at ho ⊢
theorem open_2 {u v : Str} (huv : u ≠ v) (ha : (p.a.1 = u ∧ p.b.1 = v) ∨ (p.a.1 = v ∧ p.b.1 = u)) (hw : p.w ∈ WD) : true ∈ (onesL [u, v]).map (fun w => kp w p) ∧ false ∈ (onesL [u, v]).map (fun w => kp w p) := by
  obtain ⟨c, ⟨a1, a2⟩, ⟨b1, b2⟩⟩ := p
  dsimp only at ha
  have huv2 : ¬ v = u := fun z => huv z.symm
  have e : (onesL [u, v]).map (fun w => kp w ⟨c, (a1, a2), (b1, b2)⟩) = [one c (decide (a1 ∈ ([] : List Str)) == a2) (decide (b1 ∈ ([] : List Str)) == b2), one c (decide (a1 ∈ [u]) == a2) (decide (b1 ∈ [u]) == b2), one c (decide (a1 ∈ [v]) == a2) (decide (b1 ∈ [v]) == b2), one c (decide (a1 ∈ [u, v]) == a2) (decide (b1 ∈ [u, v]) == b2)] := by
    simp [onesL, kp_one, hasT]
  rw [e]
  rcases ha with ⟨rfl, rfl⟩ | ⟨rfl, rfl⟩
  · rcases word_cases hw with hw | hw | hw | hw
    all_goals
      dsimp only at hw
      subst hw
      cases a2 <;> cases b2 <;> simp [one, huv, huv2]
  · rcases word_cases hw with hw | hw | hw | hw
    all_goals
      dsimp only at hw
      subst hw
      cases a2 <;> cases b2 <;> simp [one, huv, huv2]
theorem sort_two (x y : Str) : ∃ u v, [x, y].mergeSort leS = [u, v] ∧ ((x = u ∧ y = v) ∨ (x = v ∧ y = u)) := by
  have hp := List.mergeSort_perm [x, y] leS
  have hl := hp.length_eq
  match hm : [x, y].mergeSort leS, hl with
  | [u, v], _ =>
    rw [hm] at hp
    refine ⟨u, v, rfl, ?_⟩
    have hx : u ∈ [x, y] := hp.subset (by simp)
    rcases List.mem_cons.mp hx with e | e
    · subst e
      have := (List.perm_cons u).mp hp
      have := List.singleton_perm_singleton.mp this
      exact .inl ⟨rfl, this.symm⟩
    · have e := List.mem_singleton.mp e
      subst e
      have := (List.perm_cons u).mp (hp.trans (List.Perm.swap u x []))
      have := List.singleton_perm_singleton.mp this
      exact .inr ⟨this.symm, rfl⟩
/-- the kinds of a sentence, ascending -/
theorem kinds_of (F : Free p) : ∃ kk u v, [p.a.1, p.b.1].mergeSort leS = [u, v] ∧ kk = (if u = v then [u] else [u, v]) ∧ Kinds kk ∧ Over kk p ∧ (its p = "open" → true ∈ (onesL kk).map (fun w => kp w p) ∧ false ∈ (onesL kk).map (fun w => kp w p)) := by
  obtain ⟨u, v, e, hc⟩ := sort_two p.a.1 p.b.1
  have K1 : Kind u := by
    rcases hc with ⟨h1, h2⟩ | ⟨h1, h2⟩
    · rw [← h1]; exact F.a
    · rw [← h2]; exact F.b
  have K2 : Kind v := by
    rcases hc with ⟨h1, h2⟩ | ⟨h1, h2⟩
    · rw [← h2]; exact F.b
    · rw [← h1]; exact F.a
  by_cases huv : u = v
  · subst huv
    refine ⟨[u], u, u, e, by rw [if_pos rfl], ⟨fun k hk => by rw [List.mem_singleton.mp hk]; exact K1, List.pairwise_singleton _ _, by simp, by simp⟩, ?_, ?_⟩
    · rcases hc with ⟨h1, h2⟩ | ⟨h1, h2⟩ <;> exact ⟨F.w, by rw [h1]; exact List.mem_singleton_self _, by rw [h2]; exact List.mem_singleton_self _⟩
    · rcases hc with ⟨h1, h2⟩ | ⟨h1, h2⟩ <;> exact open_1 h1 h2 F.w
  · refine ⟨[u, v], u, v, e, by rw [if_neg huv], ⟨fun k hk => ?_, ?_, by simp, by simp⟩, ?_, fun _ => open_2 huv hc F.w⟩
    · simp only [List.mem_cons, List.not_mem_nil, or_false] at hk
      rcases hk with rfl | rfl
      · exact K1
      · exact K2
    · have nd : [p.a.1, p.b.1].Nodup := by
        rcases hc with ⟨h1, h2⟩ | ⟨h1, h2⟩
        · rw [h1, h2]; simp [huv]
        · rw [h1, h2]; simp [Ne.symm huv]
      have := asc_sort nd
      rw [e] at this
      exact this
    · rcases hc with ⟨h1, h2⟩ | ⟨h1, h2⟩
      · exact ⟨F.w, by rw [h1]; simp, by rw [h2]; simp⟩
      · exact ⟨F.w, by rw [h1]; simp, by rw [h2]; simp⟩
theorem its_cases : its p = "always" ∧ alw p = true ∨ its p = "never" ∧ alw (cont p) = true ∨ its p = "open" := by
  unfold its
  by_cases h1 : alw p = true
  · exact .inl ⟨by rw [if_pos h1], h1⟩
  · rw [if_neg h1]
    by_cases h2 : alw (cont p) = true
    · exact .inr (.inl ⟨by rw [if_pos h2], h2⟩)
    · exact .inr (.inr (by rw [if_neg h2]))
theorem r_law_by_one (C : Cl h) (F : Free p) : f_n__law_by_one [snD p] h = .ok (.bl true) h := by
  obtain ⟨kk, u, v, es, ek, K, O, ho⟩ := kinds_of F
  have s1 : gSortF [.fro [.str p.a.1, .str p.b.1]] h = some (.fro [.str u, .str v], h) := by
    have := sort_fro (h := h) (ks := [p.a.1, p.b.1]) (by simp)
    rw [es] at this
    exact this
  have sl : dSl (.fro [.str u, .str v]) none (some 1) h = some (.fro [.str u], h) := by
    show some (Q.D.fro (Q.cutD ([u, v].map .str) none (some 1)), h) = _
    rw [cutD_to (by decide)]
    rfl
  have hol : lcL (fun _ => True) (gSlot 5) tYesM (eFn f_holds [] (aCons (eVar 2) (aCons (eVar 5) (aCons (eVar 0) aNil)))) [some (snD p), some (.fro [.str u, .str v]), some (ksD kk), none, none, none, none] ((onesL kk).map wdD) [] h = .ok ((onesL kk).map fun w => .bl (kp w p)) h := by
    refine lc_enc wdD (fun w => Q.D.bl (kp w p)) trivial (onesL kk) (fun w hw => ⟨_, rfl, ?_⟩) ?_
    · obtain ⟨s, _, WW⟩ := ones_world K.asc hw
      simp -implicitDefEqProofs only [run_eFn, run_aCons, run_aNil, run_eVar0, run_eVarS, Res.bind, List.append_nil, List.set, r_holds C K WW O]
    · unfold onesL
      split <;> simp
  have hall : lcL (fun _ => True) (gSlot 6) tYesM (eOr (eOp dIs (eVar 6) (eC (.bl true))) (eOp dIs (eVar 6) (eC (.bl false)))) [some (snD p), some (.fro [.str u, .str v]), some (ksD kk), some (.fro ((onesL kk).map fun w => .bl (kp w p))), none, none, none] ((onesL kk).map fun w => .bl (kp w p)) [] h = .ok (List.replicate (onesL kk).length (.bl true)) h := by
    rw [lc_all trivial _ (fun d hd => by
      obtain ⟨w, hw, rfl⟩ := List.mem_map.mp hd
      exact ⟨_, rfl, by cases kp w p <;> simp⟩) (by unfold onesL; split <;> simp), List.length_map]
  have eb : ((onesL kk).map fun w => Q.D.bl (kp w p)) = ((onesL kk).map fun w => kp w p).map .bl := by rw [List.map_map]; rfl
  have hk2 : (if u = v then (Res.ok (Q.D.tup [.str u]) h : Res Q.D) else .ok (.tup [.str u, .str v]) h) = .ok (ksD kk) h := by
    rw [ek]
    by_cases huv : u = v
    · rw [if_pos huv, if_pos huv]; rfl
    · rw [if_neg huv, if_neg huv]; rfl
  have hlast : ∀ c : Bool, (∀ w ∈ onesL kk, kp w p = c) → lcL (fun _ => True) (gSlot 6) tYesM (eOp dEq (eVar 6) (eOp dEq (eVar 4) (eC (.str "always")))) [some (snD p), some (.fro [.str u, .str v]), some (ksD kk), some (.fro ((onesL kk).map fun w => .bl (kp w p))), some (.str (if c = true then "always" else "never")), none, none] ((onesL kk).map fun w => .bl (kp w p)) [] h = .ok (List.replicate (onesL kk).length (.bl true)) h := fun c hc => by
    rw [lc_all trivial _ (fun d hd => by
      obtain ⟨w, hw, rfl⟩ := List.mem_map.mp hd
      refine ⟨_, rfl, ?_⟩
      rw [hc w hw]
      cases c <;> simp [ne_na]) (by unfold onesL; split <;> simp), List.length_map]
  rw [e_n__law_by_one]
  simp -implicitDefEqProofs [m_n__law_by_one, s1, sl]
  rw [hk2]
  simp -implicitDefEqProofs only [Res.andS, seq_nx, run_sCons, run_sNil, run_sAsg, run_eLc, run_iSeq, run_eFn, run_aCons, run_aNil, run_eVar0, run_eVarS, Res.bind, List.append_nil, r_law_ones, seqK_fro, wipeA, List.set, hol, stO, run_gSlot, run_sIf, run_tNot, run_mB, run_eCall, hall, all_true, lif, asB, Bool.not_true, if_false, Bool.false_eq_true, r_by_itself F, run_eOp, run_eC, Q.eq_str]
  rcases its_cases (p := p) with ⟨e1, e2⟩ | ⟨e1, e2⟩ | e1
  · have := hlast true (fun w _ => kp_alw e2)
    rw [if_pos rfl] at this
    simp -implicitDefEqProofs only [e1, ne_ao, decide_false, Bool.false_eq_true, if_false, seq_nx, run_sCons, run_sRet, run_eCall, run_aCons, run_aNil, run_eLc, run_iSeq, run_eVar0, run_eVarS, Res.bind, seqK_fro, wipeA, List.set, this, all_true, lif, Res.andS, seq_rt, retOf_rt]
    exact trim_same rfl
  · have := hlast false (fun w _ => kp_never F.w e2)
    rw [if_neg Bool.false_ne_true] at this
    simp -implicitDefEqProofs only [e1, ne_no, decide_false, Bool.false_eq_true, if_false, seq_nx, run_sCons, run_sRet, run_eCall, run_aCons, run_aNil, run_eLc, run_iSeq, run_eVar0, run_eVarS, Res.bind, seqK_fro, wipeA, List.set, this, all_true, lif, Res.andS, seq_rt, retOf_rt]
    exact trim_same rfl
  · obtain ⟨o1, o2⟩ := ho e1
    rw [eb]
    have d1 := decide_eq_true o1
    have d2 := decide_eq_true o2
    simp -implicitDefEqProofs only [e1, decide_true, if_true, run_sCons, run_sRet, run_eAnd, run_eOp, run_eC, run_eVar0, run_eVarS, Res.bind, in_bls, d1, d2, dif_bl, lif, Res.andS, seq_rt, retOf_rt]
    exact trim_same rfl
end P

namespace P
open PySem PySem.Spec PyProof.Rows L2 Q G
variable {h g : AH} {i j k : Int} {b : Bool} {ds : List Q.D} {ks os xs ys : List Str} {N : Nat} {o : O} {s t u : Tm} {p q r : Sen}
variable {l : AH} {x y : Str} {w : List Srt}
/-! ### sorted sorts -/
section
variable {α : Type} {lt : α → α → Bool}
theorem not_trans (tr : ∀ a b c, lt a b = true → lt b c = true → lt a c = true) (tri : ∀ a b, lt a b = false → lt b a = false → a = b) (a b c : α) (h1 : (!lt b a) = true) (h2 : (!lt c b) = true) : (!lt c a) = true := by
  cases e : lt c a with
  | false => rfl
  | true =>
    cases e2 : lt b a with
    | true => rw [e2] at h1; cases h1
    | false =>
      cases e3 : lt c b with
      | true => rw [e3] at h2; cases h2
      | false =>
        cases e4 : lt a b with
        | true => rw [tr c a b e e4] at e3; cases e3
        | false =>
          have := tri a b e4 e2
          subst this
          rw [e] at e3; cases e3
theorem not_total (as : ∀ a b, lt a b = true → lt b a = false) (a b : α) : ((!lt b a) || (!lt a b)) = true := by
  cases e : lt b a with
  | false => rfl
  | true => rw [as b a e]; rfl
end
def soLt (p q : Srt) : Bool := if p.1 = q.1 then decide (p.2 < q.2) else ksLt p.1 q.1
theorem soLt_asymm {p q : Srt} (h1 : soLt p q = true) : soLt q p = false := by
  unfold soLt at *
  by_cases e : p.1 = q.1
  · rw [if_pos e] at h1
    rw [if_pos e.symm]
    have := of_decide_eq_true h1
    exact decide_eq_false (by omega)
  · rw [if_neg e] at h1
    rw [if_neg (Ne.symm e)]
    exact ksLt_asymm h1
theorem soLt_tri {p q : Srt} (h1 : soLt p q = false) (h2 : soLt q p = false) : p = q := by
  obtain ⟨p1, p2⟩ := p
  obtain ⟨q1, q2⟩ := q
  unfold soLt at *
  dsimp only at *
  by_cases e : p1 = q1
  · subst e
    rw [if_pos rfl] at h1 h2
    have := of_decide_eq_false h1
    have := of_decide_eq_false h2
    rw [show p2 = q2 by omega]
  · rw [if_neg e] at h1
    rw [if_neg (Ne.symm e)] at h2
    exact (e (ksLt_tri h1 h2)).elim
theorem soLt_trans {p q r : Srt} (h1 : soLt p q = true) (h2 : soLt q r = true) : soLt p r = true := by
  obtain ⟨p1, p2⟩ := p
  obtain ⟨q1, q2⟩ := q
  obtain ⟨r1, r2⟩ := r
  unfold soLt at *
  dsimp only at *
  by_cases e : p1 = q1
  · subst e
    rw [if_pos rfl] at h1
    by_cases e2 : p1 = r1
    · rw [if_pos e2] at h2 ⊢
      have := of_decide_eq_true h1
      have := of_decide_eq_true h2
      exact decide_eq_true (by omega)
    · rw [if_neg e2] at h2 ⊢
      exact h2
  · rw [if_neg e] at h1
    by_cases e2 : q1 = r1
    · subst e2
      rw [if_neg e]
      exact h1
    · rw [if_neg e2] at h2
      have h3 := ksLt_trans h1 h2
      rw [if_neg (fun z => by rw [z, ksLt_irr] at h3; cases h3)]
      exact h3
def leW (p q : Srt) : Bool := !soLt q p
def soP (p : Srt) : PyData := .tuple [ksP p.1, .int p.2]
theorem pd_so {p : Srt} : pd (soD p) = some (soP p) := by
  show (match pd (ksD p.1), pds [.int p.2] with | some k, some ks => some (k :: ks) | _, _ => none).map PyData.tuple = _
  rw [pd_ks]; rfl
theorem data_so {p q : Srt} : PySem.W.dataLt (soP p) (soP q) = soLt p q := by
  unfold soP
  rw [PySem.W.dataLt_pair alike_ks (by simp [PySem.W.alike]), eqv_ks, data_ks, PySem.W.dataLt_int]
  simp only [PyData.eqv, beq_iff_eq, decide_eq_true_eq]
  unfold soLt
  by_cases e : p.1 = q.1
  · rw [if_pos e, if_pos e]
    by_cases e2 : p.2 = q.2
    · rw [if_pos e2, e2]; simp
    · rw [if_neg e2]
  · rw [if_neg e, if_neg e]
theorem alike_so {p q : Srt} : PySem.W.alike (soP p) (soP q) = true := by
  unfold soP
  simp [PySem.W.alike, PySem.W.alikeAll, alike_ks]
theorem pdG_so {p : Srt} : pdG (soD p) = soP p := by unfold pdG; rw [pd_so]; rfl
theorem sortable_so (hl : w.length ≤ 16777216) : sortable (w.map soD) = true := by
  unfold sortable
  simp only [Bool.and_eq_true, Bool.or_eq_true, List.all_eq_true, decide_eq_true_eq, List.length_map]
  refine ⟨⟨⟨⟨fun d hd => ?_, ?_⟩, .inl fun d hd => ?_⟩, hl⟩, fun d hd => ?_⟩
  · obtain ⟨s, _, rfl⟩ := List.mem_map.mp hd
    rw [pd_so]; rfl
  · unfold alikeB
    rw [List.all_eq_true]
    intro p hp
    rw [List.all_eq_true]
    intro q hq
    rw [List.map_map] at hp hq
    obtain ⟨s, _, rfl⟩ := List.mem_map.mp hp
    obtain ⟨t, _, rfl⟩ := List.mem_map.mp hq
    show PySem.W.alike (pdG (soD s)) (pdG (soD t)) = true
    rw [pdG_so, pdG_so]
    exact alike_so
  · rw [List.map_map] at hd
    obtain ⟨s, _, rfl⟩ := List.mem_map.mp hd
    show isTup1 (pdG (soD s)) = true
    rw [pdG_so]; rfl
  · obtain ⟨s, _, rfl⟩ := List.mem_map.mp hd
    rw [pdG_so]
    simp [soP, PyData.depth, PyData.depthAll, dep_ks]
theorem leD_so {p q : Srt} : leD (soD p) (soD q) = leW p q := by
  unfold leD leW
  rw [pdG_so, pdG_so, data_so]
theorem sort_so (hl : w.length ≤ 16777216) : gSortF [.fro (w.map soD)] h = some (.fro ((w.mergeSort leW).map soD), h) := by
  unfold gSortF lsq
  dsimp only
  rw [if_pos (sortable_so hl)]
  rw [← List.map_mergeSort (r := leW) (s := leD) (f := soD) (fun a _ b _ => leD_so.symm)]
theorem sorted_so (nd : (w.map (·.1)).Nodup) : (w.mergeSort leW).Pairwise fun p q => ksLt p.1 q.1 = true := by
  have hp := List.pairwise_mergeSort (le := leW) (fun a b c => not_trans (lt := soLt) (fun _ _ _ => soLt_trans) (fun _ _ => soLt_tri) a b c) (fun a b => not_total (lt := soLt) (fun _ _ => soLt_asymm) a b) w
  have nd2 : ((w.mergeSort leW).map (·.1)).Nodup := ((List.mergeSort_perm w leW).map _).nodup_iff.mpr nd
  have nd3 : (w.mergeSort leW).Pairwise fun p q => p.1 ≠ q.1 := List.pairwise_map.mp nd2
  refine (hp.and nd3).imp fun {a b} ⟨h1, h2⟩ => ?_
  unfold leW soLt at h1
  rw [if_neg (Ne.symm h2)] at h1
  cases e : ksLt a.1 b.1 with
  | true => rfl
  | false =>
    cases e2 : ksLt b.1 a.1 with
    | true => rw [e2] at h1; cases h1
    | false => exact (h2 (ksLt_tri e e2)).elim
/-! ### a table of sorts -/
def ksK (xs : List Str) : NestedKey := .tup (xs.map .text)
theorem nks_strs : ∀ xs : List Str, nks (xs.map .str) = some (xs.map .text)
  | [] => rfl
  | x :: xs => by
    show (match nk (.str x), nks (xs.map .str) with | some k, some ks => some (k :: ks) | _, _ => none) = _
    rw [nks_strs xs]; rfl
theorem nk_ks : nk (ksD xs) = some (ksK xs) := by
  show (nks (xs.map .str)).map NestedKey.tup = _
  rw [nks_strs]; rfl
theorem ksK_inj (e : ksK xs = ksK ys) : xs = ys := by
  unfold ksK at e
  injection e with e
  exact List.map_inj_right (fun _ _ z => by injection z) |>.mp e
theorem dep_texts : ∀ xs : List Str, NestedKey.depthAll (xs.map .text) = 0
  | [] => by simp [NestedKey.depthAll]
  | x :: xs => by
    rw [List.map_cons, NestedKey.depthAll, dep_texts xs]
    simp [NestedKey.depth]
theorem tkey_ks : tkey (ksD xs) = some (ksK xs) := by
  have h1 := nk_ks (xs := xs)
  unfold ksD at h1 ⊢
  unfold tkey
  dsimp only
  rw [h1]
  dsimp only
  rw [if_pos (by rw [ksK, NestedKey.depth, dep_texts]; omega)]
def dtW (w : List Srt) : List (Q.D × Q.D) := w.map fun p => (ksD p.1, .int p.2)
def putW (w : List Srt) (xs : List Str) (v : Int) : List Srt := if xs ∈ w.map (·.1) then w.map (fun p => if p.1 = xs then (p.1, v) else p) else w ++ [(xs, v)]
theorem dtW_get : (dtGet (dtW w) (ksK xs)).isSome = decide (xs ∈ w.map (·.1)) := by
  induction w with
  | nil => rfl
  | cons p w ih =>
    show (dtGet ((ksD p.1, .int p.2) :: dtW w) _).isSome = _
    rw [dtGet_cons, nk_ks]
    by_cases e : p.1 = xs
    · rw [if_pos (by rw [e])]; simp [e]
    · rw [if_neg (fun z => e (ksK_inj (Option.some.inj z))), ih, Bool.eq_iff_iff]
      simp [Ne.symm e]
theorem dtW_put {v : Int} : dtPut (dtW w) (ksD xs) (ksK xs) (.int v) = dtW (putW w xs v) := by
  unfold dtPut putW
  rw [dtW_get]
  by_cases e : xs ∈ w.map (·.1)
  · rw [if_pos (decide_eq_true e), if_pos e]
    unfold dtW
    rw [List.map_map, List.map_map]
    refine List.map_congr_left fun p _ => ?_
    simp only [Function.comp, nk_ks, Option.some.injEq]
    by_cases e2 : p.1 = xs
    · rw [if_pos e2, if_pos (by rw [e2])]
    · rw [if_neg e2, if_neg (fun z => e2 (ksK_inj z))]
  · rw [if_neg (by simpa using e), if_neg e]
    simp [dtW]
structure Wi (ks : List Str) (w : List Srt) : Prop where
  nd : (w.map (·.1)).Nodup
  sub : ∀ p ∈ w, p.1.Sublist ks
  num : ∀ p ∈ w, 1 ≤ p.2 ∧ p.2 ≤ 1152921504606846976
theorem Wi.put {v : Int} (W : Wi ks w) (hx : xs.Sublist ks) (hv : 1 ≤ v ∧ v ≤ 1152921504606846976) : Wi ks (putW w xs v) := by
  unfold putW
  split
  · refine ⟨?_, fun p hp => ?_, fun p hp => ?_⟩
    · rw [List.map_map]
      have : ((fun p : Srt => p.1) ∘ fun p : Srt => if p.1 = xs then (p.1, v) else p) = fun p => p.1 := funext fun p => by
        show (if p.1 = xs then (p.1, v) else p).1 = p.1
        split <;> rfl
      rw [this]
      exact W.nd
    · obtain ⟨q, hq, rfl⟩ := List.mem_map.mp hp
      split
      · exact W.sub q hq
      · exact W.sub q hq
    · obtain ⟨q, hq, rfl⟩ := List.mem_map.mp hp
      split
      · exact hv
      · exact W.num q hq
  · rename_i hn
    refine ⟨?_, fun p hp => ?_, fun p hp => ?_⟩
    · rw [List.map_append, List.nodup_append]
      refine ⟨W.nd, by simp, fun a ha b hb => ?_⟩
      simp only [List.map_cons, List.map_nil, List.mem_singleton] at hb
      rw [hb]
      exact fun z => hn (z ▸ ha)
    · rcases List.mem_append.mp hp with m | m
      · exact W.sub p m
      · rw [List.mem_singleton.mp m]; exact hx
    · rcases List.mem_append.mp hp with m | m
      · exact W.num p m
      · rw [List.mem_singleton.mp m]; exact hv
theorem putW_len {v : Int} : (putW w xs v).length ≤ w.length + 1 := by
  unfold putW
  split <;> simp
theorem putW_ne {v : Int} : putW w xs v ≠ [] := by
  unfold putW
  split
  · rename_i hm
    intro z
    have := List.map_eq_nil_iff.mp z
    rw [this] at hm
    cases hm
  · simp
end P

namespace P
open PySem PySem.Spec PyProof.Rows L2 Q G
variable {h g : AH} {i j k : Int} {b : Bool} {ds : List Q.D} {ks os xs ys : List Str} {N : Nat} {o : O} {s t u : Tm} {p q r : Sen}
variable {l : AH} {x y : Str} {w : List Srt}
/-! ### worlds drawn -/
/-- a comprehension with a drawing test -/
theorem lc_sub {GG : AH → Prop} {gg : MG} {tt : MB} {m : M} {σ : AS} {J : Nat → AH → Prop} (hG : ∀ n h, J n h → GG h) : ∀ (xs acc : List Str) (h : AH), J xs.length h → (∀ x ∈ xs, ∀ n h, J (n + 1) h → ∃ σ1 k h2, gg (.str x) σ h = some (σ1, h) ∧ tt σ1 h = .ok k h2 ∧ J n h2 ∧ m σ1 h2 = .ok (.str x) h2) → acc.length + xs.length ≤ 16777216 →
    ∃ ys h', lcL GG gg tt m σ (xs.map .str) (acc.map .str) h = .ok ((acc ++ ys).map .str) h' ∧ J 0 h' ∧ ys.Sublist xs
  | [], acc, h, jh, _, _ => ⟨[], h, by rw [List.map_nil, lcL, if_pos (hG _ _ jh), List.append_nil], jh, .slnil⟩
  | x :: xs, acc, h, jh, hd, hl => by
    rw [List.length_cons] at jh hl
    obtain ⟨σ1, k, h2, a, c, j2, e⟩ := hd x List.mem_cons_self _ h jh
    rw [List.map_cons, lcL, if_pos (hG _ _ jh), a]
    dsimp only
    rw [c]
    cases k with
    | true =>
      dsimp only
      rw [e]
      dsimp only
      rw [if_pos (by rw [List.length_map]; omega)]
      obtain ⟨ys, h', e', j', sb⟩ := lc_sub hG xs (acc ++ [x]) h2 j2 (fun y hy => hd y (List.mem_cons_of_mem _ hy)) (by simp; omega)
      refine ⟨x :: ys, h', ?_, j', sb.cons₂ x⟩
      rw [show acc.map Q.D.str ++ [.str x] = (acc ++ [x]).map .str by simp, e']
      simp
    | false =>
      dsimp only
      obtain ⟨ys, h', e', j', sb⟩ := lc_sub hG xs acc h2 j2 (fun y hy => hd y (List.mem_cons_of_mem _ hy)) (by omega)
      exact ⟨ys, h', e', j', sb.cons x⟩
theorem clo_so {n : Nat} {p : Srt} : closed n (soD p) = true := by
  show closeds n [ksD p.1, .int p.2] = true
  rw [closeds, clo_ks]
  rfl
theorem clo_sos {n : Nat} : ∀ w : List Srt, closeds n (w.map soD) = true
  | [] => rfl
  | p :: w => by rw [List.map_cons, closeds, clo_so, clo_sos w]; rfl
theorem clo_wd {n : Nat} : closed n (wdD w) = true := by
  rw [wdD, closed]; exact clo_sos w
theorem ksD_fold : Q.D.tup (xs.map .str) = ksD xs := rfl
theorem set_dtW {n : Nat} {v : Int} (e : h[n]? = some (.dt (dtW w))) (hl : w.length < 16777216) : dSet (.ref n) (ksD xs) (.int v) h = some (h.set n (.dt (dtW (putW w xs v)))) := by
  unfold dSet
  dsimp only
  rw [e]
  dsimp only
  rw [tkey_ks]
  dsimp only
  rw [if_pos (by simpa [dtW] using hl), dtW_put]
theorem set_dtW' {v : Int} {o' : O} (hl : w.length < 16777216) : dSet (.ref (g.length + 1)) (ksD xs) (.int v) (o' :: (g ++ [.dt (dtW w)])) = some (o' :: (g ++ [.dt (dtW (putW w xs v))])) := by
  have := set_dtW (h := o' :: (g ++ [.dt (dtW w)])) (n := g.length + 1) (w := w) (xs := xs) (v := v) (by simp) hl
  rw [this, List.set_cons_succ, last_set]
theorem Wi.world (W : Wi ks w) (ha : Asc ks) (h0 : w ≠ []) (hl : w.length ≤ 4000) : World ks (w.mergeSort leW) := by
  have pm := List.mergeSort_perm w leW
  refine ⟨?_, by rw [pm.length_eq]; exact hl, fun p hp => (W.sub p (pm.mem_iff.mp hp)).subset, fun p hp => ha.sublist (W.sub p (pm.mem_iff.mp hp)), fun p hp => W.num p (pm.mem_iff.mp hp), sorted_so W.nd⟩
  rw [pm.length_eq]
  exact List.length_pos_iff.mpr h0
abbrev σwd (ks : List Str) (most : Q.D) (share : Int) (tu : Bool) (top : Int) (n : Nat) (x7 x8 : Option Q.D) : AS := [some (.ref 0), some (ksD ks), some most, some (.int share), some (.bl tu), some (.int top), some (.ref n), x7, x8, none]
theorem world_turn (hk : ks.length ≤ 30) (W : Wi ks w) (hw : w.length ≤ 4000) {most : Q.D} {share top : Int} {tu : Bool} {x7 x8 : Option Q.D} (hs : 1 ≤ share ∧ share ≤ 5) (ht : 1 ≤ top ∧ top ≤ 9) (O : Ok (N + 40) o) :
    ∃ o' xs v, b_n__law_world_1 (σwd ks most share tu top (g.length + 1) x7 x8) (o :: (g ++ [.dt (dtW w)])) = .nx (σwd ks most share tu top (g.length + 1) x7 (some (ksD xs))) (o' :: (g ++ [.dt (dtW (putW w xs v))])) ∧ xs.Sublist ks ∧ (1 ≤ v ∧ v ≤ 9) ∧ Ok N o' := by
  obtain ⟨ys, h', e, ⟨o1, rfl, O1⟩, sb⟩ := lc_sub (GG := fun _ => True) (gg := gSlot 9) (tt := mB (eOp dNe (eOp dEq (eFn f_n__law_next [] (aCons (eVar 0) (aCons (eVar 3) aNil))) (eC (.int 0))) (eVar 4))) (m := eVar 9) (σ := σwd ks most share tu top (g.length + 1) x7 x8)
    (J := fun n h => ∃ o' : Q.O, h = o' :: (g ++ [.dt (dtW w)]) ∧ Ok (N + 1 + n) o') (fun _ _ _ => trivial) ks [] (o :: (g ++ [.dt (dtW w)])) ⟨o, rfl, O.mono (by omega)⟩ (fun x hx n h ⟨o', e, O'⟩ => by
      subst e
      obtain ⟨r, o2, e2, _, _, O2⟩ := r_next (N := N + 1 + n) (g := g ++ [.dt (dtW w)]) (m := share) O' (by omega) (by omega)
      refine ⟨_, !(decide (r = 0) == tu), o2 :: (g ++ [.dt (dtW w)]), rfl, ?_, ⟨o2, rfl, O2⟩, rfl⟩
      simp -implicitDefEqProofs [e2]) (by simp; omega)
  obtain ⟨r, o2, e2, r0, r1, O2⟩ := r_next (N := N) (g := g ++ [.dt (dtW w)]) (m := top) (O1.mono (by omega)) (by omega) (by omega)
  refine ⟨o2, ys, 1 + r, ?_, sb, by omega, O2⟩
  simp only [List.map_nil, List.nil_append] at e
  have sq : ∀ h, seqK (ksD ks) h = .ok (ks.map .str, fun _ => True) h := fun _ => rfl
  have st := set_dtW' (g := g) (w := w) (xs := ys) (v := 1 + r) (o' := o2) (by omega)
  simp -implicitDefEqProofs only [b_n__law_world_1, run_sCons, run_sNil, run_sAsg, run_eCall, run_aCons, run_aNil, run_eLc, run_iSeq, run_eVar0, run_eVarS, Res.bind, sq, wipeA, List.set, e, tuple_fro, lif, Res.andS, run_gSlot, stO, seq_nx, run_eOp, run_eC, run_eFn, List.append_nil, e2, plus_int, gSubD, ksD_fold, st]
  rfl
theorem r_law_world {most : Int} (K : Kinds ks) (m1 : 1 ≤ most) (m2 : most ≤ 1000) (O : Ok (N + 50000) o) : ∃ w o', f_n__law_world [.ref 0, ksD ks, .int most] (o :: g) = .ok (wdD w) (o' :: g) ∧ World ks w ∧ (w.length : Int) ≤ most ∧ (∀ p ∈ w, p.2 ≤ 9) ∧ Ok N o' := by
  have k30 := K.most
  obtain ⟨d1, o1, e1, mm1, O1⟩ := r_pick (N := N + 49000) (g := g) (ds := [.int 2, .int 2, .int 5]) (Rows.fro (by simp) (by simp)) (O.mono (by omega))
  obtain ⟨share, hs, rfl⟩ : ∃ n : Int, (1 ≤ n ∧ n ≤ 5) ∧ d1 = .int n := by
    simp only [List.mem_cons, List.not_mem_nil, or_false] at mm1
    rcases mm1 with rfl | rfl | rfl
    · exact ⟨2, by omega, rfl⟩
    · exact ⟨2, by omega, rfl⟩
    · exact ⟨5, by omega, rfl⟩
  obtain ⟨tu, o2, e2, O2⟩ := r_bit (N := N + 48000) (g := g) (O1.mono (by omega))
  obtain ⟨d3, o3, e3, mm3, O3⟩ := r_pick (N := N + 47000) (g := g) (ds := [.int 1, .int 2, .int 2, .int 3, .int 9]) (Rows.fro (by simp) (by simp)) (O2.mono (by omega))
  obtain ⟨top, ht, rfl⟩ : ∃ n : Int, (1 ≤ n ∧ n ≤ 9) ∧ d3 = .int n := by
    simp only [List.mem_cons, List.not_mem_nil, or_false] at mm3
    rcases mm3 with rfl | rfl | rfl | rfl | rfl
    · exact ⟨1, by omega, rfl⟩
    · exact ⟨2, by omega, rfl⟩
    · exact ⟨2, by omega, rfl⟩
    · exact ⟨3, by omega, rfl⟩
    · exact ⟨9, by omega, rfl⟩
  obtain ⟨r, o4, e4, r0, r1, O4⟩ := r_next (N := N + 46000) (g := g ++ [.dt []]) (m := most) (O3.mono (by omega)) (by omega) (by omega)
  obtain ⟨M, hM⟩ : ∃ M : Nat, (M : Int) = 1 + r := ⟨(1 + r).toNat, by omega⟩
  have hr : ∀ g, rngK (.int (1 + r)) g = .ok (rangeD 0 M, fun _ => True) g := fun g => by
    rw [← hM]; exact rngK_of (by omega) (by omega)
  obtain ⟨x7, x8, w, o5, e5, W5, w0, wl, ws, O5⟩ := forL_inv (G := fun _ => True) (g := gSlot 7) (body := b_n__law_world_1)
    (R := fun r => ∃ (x7 x8 : Option Q.D) (w : List Srt) (o' : Q.O), r = .nx (σwd ks (.int most) share tu top (g.length + 1) x7 x8) (o' :: (g ++ [.dt (dtW w)])) ∧ Wi ks w ∧ w ≠ [] ∧ w.length ≤ M ∧ (∀ p ∈ w, p.2 ≤ 9) ∧ Ok N o')
    (fun ds σ h' => ∃ (x7 x8 : Option Q.D) (w : List Srt) (o' : Q.O), σ = σwd ks (.int most) share tu top (g.length + 1) x7 x8 ∧ h' = o' :: (g ++ [.dt (dtW w)]) ∧ Wi ks w ∧ (ds = [] → w ≠ []) ∧ w.length + ds.length ≤ M ∧ (∀ p ∈ w, p.2 ≤ 9) ∧ Ok (N + 40 * ds.length) o')
    (fun σ h' ⟨x7, x8, w, o', a1, a2, W, c, l, s, O⟩ => ⟨trivial, x7, x8, w, o', by rw [a1, a2], W, c rfl, l, s, O.mono (by omega)⟩)
    (fun d ds σ h' ⟨x7, x8, w, o', a1, a2, W, c, l, s, O⟩ => by
      subst a1 a2
      rw [List.length_cons] at l O
      refine ⟨trivial, σwd ks (.int most) share tu top (g.length + 1) (some d) x8, o' :: (g ++ [.dt (dtW w)]), rfl, ?_⟩
      obtain ⟨o'', xs, v, eb, sb, hv, O''⟩ := world_turn (g := g) (N := N + 40 * ds.length) (most := .int most) (tu := tu) (x7 := some d) (x8 := x8) k30 W (by omega) hs ht (O.mono (by omega))
      rw [eb]
      refine ⟨some d, some (ksD xs), putW w xs v, o'', rfl, rfl, W.put sb (by omega), fun _ => putW_ne, ?_, fun p hp => ?_, O''⟩
      · have := putW_len (w := w) (xs := xs) (v := v); omega
      · unfold putW at hp
        split at hp
        · obtain ⟨q, hq, rfl⟩ := List.mem_map.mp hp
          split
          · exact hv.2
          · exact s q hq
        · rcases List.mem_append.mp hp with m | m
          · exact s p m
          · rw [List.mem_singleton.mp m]; exact hv.2)
    (rangeD 0 M) (σwd ks (.int most) share tu top (g.length + 1) none none) (o4 :: (g ++ [.dt (dtW [])]))
    ⟨none, none, [], o4, rfl, rfl, ⟨by simp, by simp, by simp⟩, (fun z => by
      have := congrArg List.length z
      rw [rangeD_len] at this
      simp at this; omega), by rw [rangeD_len]; simp, by simp, O4.mono (by rw [rangeD_len]; omega)⟩
  have WW := W5.world K.asc w0 (by omega)
  have pm := List.mergeSort_perm w leW
  have di := run_eDItems (i := 6) (j := 8) (σ := σwd ks (.int most) share tu top (g.length + 1) x7 x8) (h := o5 :: (g ++ [.dt (dtW w)])) (x := .ref (g.length + 1)) rfl (by simp)
  rw [itemsV_of (kvs := dtW w) (by simp)] at di
  have em : ((dtW w).map fun p => Q.D.tup [p.1, p.2]) = w.map soD := by rw [dtW, List.map_map]; rfl
  rw [em] at di
  have so := sort_so (h := o5 :: (g ++ [.dt (dtW w)])) (w := w) (by omega)
  refine ⟨w.mergeSort leW, o5, ?_, WW, by rw [pm.length_eq]; omega, fun p hp => ws p (pm.mem_iff.mp hp), O5⟩
  rw [e_n__law_world]
  simp -implicitDefEqProofs only [m_n__law_world, run_sCons, run_sNil, run_sAsg, run_eFn, run_aCons, run_aNil, run_eVar0, run_eVarS, Res.bind, List.append_nil, run_eLst, run_eC, List.length_cons, List.length_nil, Nat.zero_add, Nat.reduceAdd, Nat.reduceLeDiff, if_true, e1, e2, e3, Res.andS, run_gSlot, stO, List.set, seq_nx, run_eNewT, List.cons_append, run_sFor, run_iRange1, run_eOp, e4, plus_int, lif, hr]
  have e5' := e5
  have d0 : dtW [] = [] := rfl
  simp -implicitDefEqProofs only [σwd, d0] at e5' di
  simp -implicitDefEqProofs only [e5', seq_nx, run_sCons, run_sNil, run_sRet, run_eCall, run_aCons, run_aNil, Res.bind, Res.andS]
  rw [di]
  simp -implicitDefEqProofs only [Res.bind, so, lif, tuple_fro, seq_rt, retOf_rt]
  exact trim_str O5 clo_wd
end P

namespace P
open PySem PySem.Spec PyProof.Rows L2 Q G
variable {h g : AH} {i j k : Int} {b : Bool} {ds : List Q.D} {ks os xs ys : List Str} {N : Nat} {o : O} {s t u : Tm} {p q r : Sen}
variable {l : AH} {x y : Str} {w : List Srt}
/-! ### the law -/
theorem cl_one (O : Ok N o) : Cl [o] := fun x m => by
  rw [List.mem_singleton.mp m]
  exact ok_clo O
theorem trim_bl {h h' : AH} {b v : Bool} : ∃ h'', trimR h b (.ok (.bl v) h') = .ok (.bl v) h'' := by
  rw [trimR_ok]
  by_cases h1 : h'.length = h.length
  · exact ⟨_, by rw [if_pos h1]⟩
  · rw [if_neg h1]
    by_cases h2 : okT h h' ∧ closed h.length (.bl v) = true
    · exact ⟨_, by rw [if_pos h2]⟩
    · exact ⟨_, by rw [if_neg h2]; rfl⟩
abbrev σlw (ns : List Int) (ks : List Str) (x3 x4 x5 x6 x7 x8 x9 x10 : Option Q.D) : AS := [some (.scr (ns.map .int)), some (.ref 0), some (ksD ks), x3, x4, x5, x6, x7, x8, x9, x10]
theorem law_1 {ns : List Int} (K : Kinds ks) (O : Ok (N + 60000) o) {x3 x4 x5 x6 x7 x8 x9 x10 : Option Q.D} : ∃ o' y, b_law_1 (σlw ns ks x3 x4 x5 x6 x7 x8 x9 x10) [o] = .nx (σlw ns ks x3 x4 x5 x6 x7 x8 y x10) [o'] ∧ Ok N o' := by
  have kp := K.pos
  have k30 := K.most
  obtain ⟨s, o1, e1, S1, O1⟩ := r_sentence (N := N + 59000) (g := []) (ks := ks) (by omega) (by omega) (O.mono (by omega))
  have F := S1.free K.kind
  obtain ⟨w, o2, e2, WW, _, _, O2⟩ := r_law_world (N := N) (g := []) (most := 5) K (by omega) (by omega) (O1.mono (by omega))
  have a1 := r_law_forms (h := [o1]) F
  have a2 := r_law_by_one (h := [o1]) (cl_one O1) F
  have a3 := r_law_held (h := [o2]) (cl_one O2) K WW S1
  refine ⟨o2, some (snD s), ?_, O2⟩
  simp -implicitDefEqProofs [b_law_1, σlw, e1, a1, a2, e2, a3]
theorem law_2 {ns : List Int} (hw : p.w ∈ WD) (hx : Kind x) (O : Ok N o) {n : Nat} (hn : n < 4) {x3 x6 x7 x8 x9 : Option Q.D} : ∃ y, b_law_2 (σlw ns ks x3 (some (.str x)) (some (.str p.w)) x6 x7 x8 x9 (some (.int n))) [o] = .nx (σlw ns ks x3 (some (.str x)) (some (.str p.w)) x6 x7 x8 y (some (.int n))) [o] := by
  have F : Free ⟨p.w, (x, decide ((n : Int) < 2)), (x, decide ((n : Int) % 2 = 0))⟩ := ⟨hw, hx, hx⟩
  have a1 := r_law_forms (h := [o]) F
  have a2 := r_law_by_one (h := [o]) (cl_one O) F
  have hm : ∀ g, dMod (.int (n : Int)) (.int 2) g = some (.int ((n : Int) % 2), g) := fun g => mod_ok (by omega)
  simp -implicitDefEqProofs only [snD, tmD] at a1 a2
  refine ⟨some (snD ⟨p.w, (x, decide ((n : Int) < 2)), (x, decide ((n : Int) % 2 = 0))⟩), ?_⟩
  simp -implicitDefEqProofs only [b_law_2, σlw, run_sCons, run_sNil, run_sAsg, run_eTup, run_aCons, run_aNil, run_eVar0, run_eVarS, Res.bind, run_eOp, run_eC, Q.lt_int', lif, run_eCall, int_int, hm, Q.eq_int, List.length_cons, List.length_nil, Nat.zero_add, Nat.reduceAdd, Nat.reduceLeDiff, if_true, Res.andS, run_gSlot, stO, List.set, seq_nx, run_sIf, run_tOr, run_tNot, run_mB, run_eFn, List.append_nil, a1, a2, asB, Bool.not_true, Bool.false_eq_true, if_false]
  rfl
theorem law_3 {ns : List Int} (hw : p.w ∈ WD) (hx : Kind x) (O : Ok N o) {x3 x6 x7 x8 x9 x10 : Option Q.D} : ∃ y z, b_law_3 (σlw ns ks x3 (some (.str x)) (some (.str p.w)) x6 x7 x8 x9 x10) [o] = .nx (σlw ns ks x3 (some (.str x)) (some (.str p.w)) x6 x7 x8 y z) [o] := by
  obtain ⟨M, hr, hM⟩ : ∃ M : Nat, (∀ g, rngK (.int 4) g = .ok (rangeD 0 M, fun _ => True) g) ∧ M = 4 := ⟨Int.toNat 4, fun g => rngK_of (by decide) (by decide), rfl⟩
  obtain ⟨y, z, e⟩ := forL_inv (G := fun _ => True) (g := gSlot 10) (body := b_law_2)
    (R := fun r => ∃ y z, r = .nx (σlw ns ks x3 (some (.str x)) (some (.str p.w)) x6 x7 x8 y z) [o])
    (fun ds σ h' => (∀ d ∈ ds, ∃ n : Nat, n < 4 ∧ d = .int n) ∧ ∃ y z, σ = σlw ns ks x3 (some (.str x)) (some (.str p.w)) x6 x7 x8 y z ∧ h' = [o])
    (fun σ h' ⟨_, y, z, a, c⟩ => ⟨trivial, y, z, by rw [a, c]⟩)
    (fun d ds σ h' ⟨hd, y, z, a, c⟩ => by
      subst a c
      obtain ⟨n, hn, rfl⟩ := hd d List.mem_cons_self
      refine ⟨trivial, σlw ns ks x3 (some (.str x)) (some (.str p.w)) x6 x7 x8 y (some (.int n)), [o], rfl, ?_⟩
      obtain ⟨y2, eb⟩ := law_2 (ns := ns) (ks := ks) (x3 := x3) (x6 := x6) (x7 := x7) (x8 := x8) (x9 := y) hw hx O hn
      rw [eb]
      exact ⟨fun d hd' => hd d (List.mem_cons_of_mem _ hd'), _, _, rfl, rfl⟩)
    (rangeD 0 M) (σlw ns ks x3 (some (.str x)) (some (.str p.w)) x6 x7 x8 x9 x10) [o] ⟨fun d hd => by
      obtain ⟨n, hn, rfl⟩ := mem_rangeD hd
      exact ⟨n, by omega, by simp⟩, x9, x10, rfl, rfl⟩
  refine ⟨y, z, ?_⟩
  simp -implicitDefEqProofs only [b_law_3, run_sCons, run_sNil, run_sFor, run_iRange1, run_eC, Res.bind, hr, Res.andS]
  rw [e]
  rfl
theorem Kinds.take {n : Nat} (K : Kinds ks) (hn : 1 ≤ n) : Kinds (ks.take n) := ⟨fun k hk => K.kind k (List.mem_of_mem_take hk), K.asc.sublist (List.take_sublist _ _), by have := K.pos; rw [List.length_take]; omega, by have := K.most; rw [List.length_take]; omega⟩
theorem law_plain {ns : List Int} (hl : ns.length ≤ 63) : ∃ h', f_law [.scr (ns.map .int)] [] = .ok (.bl true) h' := by
  rw [e_law]
  have e0 := r_stream hl
  obtain ⟨r0, oa, ea, ra0, ra1, Oa⟩ := r_next (N := 999999999) (g := []) (m := 30) (ok_start (ns := ns)) (by omega) (by omega)
  obtain ⟨d1, o1, e1, mm, O1⟩ := r_pick (N := 999999998) (g := []) (ds := [.int 1, .int 2, .int 3, .int 5, .int 30, .int (1 + r0)]) (Rows.fro (by simp) (by simp)) Oa
  obtain ⟨n, hn1, hn2, rfl⟩ : ∃ n : Int, 1 ≤ n ∧ n ≤ 30 ∧ d1 = .int n := by
    simp only [List.mem_cons, List.not_mem_nil, or_false] at mm
    rcases mm with rfl | rfl | rfl | rfl | rfl | rfl
    · exact ⟨1, by omega, by omega, rfl⟩
    · exact ⟨2, by omega, by omega, rfl⟩
    · exact ⟨3, by omega, by omega, rfl⟩
    · exact ⟨5, by omega, by omega, rfl⟩
    · exact ⟨30, by omega, by omega, rfl⟩
    · exact ⟨1 + r0, by omega, by omega, rfl⟩
  obtain ⟨ks, o2, e2, K, O2⟩ := r_kinds (N := 900000000) (g := []) hn1 hn2 (O1.mono (by omega))
  have kp := K.pos
  have k30 := K.most
  obtain ⟨M, hr, hM⟩ : ∃ M : Nat, (∀ g, rngK (.int 12) g = .ok (rangeD 0 M, fun _ => True) g) ∧ M = 12 := ⟨Int.toNat 12, fun g => rngK_of (by decide) (by decide), rfl⟩
  obtain ⟨x3, x9, o6, e6, O6⟩ := forL_inv (G := fun _ => True) (g := gSlot 3) (body := b_law_1)
    (R := fun r => ∃ (x3 x9 : Option Q.D) (o' : Q.O), r = .nx (σlw ns ks x3 none none none none none x9 none) [o'] ∧ Ok 600000000 o')
    (fun ds σ h' => ∃ (x3 x9 : Option Q.D) (o' : Q.O), σ = σlw ns ks x3 none none none none none x9 none ∧ h' = [o'] ∧ Ok (600000000 + 60000 * ds.length) o')
    (fun σ h' ⟨x3, x9, o', a, c, O⟩ => ⟨trivial, x3, x9, o', by rw [a, c], O.mono (by omega)⟩)
    (fun d ds σ h' ⟨x3, x9, o', a, c, O⟩ => by
      subst a c
      rw [List.length_cons] at O
      refine ⟨trivial, σlw ns ks (some d) none none none none none x9 none, [o'], rfl, ?_⟩
      obtain ⟨o'', y, eb, O'⟩ := law_1 (ns := ns) (N := 600000000 + 60000 * ds.length) (x3 := some d) (x4 := none) (x5 := none) (x6 := none) (x7 := none) (x8 := none) (x9 := x9) (x10 := none) K (O.mono (by omega))
      rw [eb]
      exact ⟨some d, y, o'', rfl, rfl, O'⟩)
    (rangeD 0 M) (σlw ns ks none none none none none none none none) [o2] ⟨none, none, o2, rfl, rfl, O2.mono (by rw [rangeD_len]; omega)⟩
  obtain ⟨d7, o7, e7, m7, O7⟩ := r_pick (N := 500000000) (g := []) (Rows.kinds K) (O6.mono (by omega))
  obtain ⟨x, hx, rfl⟩ := List.mem_map.mp m7
  have hx := K.kind x hx
  obtain ⟨x5, x9', x10, e8⟩ := forL_inv (G := fun _ => True) (g := gSlot 5) (body := b_law_3)
    (R := fun r => ∃ (x5 x9 x10 : Option Q.D), r = .nx (σlw ns ks x3 (some (.str x)) x5 none none none x9 x10) [o7])
    (fun ds σ h' => (∀ d ∈ ds, ∃ p : Sen, d = .str p.w ∧ p.w ∈ WD) ∧ ∃ (x5 x9 x10 : Option Q.D), σ = σlw ns ks x3 (some (.str x)) x5 none none none x9 x10 ∧ h' = [o7])
    (fun σ h' ⟨_, x5, x9, x10, a, c⟩ => ⟨trivial, x5, x9, x10, by rw [a, c]⟩)
    (fun d ds σ h' ⟨hd, x5, x9, x10, a, c⟩ => by
      subst a c
      obtain ⟨p, rfl, hw⟩ := hd d List.mem_cons_self
      refine ⟨trivial, σlw ns ks x3 (some (.str x)) (some (.str p.w)) none none none x9 x10, [o7], rfl, ?_⟩
      obtain ⟨y, z, eb⟩ := law_3 (ns := ns) (ks := ks) (x3 := x3) (x6 := none) (x7 := none) (x8 := none) (x9 := x9) (x10 := x10) hw hx O7
      rw [eb]
      exact ⟨fun x hx => hd x (List.mem_cons_of_mem _ hx), some (.str p.w), y, z, rfl, rfl⟩)
    [.str "all", .str "some", .str "more", .str "many"] (σlw ns ks x3 (some (.str x)) none none none none x9 none) [o7]
    ⟨fun d hd => by
      simp only [List.mem_cons, List.not_mem_nil, or_false] at hd
      rcases hd with rfl | rfl | rfl | rfl
      · exact ⟨⟨"all", (x, true), (x, true)⟩, rfl, (show ("all" : Str) ∈ WD by decide)⟩
      · exact ⟨⟨"some", (x, true), (x, true)⟩, rfl, (show ("some" : Str) ∈ WD by decide)⟩
      · exact ⟨⟨"more", (x, true), (x, true)⟩, rfl, (show ("more" : Str) ∈ WD by decide)⟩
      · exact ⟨⟨"many", (x, true), (x, true)⟩, rfl, (show ("many" : Str) ∈ WD by decide)⟩, none, x9, none, rfl, rfl⟩
  obtain ⟨d9, o9, e9, m9, O9⟩ := r_pick (N := 400000000) (g := []) (ds := [.int 1, .int 2, .int 3, .int 6, .int 12, .int 30]) (Rows.fro (by simp) (by simp)) (O7.mono (by omega))
  obtain ⟨m, hm, rfl⟩ : ∃ m : Nat, 1 ≤ m ∧ d9 = .int m := by
    simp only [List.mem_cons, List.not_mem_nil, or_false] at m9
    rcases m9 with rfl | rfl | rfl | rfl | rfl | rfl
    · exact ⟨1, by omega, rfl⟩
    · exact ⟨2, by omega, rfl⟩
    · exact ⟨3, by omega, rfl⟩
    · exact ⟨6, by omega, rfl⟩
    · exact ⟨12, by omega, rfl⟩
    · exact ⟨30, by omega, rfl⟩
  have sl : ∀ h, dSl (ksD ks) none (some (m : Int)) h = some (ksD (ks.take m), h) := fun h => by
    show some (Q.D.tup (Q.cutD (ks.map .str) none (some (m : Int))), h) = _
    rw [cutD_to (by omega), ← List.map_take, Int.toNat_natCast]; rfl
  have KF := K.take hm
  generalize ks.take m = fs at sl KF
  have f30 := KF.most
  have fp := KF.pos
  have pa := r_law_plain_all (h := [o9]) (ks := fs) (by omega)
  have pl := pln_len KF.asc
  have ps := r_plain_sentences (h := [o9]) KF
  have l2 : (pln' (tms fs)).length ≤ 7320 := by
    rw [pl]
    have h1 : 4 * fs.length ≤ 120 := by omega
    have h2 : 2 * fs.length + 1 ≤ 61 := by omega
    exact Nat.mul_le_mul h1 h2
  have sm := r_law_same (h := [o9]) (d := .tup ((pln' (tms fs)).map snD)) (by rw [sz, szs_sns]; omega) (by rw [pln]; exact plns_sns _)
  have q1 : ∀ h, dMul (.int 4) (.int (fs.length : Int)) h = some (.int (4 * (fs.length : Int)), h) := fun h => mul_ok (by omega) (by omega) (by omega) (by omega)
  have q2 : ∀ h, dMul (.int 2) (.int (fs.length : Int)) h = some (.int (2 * (fs.length : Int)), h) := fun h => mul_ok (by omega) (by omega) (by omega) (by omega)
  have q3 : ∀ h, dMul (.int (4 * (fs.length : Int))) (.int (2 * (fs.length : Int) + 1)) h = some (.int (4 * (fs.length : Int) * (2 * (fs.length : Int) + 1)), h) := fun h => mul_ok (by omega) (by omega) (by omega) (by omega)
  have pl' : ((pln' (tms fs)).length : Int) = 4 * (fs.length : Int) * (2 * (fs.length : Int) + 1) := by rw [pl]; simp
  simp -implicitDefEqProofs only [σlw] at e6 e8
  simp -implicitDefEqProofs only [m_law, run_sCons, run_sNil, run_sAsg, run_eFn, run_aCons, run_aNil, run_eVar0, run_eVarS, Res.bind, List.append_nil, e0, Res.andS, run_gSlot, stO, List.set, seq_nx, run_eLst, run_eC, run_eOp, ea, plus_int, lif, List.length_cons, List.length_nil, Nat.zero_add, Nat.reduceAdd, Nat.reduceLeDiff, if_true, e1, e2, run_sFor, run_iRange1, hr, e6, e7, run_iSeq, seqK_fro, e8, run_eSl, run_oNil, run_oSome, e9, dInt?_int, sl, pa, run_eCall, ln_ks, run_sRet, run_eAnd, len_fro', List.length_map, q1, q2, q3, pl', Q.eq_int, decide_true, dif_bl, ps, tuple_fro, sm, seq_rt, retOf_rt]
  exact trim_bl
end P

theorem PySem.Challenge.cw_morethan_k02_whole_contraries_and_mirror_holds : PySem.Challenge.rw_morethan_k02_whole_contraries_and_mirror.Holds :=
  G.holds_of fun ns hl => P.law_plain hl
